import PyProof.Rows.All
import Wide.All
import OpenK.AllK
import Wide.FinOn
import HandS.ForMost
import HandS.Evl
import HandS.Gcd
import HandS.Wide
import HandS.Conv
import HandS.IsInst
import HandS.Codes
import PySem.Challenge.RW_bestodds_k17_costs_of_policies
import HandS.AnyAll
import HandS.Comp
import HandS.GenOver
import HandS.GenList
import HandS.HeadHook4
import HandS.HeadWalk
import HandS.Head0
import HandS.Head1
import HandS.Head2
import KE.GoesMore
import HandS.Iter
import HandS.TupAny
import HandS.TupMul
import HandS.Style
import HandS.ListItems
import HandS.SortRule
import HandS.CallLocal
import HandS.SortInts
import HandS.NoneIn
import HandS.HeadHook3
import HandS.DictComp
import HandS.Head3
import HandS.HeadEnd
import HandS.HeadHook1
import HandS.HeadHook2
set_option Elab.async false
set_option linter.all false
set_option maxRecDepth 100000
set_option maxHeartbeats 4000000
namespace L3
open PySem L2
open Evl (Ex ex_rd ex_l ex_t sq_of st_of fresh_back)

abbrev Fg := PySem.W.Frag

/-! ### how data stands in the heap -/
structure Rep (α : Type) where
  is : Fg → Hp → V → α → Prop
  mono : ∀ {K : Fg} {B B' : Hp} {v : V} {a : α}, Ex B B' → is K B v a → is K B' v a
structure CRep (α : Type) where
  is : Fg → Hp → HO → α → Prop
  mono : ∀ {K : Fg} {B B' : Hp} {o : HO} {a : α}, Ex B B' → is K B o a → is K B' o a

theorem paired_mono {α : Type} {r : Rep α} {K : Fg} {B B' : Hp} (e : Ex B B') : ∀ {xs : List V} {as : List α}, Paired (r.is K B) xs as → Paired (r.is K B') xs as
  | _, _, .nil => .nil
  | _, _, .cons h t => .cons (r.mono e h) (paired_mono e t)
theorem paired_len {α β : Type} {F : α → β → Prop} : ∀ {xs : List α} {as : List β}, Paired F xs as → xs.length = as.length
  | _, _, .nil => rfl
  | _, _, .cons _ t => congrArg (· + 1) (paired_len t)
theorem paired_get {α β : Type} {F : α → β → Prop} : ∀ {xs : List α} {as : List β} {i : Nat} {a : β}, Paired F xs as → as[i]? = some a → ∃ x, xs[i]? = some x ∧ F x a
  | _, _, _, _, .nil, e => by simp at e
  | _, _, 0, _, .cons r _, e => by simp at e; subst e; exact ⟨_, rfl, r⟩
  | _, _, i + 1, a, .cons _ t, e => by
    obtain ⟨u, h1, h2⟩ := paired_get (i := i) (a := a) t (by simpa using e)
    exact ⟨u, by simpa using h1, h2⟩
theorem paired_app {α β : Type} {F : α → β → Prop} : ∀ {xs ys : List α} {as bs : List β}, Paired F xs as → Paired F ys bs → Paired F (xs ++ ys) (as ++ bs)
  | _, _, _, _, .nil, s => s
  | _, _, _, _, .cons r t, s => .cons r (paired_app t s)
theorem paired_set {α β : Type} {F : α → β → Prop} {x : α} {a : β} (r : F x a) : ∀ {xs : List α} {as : List β} (i : Nat), Paired F xs as → Paired F (xs.set i x) (as.set i a)
  | _, _, _, .nil => .nil
  | _, _, 0, .cons _ t => .cons r t
  | _, _, i + 1, .cons q t => .cons q (paired_set r i t)
theorem paired_drop {α β : Type} {F : α → β → Prop} : ∀ {xs : List α} {as : List β} (n : Nat), Paired F xs as → Paired F (xs.drop n) (as.drop n)
  | _, _, 0, r => r
  | _, _, _ + 1, .nil => .nil
  | _, _, n + 1, .cons _ t => paired_drop n t
theorem paired_take {α β : Type} {F : α → β → Prop} : ∀ {xs : List α} {as : List β} (n : Nat), Paired F xs as → Paired F (xs.take n) (as.take n)
  | _, _, 0, _ => .nil
  | _, _, _ + 1, .nil => .nil
  | _, _, n + 1, .cons r t => .cons r (paired_take n t)
theorem paired_rev {α β : Type} {F : α → β → Prop} : ∀ {xs : List α} {as : List β}, Paired F xs as → Paired F xs.reverse as.reverse
  | _, _, .nil => .nil
  | _, _, .cons r t => by
    rw [List.reverse_cons, List.reverse_cons]
    exact paired_app (paired_rev t) (.cons r .nil)
theorem paired_map {α β γ : Type} {F : γ → β → Prop} {f : α → γ} {g : α → β} (h : ∀ a, F (f a) (g a)) : ∀ (l : List α), Paired F (l.map f) (l.map g)
  | [] => .nil
  | a :: l => .cons (h a) (paired_map h l)
theorem paired_imp {α β : Type} {F G : α → β → Prop} (h : ∀ a b, F a b → G a b) : ∀ {xs : List α} {as : List β}, Paired F xs as → Paired G xs as
  | _, _, .nil => .nil
  | _, _, .cons r t => .cons (h _ _ r) (paired_imp h t)

def rInt : Rep Int := ⟨fun _ _ v a => v = .int a, fun _ h => h⟩
def rBool : Rep Bool := ⟨fun _ _ v a => v = .bl a, fun _ h => h⟩
def rStr : Rep Str := ⟨fun _ _ v a => v = .str a, fun _ h => h⟩
def rNon : Rep Unit := ⟨fun _ _ v _ => v = .non, fun _ h => h⟩
def rRef : Rep Addr := ⟨fun _ _ v a => v = .ref a, fun _ h => h⟩
def rVal : Rep V := ⟨fun _ _ v a => v = a, fun _ h => h⟩
def rOpt {α : Type} (r : Rep α) : Rep (Option α) := ⟨fun K B v a => match a with | none => v = .non | some x => r.is K B v x, fun {K B B' v a} e h => by
  cases a with
  | none => exact h
  | some x => exact r.mono e h⟩
def rTup {α : Type} (r : Rep α) : Rep (List α) := ⟨fun K B v as => ∃ p xs, v = .ref p ∧ SqT K B p xs ∧ Paired (r.is K B) xs as, fun e ⟨p, xs, h1, h2, h3⟩ => ⟨p, xs, h1, ex_t e h2, paired_mono e h3⟩⟩
/-- the script -/
def rScr {α : Type} (r : Rep α) : Rep (List α) := ⟨fun K B v as => ∃ p xs, v = .ref p ∧ SqL K B p xs ∧ Paired (r.is K B) xs as, fun e ⟨p, xs, h1, h2, h3⟩ => ⟨p, xs, h1, ex_l e h2, paired_mono e h3⟩⟩
def rLst {α : Type} (r : Rep α) : Rep (List α) := ⟨fun K B v as => ∃ p xs, v = .ref p ∧ B p = some (.lst xs) ∧ Paired (r.is K B) xs as, fun e ⟨p, xs, h1, h2, h3⟩ => ⟨p, xs, h1, e _ _ h2, paired_mono e h3⟩⟩
def rSeq {α : Type} (r : Rep α) : Rep (List α) := ⟨fun K B v as => ∃ p xs, v = .ref p ∧ (SqL K B p xs ∨ SqT K B p xs) ∧ Paired (r.is K B) xs as, fun e ⟨p, xs, h1, h2, h3⟩ => ⟨p, xs, h1, h2.imp (ex_l e) (ex_t e), paired_mono e h3⟩⟩
def rT2 {α β : Type} (r : Rep α) (s : Rep β) : Rep (α × β) := ⟨fun K B v a => ∃ p x y, v = .ref p ∧ SqT K B p [x, y] ∧ r.is K B x a.1 ∧ s.is K B y a.2,
  fun e ⟨p, x, y, h1, h2, h3, h4⟩ => ⟨p, x, y, h1, ex_t e h2, r.mono e h3, s.mono e h4⟩⟩
def rT3 {α β γ : Type} (r : Rep α) (s : Rep β) (t : Rep γ) : Rep (α × β × γ) := ⟨fun K B v a => ∃ p x y z, v = .ref p ∧ SqT K B p [x, y, z] ∧ r.is K B x a.1 ∧ s.is K B y a.2.1 ∧ t.is K B z a.2.2,
  fun e ⟨p, x, y, z, h1, h2, h3, h4, h5⟩ => ⟨p, x, y, z, h1, ex_t e h2, r.mono e h3, s.mono e h4, t.mono e h5⟩⟩
def cLst {α : Type} (r : Rep α) : CRep (List α) := ⟨fun K B o as => ∃ xs, o = .lst xs ∧ Paired (r.is K B) xs as, fun e ⟨xs, h1, h2⟩ => ⟨xs, h1, paired_mono e h2⟩⟩
/-- a list [u, v] of two kinds -/
def cL2 {α β : Type} (r : Rep α) (s : Rep β) : CRep (α × β) := ⟨fun K B o a => ∃ x y, o = .lst [x, y] ∧ r.is K B x a.1 ∧ s.is K B y a.2, fun e ⟨x, y, h1, h2, h3⟩ => ⟨x, y, h1, r.mono e h2, s.mono e h3⟩⟩
theorem rTup_seq {α : Type} {r : Rep α} {K : Fg} {B : Hp} {v : V} {as : List α} (h : (rTup r).is K B v as) : (rSeq r).is K B v as := by
  obtain ⟨p, xs, h1, h2, h3⟩ := h
  exact ⟨p, xs, h1, .inr h2, h3⟩
theorem rLst_seq {α : Type} {r : Rep α} {K : Fg} {B : Hp} {v : V} {as : List α} (h : (rLst r).is K B v as) : (rSeq r).is K B v as := by
  obtain ⟨p, xs, h1, h2, h3⟩ := h
  exact ⟨p, xs, h1, .inl (sq_of h2), h3⟩
theorem rl_sc {α : Type} {r : Rep α} {K : Fg} {B : Hp} {v : V} {as : List α} (h : (rLst r).is K B v as) : (rScr r).is K B v as := by
  obtain ⟨p, xs, h1, h2, h3⟩ := h
  exact ⟨p, xs, h1, sq_of h2, h3⟩
theorem rScr_seq {α : Type} {r : Rep α} {K : Fg} {B : Hp} {v : V} {as : List α} (h : (rScr r).is K B v as) : (rSeq r).is K B v as := by
  obtain ⟨p, xs, h1, h2, h3⟩ := h
  exact ⟨p, xs, h1, .inl h2, h3⟩

/-! ### the heap in three: B stays, M is not ours, L may change -/
structure Cell : Type 1 where
  {α : Type}
  p : Addr
  c : CRep α
  a : α
def Cell.ok (K : Fg) (B H : Hp) (x : Cell) : Prop := ∃ o, H x.p = some o ∧ x.c.is K B o x.a
/-- what is not ours; the code objects' tables that may grow -/
structure Fr where
  h : Hp
  T : List Addr
instance : CoeFun Fr fun _ => Addr → Option HO := ⟨Fr.h⟩
instance : CoeOut Fr Hp := ⟨Fr.h⟩
structure Own (K : Fg) (B : Hp) (M : Fr) (L : List Cell) (H : Hp) : Prop where
  b : Ex B H
  m : Ex M.h H
  bm : ∀ a, B a = none ∨ M a = none
  l : ∀ x ∈ L, x.ok K B H ∧ B x.p = none ∧ M x.p = none
  nd : (L.map (·.p)).Nodup
  t : ∀ P ∈ M.T, GxR.TabG H P ∧ B P = none ∧ M P = none ∧ P ∉ L.map (·.p)
section
variable {K : Fg} {B B' H H' : Hp} {M : Fr} {L L' : List Cell} {p : Addr} {o : HO} {α : Type} {c : CRep α} {a a' : α}
theorem Cell.ok.mono {x : Cell} (e : Ex B B') (h : x.ok K B H) : x.ok K B' H := by
  obtain ⟨o, h1, h2⟩ := h
  exact ⟨o, h1, x.c.mono e h2⟩
theorem tab_upd {H : Hp} {P p : Addr} {o : HO} (h : GxR.TabG H P) (ne : P ≠ p) : GxR.TabG (upd H p o) P := by
  obtain ⟨ps, h1, h2⟩ := h
  exact ⟨ps, by rw [upd_ne ne]; exact h1, h2⟩
theorem tab_ne {H : Hp} {P p : Addr} (h : GxR.TabG H P) (hp : H p = none) : P ≠ p := fun e => by
  obtain ⟨ps, h1, _⟩ := h
  rw [e, hp] at h1
  cases h1
/-- without the tables -/
def noT (H : Hp) (T : List Addr) : Hp := fun a => if a ∈ T then none else H a
theorem Own.start (K : Fg) (H : Hp) (T : List Addr) (hT : ∀ P ∈ T, GxR.TabG H P) : Own K (noT H T) ⟨fun _ => none, T⟩ [] H := ⟨fun a u h => by
    unfold noT at h
    split at h
    · cases h
    · exact h, fun _ _ h => (by cases h), fun _ => .inr rfl, fun _ h => absurd h (by simp), by simp, fun P hP => ⟨hT P hP, by unfold noT; rw [if_pos hP], rfl, by simp⟩⟩
theorem sq_noT {K : Fg} {H : Hp} {T : List Addr} {a : Addr} {xs : List V} (hT : ∀ P ∈ T, GxR.TabG H P) (h : SqL K H a xs) : SqL K (noT H T) a xs := by
  have ne : ∀ u, H a = some u → (∀ ps, u ≠ .tbl ps) → noT H T a = some u := fun u e n => by
    unfold noT
    split
    · rename_i hm
      obtain ⟨ps, h1, _⟩ := hT a hm
      rw [e] at h1
      exact absurd (Option.some.inj h1) (n ps)
    · exact e
  rcases h with (h | ⟨o, h⟩) | h
  · exact .inl (.inl (ne _ h fun _ e => by cases e))
  · exact .inl (.inr ⟨o, ne _ h fun _ e => by cases e⟩)
  · exact .inr h
/-- a new thing that stays -/
theorem Own.ext (w : Own K B M L H) (hp : H p = none) : Own K (upd B p o) M L (upd H p o) := by
  have hB : B p = none := fresh_back w.b hp
  have hM : M p = none := fresh_back w.m hp
  refine ⟨fun b u e => ?_, fun b u e => ?_, fun b => ?_, fun x hx => ?_, w.nd, fun P hP => ?_⟩
  rotate_right
  · obtain ⟨h1, h2, h3, h4⟩ := w.t P hP
    have ne := tab_ne h1 hp
    exact ⟨tab_upd h1 ne, by rw [upd_ne ne]; exact h2, h3, h4⟩
  · by_cases hb : b = p
    · rw [hb, upd_same] at e; rw [hb, upd_same]; exact e
    · rw [upd_ne hb] at e; rw [upd_ne hb]; exact w.b b u e
  · rw [upd_ne (ne_of_none e hM)]; exact w.m b u e
  · by_cases hb : b = p
    · right; rw [hb]; exact hM
    · rw [upd_ne hb]; exact w.bm b
  · obtain ⟨⟨u, h1, h2⟩, h3, h4⟩ := w.l x hx
    have ne : x.p ≠ p := ne_of_none h1 hp
    exact ⟨⟨u, by rw [upd_ne ne]; exact h1, x.c.mono (Ex.new hB) h2⟩, by rw [upd_ne ne]; exact h3, h4⟩
/-- a new thing that may change -/
theorem Own.new (w : Own K B M L H) (hp : H p = none) (h : c.is K B o a) : Own K B M (⟨p, c, a⟩ :: L) (upd H p o) := by
  have hB : B p = none := fresh_back w.b hp
  have hM : M p = none := fresh_back w.m hp
  refine ⟨fun b u e => ?_, fun b u e => ?_, w.bm, fun x hx => ?_, ?_, fun P hP => ?_⟩
  rotate_right
  · obtain ⟨h1, h2, h3, h4⟩ := w.t P hP
    have ne := tab_ne h1 hp
    exact ⟨tab_upd h1 ne, h2, h3, fun z => (List.mem_cons.mp z).elim ne h4⟩
  · rw [upd_ne (ne_of_none e hB)]; exact w.b b u e
  · rw [upd_ne (ne_of_none e hM)]; exact w.m b u e
  · rcases List.mem_cons.mp hx with rfl | hx
    · exact ⟨⟨o, upd_same, h⟩, hB, hM⟩
    · obtain ⟨⟨u, h1, h2⟩, h3, h4⟩ := w.l x hx
      exact ⟨⟨u, by rw [upd_ne (ne_of_none h1 hp)]; exact h1, h2⟩, h3, h4⟩
  · rw [List.map_cons, List.nodup_cons]
    refine ⟨fun hm => ?_, w.nd⟩
    obtain ⟨x, hx, e⟩ := List.mem_map.mp hm
    obtain ⟨⟨u, h1, _⟩, _⟩ := w.l x hx
    rw [e, show (Cell.mk p c a).p = p from rfl, hp] at h1
    cases h1
theorem nodup_at : ∀ {l : List Addr} {i j : Nat} {x : Addr}, l.Nodup → l[i]? = some x → l[j]? = some x → i = j := fun {l i j x} h a b => by
  obtain ⟨h1, e1⟩ := List.getElem?_eq_some_iff.mp a
  obtain ⟨h2, e2⟩ := List.getElem?_eq_some_iff.mp b
  exact (List.getElem_inj h).mp (e1.trans e2.symm)
theorem Own.at {i : Nat} {x : Cell} (w : Own K B M L H) (h : L[i]? = some x) : x.ok K B H ∧ B x.p = none ∧ M x.p = none := w.l x (List.mem_of_getElem? h)
theorem Own.ne {i j : Nat} {x y : Cell} (w : Own K B M L H) (h : L[i]? = some x) (h' : L[j]? = some y) (hij : i ≠ j) : x.p ≠ y.p := fun e => hij (nodup_at w.nd (by rw [List.getElem?_map, h]; rfl) (by rw [List.getElem?_map, h']; exact congrArg some e.symm))
/-- a change in place -/
theorem Own.set {i : Nat} (w : Own K B M L H) (h : L[i]? = some ⟨p, c, a⟩) {β : Type} {c' : CRep β} {a' : β} (h' : c'.is K B o a') : Own K B M (L.set i ⟨p, c', a'⟩) (upd H p o) := by
  obtain ⟨_, hB, hM⟩ := w.at h
  have ek : (L.set i ⟨p, c', a'⟩).map (·.p) = L.map (·.p) := by
    rw [List.map_set]
    refine List.ext_getElem? fun j => ?_
    by_cases hij : i = j
    · subst hij
      have hl : i < (L.map (·.p)).length := by rw [List.length_map]; exact (List.getElem?_eq_some_iff.mp h).1
      rw [List.getElem?_set_self hl, List.getElem?_map, h]; rfl
    · rw [List.getElem?_set_ne hij]
  refine ⟨fun b u e => ?_, fun b u e => ?_, w.bm, fun x hx => ?_, ?_, fun P hP => ?_⟩
  rotate_right
  · obtain ⟨h1, h2, h3, h4⟩ := w.t P hP
    have ne : P ≠ p := fun e => h4 (by rw [e]; exact List.mem_map.mpr ⟨_, List.mem_of_getElem? h, rfl⟩)
    exact ⟨tab_upd h1 ne, h2, h3, by rw [ek]; exact h4⟩
  · rw [upd_ne (ne_of_none e hB)]; exact w.b b u e
  · rw [upd_ne (ne_of_none e hM)]; exact w.m b u e
  · obtain ⟨j, hj⟩ := List.getElem?_of_mem hx
    by_cases hij : i = j
    · subst hij
      have hl : i < L.length := (List.getElem?_eq_some_iff.mp h).1
      rw [List.getElem?_set_self hl] at hj
      cases hj
      exact ⟨⟨o, upd_same, h'⟩, hB, hM⟩
    · rw [List.getElem?_set_ne hij] at hj
      obtain ⟨⟨u, h1, h2⟩, h3, h4⟩ := w.at hj
      have ne : x.p ≠ p := w.ne hj h (Ne.symm hij)
      exact ⟨⟨u, by rw [upd_ne ne]; exact h1, h2⟩, h3, h4⟩
  · have e : (L.set i ⟨p, c', a'⟩).map (·.p) = L.map (·.p) := by
      rw [List.map_set]
      refine List.ext_getElem? fun j => ?_
      by_cases hij : i = j
      · subst hij
        have hl : i < (L.map (·.p)).length := by rw [List.length_map]; exact (List.getElem?_eq_some_iff.mp h).1
        rw [List.getElem?_set_self hl, List.getElem?_map, h]; rfl
      · rw [List.getElem?_set_ne hij]
    rw [e]; exact w.nd
theorem Own.perm {L' : List Cell} (w : Own K B M L H) (h : ∀ x ∈ L', x ∈ L) (nd : (L'.map (·.p)).Nodup) : Own K B M L' H := ⟨w.b, w.m, w.bm, fun x hx => w.l x (h x hx), nd, fun P hP => by
  obtain ⟨h1, h2, h3, h4⟩ := w.t P hP
  refine ⟨h1, h2, h3, fun z => h4 ?_⟩
  obtain ⟨x, hx, e⟩ := List.mem_map.mp z
  exact List.mem_map.mpr ⟨x, h x hx, e⟩⟩
theorem Own.erase (w : Own K B M L H) (i : Nat) : Own K B M (L.eraseIdx i) H := by
  refine w.perm (fun x hx => List.mem_of_mem_eraseIdx hx) ?_
  exact w.nd.sublist ((List.eraseIdx_sublist L i).map _)
theorem Own.tail {x : Cell} (w : Own K B M (x :: L) H) : Own K B M L H := w.erase 0
theorem Own.nil (w : Own K B M L H) : Own K B M [] H := w.perm (fun _ h => absurd h (by simp)) (by simp)
/-- what may change stays from now on -/
theorem Own.freeze {i : Nat} {x : Cell} (w : Own K B M L H) (h : L[i]? = some x) : ∃ o, H x.p = some o ∧ x.c.is K B o x.a ∧ B x.p = none ∧ Own K (upd B x.p o) M (L.eraseIdx i) H := by
  obtain ⟨⟨o, h1, h2⟩, hB, hM⟩ := w.at h
  refine ⟨o, h1, h2, hB, fun b u e => ?_, w.m, fun b => ?_, fun y hy => ?_, w.nd.sublist ((List.eraseIdx_sublist L i).map _), fun P hP => ?_⟩
  rotate_right
  · obtain ⟨t1, t2, t3, t4⟩ := w.t P hP
    have ne : P ≠ x.p := fun e => t4 (by rw [e]; exact List.mem_map.mpr ⟨_, List.mem_of_getElem? h, rfl⟩)
    exact ⟨t1, by rw [upd_ne ne]; exact t2, t3, fun z => t4 (((List.eraseIdx_sublist L i).map _).subset z)⟩
  · by_cases hb : b = x.p
    · rw [hb, upd_same] at e; rw [hb, h1]; exact e
    · rw [upd_ne hb] at e; exact w.b b u e
  · by_cases hb : b = x.p
    · right; rw [hb]; exact hM
    · rw [upd_ne hb]; exact w.bm b
  · obtain ⟨⟨u, h3, h4⟩, h5, h6⟩ := w.l y (List.mem_of_mem_eraseIdx hy)
    have ne : y.p ≠ x.p := by
      obtain ⟨j, hj, hne⟩ := List.mem_eraseIdx_iff_getElem?.mp hy
      exact w.ne hne h hj
    exact ⟨⟨u, h3, y.c.mono (Ex.new hB) h4⟩, by rw [upd_ne ne]; exact h5, h6⟩
/-- what is ours as a part of what is not ours -/
def absorb (M : Fr) (L : List Cell) (H : Hp) : Fr := ⟨fun a => if a ∈ L.map (·.p) then H a else M a, M.T⟩
theorem absorb_in {x : Cell} (h : x ∈ L) : absorb M L H x.p = H x.p := by
  exact if_pos (List.mem_map.mpr ⟨x, h, rfl⟩)
theorem absorb_out (h : p ∉ L.map (·.p)) : absorb M L H p = M p := by
  exact if_neg h
/-- L1 is lent, L2 is set aside -/
theorem Own.lend {L1 L2 : List Cell} (w : Own K B M L H) (h1 : ∀ x ∈ L1, x ∈ L) (h2 : ∀ x ∈ L2, x ∈ L) (nd1 : (L1.map (·.p)).Nodup) (dj : ∀ x ∈ L1, x.p ∉ L2.map (·.p)) : Own K B (absorb M L2 H) L1 H := by
  refine ⟨w.b, fun b u e => ?_, fun b => ?_, fun x hx => ?_, nd1, fun P hP => ?_⟩
  rotate_right
  · obtain ⟨t1, t2, t3, t4⟩ := w.t P hP
    have sub : ∀ {L' : List Cell}, (∀ x ∈ L', x ∈ L) → P ∉ L'.map (·.p) := fun {L'} hs z => by
      obtain ⟨x, hx, e⟩ := List.mem_map.mp z
      exact t4 (List.mem_map.mpr ⟨x, hs x hx, e⟩)
    exact ⟨t1, t2, by rw [absorb_out (sub h2)]; exact t3, sub h1⟩
  · by_cases hb : b ∈ L2.map (·.p)
    · have e : (if b ∈ L2.map (·.p) then H b else M b) = some u := e; rw [if_pos hb] at e; exact e
    · rw [absorb_out hb] at e; exact w.m b u e
  · by_cases hb : b ∈ L2.map (·.p)
    · left
      obtain ⟨x, hx, rfl⟩ := List.mem_map.mp hb
      exact (w.l x (h2 x hx)).2.1
    · rw [absorb_out hb]; exact w.bm b
  · obtain ⟨a1, a2, a3⟩ := w.l x (h1 x hx)
    refine ⟨a1, a2, ?_⟩
    rw [absorb_out (dj x hx)]; exact a3
/-- it comes back changed -/
theorem Own.back {L1' L2 : List Cell} (w : Own K B M L H) (h2 : ∀ x ∈ L2, x ∈ L) (nd2 : (L2.map (·.p)).Nodup) (e : Ex B B') (w' : Own K B' (absorb M L2 H) L1' H') (dj : ∀ x ∈ L1', x.p ∉ L2.map (·.p)) : Own K B' M (L1' ++ L2) H' := by
  have inL : ∀ x ∈ L2, ∃ o, H x.p = some o ∧ H' x.p = some o ∧ x.c.is K B o x.a := fun x hx => by
    obtain ⟨⟨o, a1, a2⟩, _⟩ := w.l x (h2 x hx)
    exact ⟨o, a1, w'.m x.p o (by rw [absorb_in hx]; exact a1), a2⟩
  have Min : ∀ b u, M b = some u → b ∉ L2.map (·.p) := fun b u hm hb => by
    obtain ⟨x, hx, rfl⟩ := List.mem_map.mp hb
    rw [(w.l x (h2 x hx)).2.2] at hm
    cases hm
  refine ⟨w'.b, fun b u hm => w'.m b u (by rw [absorb_out (Min b u hm)]; exact hm), fun b => ?_, fun x hx => ?_, ?_, fun P hP => ?_⟩
  rotate_right
  · obtain ⟨t1, t2, t3, t4⟩ := w.t P hP
    obtain ⟨s1, s2, s3, s4⟩ := w'.t P hP
    refine ⟨s1, s2, t3, fun z => ?_⟩
    rw [List.map_append, List.mem_append] at z
    rcases z with z | z
    · exact s4 z
    · obtain ⟨x, hx, e⟩ := List.mem_map.mp z
      exact t4 (List.mem_map.mpr ⟨x, h2 x hx, e⟩)
  · rcases w'.bm b with h | h
    · exact .inl h
    · right
      by_cases hb : b ∈ L2.map (·.p)
      · obtain ⟨x, hx, rfl⟩ := List.mem_map.mp hb
        exact (w.l x (h2 x hx)).2.2
      · rw [absorb_out hb] at h; exact h
  · rcases List.mem_append.mp hx with hx | hx
    · obtain ⟨a1, a2, a3⟩ := w'.l x hx
      refine ⟨a1, a2, ?_⟩
      rw [absorb_out (dj x hx)] at a3; exact a3
    · obtain ⟨o, a1, a2, a3⟩ := inL x hx
      refine ⟨⟨o, a2, x.c.mono e a3⟩, ?_, (w.l x (h2 x hx)).2.2⟩
      rcases w'.bm x.p with h | h
      · exact h
      · rw [absorb_in hx, a1] at h; cases h
  · rw [List.map_append, List.nodup_append]
    refine ⟨w'.nd, nd2, fun a ha b hb hab => ?_⟩
    obtain ⟨x, hx, rfl⟩ := List.mem_map.mp ha
    exact dj x hx (by rw [hab]; exact hb)
end
end L3

namespace L3
open PySem L2
open Evl (Ex ex_rd ex_l ex_t sq_of st_of fresh_back)

/-! ### what an expression gives -/
def EV (K : Fg) (M : Fr) {α : Type} (te : TE) (σ : St) (B : Hp) (L : List Cell) (r : Rep α) (a : α) (L' : List Cell) : Prop :=
  ∀ B1 H, Ex B B1 → Own K B1 M L H → ∀ Q : VK, (∀ v B2 H2, Ex B1 B2 → Own K B2 M L' H2 → r.is K B2 v a → Q v H2) → te σ H Q
/-- a new list that may change -/
def EVL (K : Fg) (M : Fr) {α : Type} (te : TE) (σ : St) (B : Hp) (L : List Cell) (r : Rep α) (as : List α) (L' : List Cell) : Prop :=
  ∀ B1 H, Ex B B1 → Own K B1 M L H → ∀ Q : VK, (∀ p B2 H2, Ex B1 B2 → Own K B2 M (⟨p, cLst r, as⟩ :: L') H2 → Q (.ref p) H2) → te σ H Q
def ET (K : Fg) (M : Fr) (tt : TT) (σ : St) (B : Hp) (L : List Cell) (b : Bool) (L' : List Cell) : Prop :=
  ∀ B1 H, Ex B B1 → Own K B1 M L H → ∀ Q : Bool → Hp → Prop, (∀ B2 H2, Ex B1 B2 → Own K B2 M L' H2 → Q b H2) → tt σ H Q
structure Arg : Type 1 where
  {α : Type}
  r : Rep α
  a : α
def Arg.is (K : Fg) (B : Hp) (v : V) (x : Arg) : Prop := x.r.is K B v x.a
def ArgsIs (K : Fg) (B : Hp) : List V → List Arg → Prop
  | [], [] => True
  | v :: vs, a :: as => a.is K B v ∧ ArgsIs K B vs as
  | _, _ => False
theorem args_mono {K : Fg} {B B' : Hp} (e : Ex B B') : ∀ {vs : List V} {as : List Arg}, ArgsIs K B vs as → ArgsIs K B' vs as
  | [], [], _ => trivial
  | _ :: _, a :: _, h => ⟨a.r.mono e h.1, args_mono e h.2⟩
  | [], _ :: _, h => h
  | _ :: _, [], h => h
def EA (K : Fg) (M : Fr) (ta : TA) (σ : St) (B : Hp) (L : List Cell) (as : List Arg) (L' : List Cell) : Prop :=
  ∀ B1 H, Ex B B1 → Own K B1 M L H → ∀ Q : List V → Hp → Prop, (∀ vs B2 H2, Ex B1 B2 → Own K B2 M L' H2 → ArgsIs K B2 vs as → Q vs H2) → ta σ H Q

/-! ### partial operations of the mirrors -/
theorem bindS {α β : Type} {o : Option α} {f : α → Option β} {b : β} (h : Option.bind o f = some b) : ∃ a, o = some a ∧ f a = some b := by
  cases o with
  | none => cases h
  | some a => exact ⟨a, rfl, h⟩
def CMulX (i j : Int) : Prop := ((-(2 ^ 64) < i ∧ i < 2 ^ 64) ∨ (-(2 ^ 64) < j ∧ j < 2 ^ 64)) ∨ i.natAbs.log2 + j.natAbs.log2 < 1000000
instance (i j : Int) : Decidable (CMulX i j) := by unfold CMulX; infer_instance
theorem op_mulX {X : Cx} : OpR X (binaryOp .Mult) (rI CMulX fun i j => .int (i * j)) := opI fun _ _ _ _ _ _ _ hc q => PyProof.Rows.mul_int q (Or.elim hc CMul.ok CMulW.ok)
def mulI (i j : Int) : Option Int := if CMulX i j then some (i * j) else none
def divI (i j : Int) : Option Int := if 0 < j ∧ j.natAbs.log2 < 9000 then some (i / j) else none
def modI (i j : Int) : Option Int := if 0 < j then some (i % j) else none
def powI (i j : Int) : Option Int := if 0 ≤ j ∧ j ≤ 1000000 ∧ i.natAbs < 2 ^ 64 then some (i ^ j.toNat) else none
def ixL {α : Type} (xs : List α) (i : Int) : Option α := atI xs i
def room (n : Nat) : Option Unit := if n < sizeLine then some () else none
theorem mulI_some {i j k : Int} (h : mulI i j = some k) : CMulX i j ∧ k = i * j := by
  unfold mulI at h
  split at h
  · rename_i hc; exact ⟨hc, (Option.some.inj h).symm⟩
  · cases h
theorem divI_some {i j k : Int} (h : divI i j = some k) : CDivW i j ∧ k = i / j := by
  unfold divI at h
  split at h
  · rename_i hc; exact ⟨hc, (Option.some.inj h).symm⟩
  · cases h
theorem modI_some {i j k : Int} (h : modI i j = some k) : 0 < j ∧ k = i % j := by
  unfold modI at h
  split at h
  · rename_i hc; exact ⟨hc, (Option.some.inj h).symm⟩
  · cases h
theorem powI_some {i j k : Int} (h : powI i j = some k) : CPow i j ∧ k = i ^ j.toNat := by
  unfold powI at h
  split at h
  · rename_i hc; exact ⟨hc, (Option.some.inj h).symm⟩
  · cases h
theorem room_some {n : Nat} {u : Unit} (h : room n = some u) : n < sizeLine := by
  unfold room at h
  split at h
  · rename_i hc; exact hc
  · cases h
/-- an index in the mirror's list is one in the heap's -/
theorem atI_paired {α : Type} {F : V → α → Prop} {xs : List V} {as : List α} {i : Int} {a : α} (h : Paired F xs as) (e : atI as i = some a) : ∃ x, atI xs i = some x ∧ F x a := by
  unfold atI at e ⊢
  rw [paired_len h]
  revert e
  cases ixN as.length i with
  | none => intro e; simp at e
  | some j => intro e; exact paired_get h (by simpa using e)

section
variable {K : Fg} {M : Fr} {σ : St} {B : Hp} {L L1 L2 L' : List Cell} {α β γ δ : Type} {r : Rep α} {s : Rep β} {t : Rep γ} {ta tb tc te : TE} {tt tu : TT} {tA : TA} {i j k : Int} {b c : Bool}
/-! ### expressions -/
theorem ev_var {n : Nat} {v : V} {a : α} (h : σ[n]? = some (some v)) (hr : r.is K B v a) : EV K M (tVar n) σ B L r a L := fun B1 H e w Q q => ⟨v, h, q v B1 H (Ex.refl _) w (r.mono e hr)⟩
theorem ev_varI {n : Nat} {v : V} (h : σ[n]? = some (some v)) (hr : v = .int i) : EV K M (tVar n) σ B L rInt i L := ev_var h hr
theorem ev_varB {n : Nat} {v : V} (h : σ[n]? = some (some v)) (hr : v = .bl b) : EV K M (tVar n) σ B L rBool b L := ev_var h hr
theorem ev_varS {n : Nat} {v : V} {x : Str} (h : σ[n]? = some (some v)) (hr : v = .str x) : EV K M (tVar n) σ B L rStr x L := ev_var h hr
theorem ev_varR {n : Nat} {p : Addr} (h : σ[n]? = some (some (.ref p))) : EV K M (tVar n) σ B L rRef p L := ev_var h rfl
theorem ev_k {v : V} {a : α} (hr : ∀ B, r.is K B v a) : EV K M (tC v) σ B L r a L := fun B1 H e w Q q => q v B1 H (Ex.refl _) w (hr B1)
theorem ev_int : EV K M (tC (.int i)) σ B L rInt i L := ev_k fun _ => rfl
theorem ev_bl : EV K M (tC (.bl b)) σ B L rBool b L := ev_k fun _ => rfl
theorem ev_str {x : Str} : EV K M (tC (.str x)) σ B L rStr x L := ev_k fun _ => rfl
theorem ev_non : EV K M (tC .non) σ B L (rOpt r) none L := ev_k fun _ => rfl
theorem ev_as {a : α} {b : β} (h : EV K M te σ B L r a L') (f : ∀ B v, r.is K B v a → s.is K B v b) : EV K M te σ B L s b L' := fun B1 H e w Q q => h B1 H e w Q fun v B2 H2 e2 w2 h2 => q v B2 H2 e2 w2 (f _ _ h2)
theorem ev_seqT {as : List α} (h : EV K M te σ B L (rTup r) as L') : EV K M te σ B L (rSeq r) as L' := ev_as h fun _ _ => rTup_seq
theorem ev_seqS {as : List α} (h : EV K M te σ B L (rScr r) as L') : EV K M te σ B L (rSeq r) as L' := ev_as h fun _ _ => rScr_seq
theorem ev_scr {as : List α} (h : EV K M te σ B L (rLst r) as L') : EV K M te σ B L (rScr r) as L' := ev_as h fun _ _ => rl_sc
theorem ev_seqL {as : List α} (h : EV K M te σ B L (rLst r) as L') : EV K M te σ B L (rSeq r) as L' := ev_as h fun _ _ => rLst_seq
theorem ev_sm {a : α} (h : EV K M te σ B L r a L') : EV K M te σ B L (rOpt r) (some a) L' := ev_as h fun _ _ h => h
/-- a new list, left as it is -/
theorem ev_frz {as : List α} (h : EVL K M te σ B L r as L') : EV K M te σ B L (rLst r) as L' := fun B1 H e w Q q => h B1 H e w Q fun p B2 H2 e2 w2 => by
  obtain ⟨o, h1, ⟨xs, h2, h3⟩, h4, w3⟩ := w2.freeze (i := 0) rfl
  have h4 : B2 p = none := h4
  have e3 : Ex B2 (upd B2 p o) := Ex.new h4
  refine q _ (upd B2 p o) H2 (e2.trans e3) w3 ⟨p, xs, rfl, ?_, paired_mono e3 h3⟩
  rw [upd_same, h2]
/-- two values, one operation -/
theorem ev_op {R : R2} {a : α} {b : β} {c : γ} (ha : EV K M ta σ B L r a L1) (hb : EV K M tb σ B L1 s b L2)
    (h : ∀ B1 H1 x y (Q : VK), Own K B1 M L2 H1 → r.is K B1 x a → s.is K B1 y b → (∀ v, t.is K B1 v c → Q v H1) → R x y H1 Q) : EV K M (tOp R ta tb) σ B L t c L2 := fun B1 H e w Q q =>
  ha B1 H e w _ fun x B2 H2 e2 w2 hx => hb B2 H2 (e.trans e2) w2 _ fun y B3 H3 e3 w3 hy => h B3 H3 x y Q w3 (r.mono e3 hx) hy fun v hv => q v B3 H3 (e2.trans e3) w3 hv
theorem ev_un {R : V → Hp → VK → Prop} {a : α} {c : γ} (ha : EV K M ta σ B L r a L1) (h : ∀ B1 H1 x (Q : VK), Own K B1 M L1 H1 → r.is K B1 x a → (∀ v, t.is K B1 v c → Q v H1) → R x H1 Q) : EV K M (tUn R ta) σ B L t c L1 := fun B1 H e w Q q =>
  ha B1 H e w _ fun x B2 H2 e2 w2 hx => h B2 H2 x Q w2 hx fun v hv => q v B2 H2 e2 w2 hv
theorem ev_I0 {g : Int → Int → Int} (ha : EV K M ta σ B L rInt i L1) (hb : EV K M tb σ B L1 rInt j L2) : EV K M (tOp (rI0 fun i j => .int (g i j)) ta tb) σ B L rInt (g i j) L2 :=
  ev_op ha hb fun _ _ _ _ _ _ hx hy q => ⟨i, j, hx, hy, q _ rfl⟩
theorem ev_B0 {g : Int → Int → Bool} (ha : EV K M ta σ B L rInt i L1) (hb : EV K M tb σ B L1 rInt j L2) : EV K M (tOp (rI0 fun i j => .bl (g i j)) ta tb) σ B L rBool (g i j) L2 :=
  ev_op ha hb fun _ _ _ _ _ _ hx hy q => ⟨i, j, hx, hy, q _ rfl⟩
theorem ev_mul (ha : EV K M ta σ B L rInt i L1) (hb : EV K M tb σ B L1 rInt j L2) (h : mulI i j = some k) : EV K M (tOp (rI CMulX fun i j => .int (i * j)) ta tb) σ B L rInt k L2 :=
  ev_op ha hb fun _ _ _ _ _ _ hx hy q => ⟨i, j, hx, hy, (mulI_some h).1, q _ (by rw [(mulI_some h).2]; rfl)⟩
theorem ev_div (ha : EV K M ta σ B L rInt i L1) (hb : EV K M tb σ B L1 rInt j L2) (h : divI i j = some k) : EV K M (tOp (rI CDivW fun i j => .int (i / j)) ta tb) σ B L rInt k L2 :=
  ev_op ha hb fun _ _ _ _ _ _ hx hy q => ⟨i, j, hx, hy, (divI_some h).1, q _ (by rw [(divI_some h).2]; rfl)⟩
theorem ev_mod (ha : EV K M ta σ B L rInt i L1) (hb : EV K M tb σ B L1 rInt j L2) (h : modI i j = some k) : EV K M (tOp (rI (fun _ j => 0 < j) fun i j => .int (i % j)) ta tb) σ B L rInt k L2 :=
  ev_op ha hb fun _ _ _ _ _ _ hx hy q => ⟨i, j, hx, hy, (modI_some h).1, q _ (by rw [(modI_some h).2]; rfl)⟩
theorem ev_pow (ha : EV K M ta σ B L rInt i L1) (hb : EV K M tb σ B L1 rInt j L2) (h : powI i j = some k) : EV K M (tOp (rI CPow fun i j => .int (i ^ j.toNat)) ta tb) σ B L rInt k L2 :=
  ev_op ha hb fun _ _ _ _ _ _ hx hy q => ⟨i, j, hx, hy, (powI_some h).1, q _ (by rw [(powI_some h).2]; rfl)⟩
theorem ev_neg (ha : EV K M ta σ B L rInt i L1) : EV K M (tUn (rU fun i => .int (-i)) ta) σ B L rInt (-i) L1 := ev_un ha fun _ _ _ _ _ hx q => ⟨i, hx, q _ rfl⟩
theorem ev_eqI (ha : EV K M ta σ B L rInt i L1) (hb : EV K M tb σ B L1 rInt j L2) : EV K M (tOp rEq ta tb) σ B L rBool (decide (i = j)) L2 :=
  ev_op ha hb fun _ _ _ _ _ _ hx hy q => by
    have hx : _ = V.int i := hx
    have hy : _ = V.int j := hy
    subst hx hy
    exact ⟨rfl, q _ (by show V.bl _ = V.bl _; congr 1; simp)⟩
theorem ev_neI (ha : EV K M ta σ B L rInt i L1) (hb : EV K M tb σ B L1 rInt j L2) : EV K M (tOp rNe ta tb) σ B L rBool (!decide (i = j)) L2 :=
  ev_op ha hb fun _ _ _ _ _ _ hx hy q => by
    have hx : _ = V.int i := hx
    have hy : _ = V.int j := hy
    subst hx hy
    exact ⟨rfl, q _ (by show V.bl _ = V.bl _; congr 1; simp)⟩
theorem ev_eqS {x y : Str} (ha : EV K M ta σ B L rStr x L1) (hb : EV K M tb σ B L1 rStr y L2) : EV K M (tOp rEq ta tb) σ B L rBool (decide (x = y)) L2 :=
  ev_op ha hb fun _ _ _ _ _ _ hx hy q => by
    have hx : _ = V.str x := hx
    have hy : _ = V.str y := hy
    subst hx hy
    exact ⟨rfl, q _ (by show V.bl _ = V.bl _; congr 1; simp)⟩
theorem ev_neS {x y : Str} (ha : EV K M ta σ B L rStr x L1) (hb : EV K M tb σ B L1 rStr y L2) : EV K M (tOp rNe ta tb) σ B L rBool (!decide (x = y)) L2 :=
  ev_op ha hb fun _ _ _ _ _ _ hx hy q => by
    have hx : _ = V.str x := hx
    have hy : _ = V.str y := hy
    subst hx hy
    exact ⟨rfl, q _ (by show V.bl _ = V.bl _; congr 1; simp)⟩
theorem ev_eqB {x y : Bool} (ha : EV K M ta σ B L rBool x L1) (hb : EV K M tb σ B L1 rBool y L2) : EV K M (tOp rEq ta tb) σ B L rBool (decide (x = y)) L2 :=
  ev_op ha hb fun _ _ _ _ _ _ hx hy q => by
    have hx : _ = V.bl x := hx
    have hy : _ = V.bl y := hy
    subst hx hy
    exact ⟨rfl, q _ (by show V.bl _ = V.bl _; congr 1; simp)⟩
/-- x is None -/
theorem ev_isN {a : Option α} (ha : EV K M ta σ B L (rOpt r) a L1) (hn : ∀ B v x, r.is K B v x → v ≠ .non) : EV K M (tIsN ta) σ B L rBool a.isNone L1 := fun B1 H e w Q q =>
  ha B1 H e w _ fun x B2 H2 e2 w2 hx => q _ B2 H2 e2 w2 (by
    show V.bl _ = V.bl _
    congr 1
    cases a with
    | none => exact decide_eq_true (show x = V.non from hx)
    | some a => exact decide_eq_false (hn _ _ _ hx))
theorem ev_notN {a : Option α} (ha : EV K M ta σ B L (rOpt r) a L1) (hn : ∀ B v x, r.is K B v x → v ≠ .non) : EV K M (tNotN ta) σ B L rBool a.isSome L1 := fun B1 H e w Q q =>
  ha B1 H e w _ fun x B2 H2 e2 w2 hx => q _ B2 H2 e2 w2 (by
    show V.bl _ = V.bl _
    congr 1
    cases a with
    | none => rw [decide_eq_true (show x = V.non from hx)]; rfl
    | some a => rw [decide_eq_false (hn _ _ _ hx)]; rfl)
/-! ### tuples and lists -/
theorem ea_nil : EA K M tNil σ B L [] L := fun B1 H e w Q q => q [] B1 H (Ex.refl _) w trivial
theorem ea_cons {a : α} {as : List Arg} (ha : EV K M ta σ B L r a L1) (hr : EA K M tA σ B L1 as L2) : EA K M (tCons ta tA) σ B L (⟨r, a⟩ :: as) L2 := fun B1 H e w Q q =>
  ha B1 H e w _ fun x B2 H2 e2 w2 hx => hr B2 H2 (e.trans e2) w2 _ fun vs B3 H3 e3 w3 hvs => q (x :: vs) B3 H3 (e2.trans e3) w3 ⟨r.mono e3 hx, hvs⟩
theorem ev_T2 {a : α} {b : β} (h : EA K M tA σ B L [⟨r, a⟩, ⟨s, b⟩] L') : EV K M (tTup tA) σ B L (rT2 r s) (a, b) L' := fun B1 H e w Q q =>
  h B1 H e w _ fun vs B2 H2 e2 w2 hv => by
    match vs, hv with
    | [_, _], ⟨h1, h2, _⟩ => exact ⟨by show 2 ≤ sizeLine; decide, fun p hp => q _ (upd B2 p _) _ (e2.trans (Ex.new (fresh_back w2.b hp))) (w2.ext hp) ⟨p, _, _, rfl, st_of upd_same, r.mono (Ex.new (fresh_back w2.b hp)) h1, s.mono (Ex.new (fresh_back w2.b hp)) h2⟩⟩
theorem ev_T3 {a : α} {b : β} {c : γ} (h : EA K M tA σ B L [⟨r, a⟩, ⟨s, b⟩, ⟨t, c⟩] L') : EV K M (tTup tA) σ B L (rT3 r s t) (a, b, c) L' := fun B1 H e w Q q =>
  h B1 H e w _ fun vs B2 H2 e2 w2 hv => by
    match vs, hv with
    | [_, _, _], ⟨h1, h2, h3, _⟩ => exact ⟨by show 3 ≤ sizeLine; decide, fun p hp => q _ (upd B2 p _) _ (e2.trans (Ex.new (fresh_back w2.b hp))) (w2.ext hp) ⟨p, _, _, _, rfl, st_of upd_same, r.mono (Ex.new (fresh_back w2.b hp)) h1, s.mono (Ex.new (fresh_back w2.b hp)) h2, t.mono (Ex.new (fresh_back w2.b hp)) h3⟩⟩
theorem homog : ∀ {as : List α} {vs : List V}, ArgsIs K B vs (as.map (Arg.mk r)) → Paired (r.is K B) vs as
  | [], [], _ => .nil
  | _ :: _, _ :: _, h => .cons h.1 (homog h.2)
  | [], _ :: _, h => h.elim
  | _ :: _, [], h => h.elim
theorem ev_tup (as : List α) (h : EA K M tA σ B L (as.map (Arg.mk r)) L') (hl : Nat.ble as.length 100000 = true := by rfl) : EV K M (tTup tA) σ B L (rTup r) as L' := fun B1 H e w Q q =>
  h B1 H e w _ fun vs B2 H2 e2 w2 hv => ⟨by rw [paired_len (homog hv)]; exact Evl.sz_of (Nat.le_of_ble_eq_true hl), fun p hp => q _ (upd B2 p _) _ (e2.trans (Ex.new (fresh_back w2.b hp))) (w2.ext hp) ⟨p, _, rfl, st_of upd_same, paired_mono (Ex.new (fresh_back w2.b hp)) (homog hv)⟩⟩
theorem el_lst (as : List α) (h : EA K M tA σ B L (as.map (Arg.mk r)) L') (hl : Nat.ble as.length 100000 = true := by rfl) : EVL K M (tLst tA) σ B L r as L' := fun B1 H e w Q q =>
  h B1 H e w _ fun vs B2 H2 e2 w2 hv => ⟨by rw [paired_len (homog hv)]; exact Evl.sz_of (Nat.le_of_ble_eq_true hl), fun p hp => q p B2 _ e2 (w2.new hp ⟨vs, rfl, homog hv⟩)⟩
theorem ev_fst {a : α × β} (ha : EV K M ta σ B L (rT2 r s) a L1) : EV K M (tOp (rIx K) ta (tC (.int 0))) σ B L r a.1 L1 := fun B1 H e w Q q =>
  ha B1 H e w _ fun x B2 H2 e2 w2 hx => by
    obtain ⟨p, x0, x1, rfl, hs, h0, h1⟩ := hx
    exact .inr (.inl ⟨p, _, 0, x0, rfl, rfl, ex_t w2.b hs, rfl, q _ B2 H2 e2 w2 h0⟩)
theorem ev_snd {a : α × β} (ha : EV K M ta σ B L (rT2 r s) a L1) : EV K M (tOp (rIx K) ta (tC (.int 1))) σ B L s a.2 L1 := fun B1 H e w Q q =>
  ha B1 H e w _ fun x B2 H2 e2 w2 hx => by
    obtain ⟨p, x0, x1, rfl, hs, h0, h1⟩ := hx
    exact .inr (.inl ⟨p, _, 1, x1, rfl, rfl, ex_t w2.b hs, rfl, q _ B2 H2 e2 w2 h1⟩)
theorem ev_ix {xs : List α} {a : α} (ha : EV K M ta σ B L (rSeq r) xs L1) (hb : EV K M tb σ B L1 rInt i L2) (h : ixL xs i = some a) : EV K M (tOp (rIx K) ta tb) σ B L r a L2 :=
  ev_op ha hb fun B1 H1 x y Q w hx hy q => by
    obtain ⟨p, vs, rfl, hs, hv⟩ := hx
    obtain ⟨x, e, hx⟩ := atI_paired hv h
    rcases hs with hs | hs
    · exact .inl ⟨p, vs, i, x, rfl, hy, ex_l w.b hs, e, q _ hx⟩
    · exact .inr (.inl ⟨p, vs, i, x, rfl, hy, ex_t w.b hs, e, q _ hx⟩)
/-- of a list that may change -/
theorem ev_ixC {n : Nat} {p : Addr} {xs : List α} {a : α} (ha : EV K M ta σ B L rRef p L1) (hb : EV K M tb σ B L1 rInt i L2) (hc : L2[n]? = some ⟨p, cLst r, xs⟩) (h : ixL xs i = some a) : EV K M (tOp (rIx K) ta tb) σ B L r a L2 :=
  ev_op ha hb fun B1 H1 x y Q w hx hy q => by
    obtain ⟨⟨o, h1, vs, h2, hv⟩, _⟩ := w.at hc
    obtain ⟨x, e, hx'⟩ := atI_paired hv h
    exact .inl ⟨p, vs, i, x, hx, hy, sq_of (by rw [h1, h2]), e, q _ hx'⟩
def rLen (K : Fg) : List V → Hp → VK → Prop := fun xs H Q => ∃ p ys, xs = [.ref p] ∧ (SqL K H p ys ∨ SqT K H p ys) ∧ Q (.int ys.length) H
theorem ev_cb {R : List V → Hp → VK → Prop} {as : List Arg} {c : γ} (ha : EA K M tA σ B L as L1) (h : ∀ B1 H1 vs (Q : VK), Own K B1 M L1 H1 → ArgsIs K B1 vs as → (∀ v, t.is K B1 v c → Q v H1) → R vs H1 Q) : EV K M (tCB R tA) σ B L t c L1 := fun B1 H e w Q q =>
  ha B1 H e w _ fun vs B2 H2 e2 w2 hv => h B2 H2 vs Q w2 hv fun v hr => q v B2 H2 e2 w2 hr
theorem ev_cb1 {R : List V → Hp → VK → Prop} {a : α} {c : γ} (ha : EV K M ta σ B L r a L1) (h : ∀ B1 H1 x (Q : VK), Own K B1 M L1 H1 → r.is K B1 x a → (∀ v, t.is K B1 v c → Q v H1) → R [x] H1 Q) : EV K M (tCB R (tCons ta tNil)) σ B L t c L1 := fun B1 H e w Q q =>
  ha B1 H e w _ fun v B2 H2 e2 w2 hv => h B2 H2 v Q w2 hv fun v hr => q v B2 H2 e2 w2 hr
theorem ev_len {xs : List α} (ha : EV K M ta σ B L (rSeq r) xs L1) : EV K M (tCB (rLen K) (tCons ta tNil)) σ B L rInt (xs.length : Int) L1 :=
  ev_cb1 ha fun B1 H1 x Q w hx q => by
    obtain ⟨p, vs, rfl, hs, hv⟩ := hx
    exact ⟨p, vs, rfl, hs.imp (ex_l w.b) (ex_t w.b), q _ (by rw [paired_len hv]; rfl)⟩
theorem ev_lenC {n : Nat} {p : Addr} {xs : List α} (ha : EV K M ta σ B L rRef p L1) (hc : L1[n]? = some ⟨p, cLst r, xs⟩) : EV K M (tCB (rLen K) (tCons ta tNil)) σ B L rInt (xs.length : Int) L1 :=
  ev_cb1 ha fun B1 H1 x Q w hx q => by
    obtain ⟨⟨o, h1, vs, h2, hv⟩, _⟩ := w.at hc
    have h1 : H1 p = some o := h1
    exact ⟨p, vs, congrArg (fun z => [z]) hx, .inl (sq_of (by rw [h1, h2])), q _ (by rw [paired_len hv]; rfl)⟩
theorem ev_abs (ha : EV K M ta σ B L rInt i L1) : EV K M (tCB (fun xs H Q => ∃ i, xs = [.int i] ∧ Q (.int (if i < 0 then -i else i)) H) (tCons ta tNil)) σ B L rInt (if i < 0 then -i else i) L1 :=
  ev_cb1 ha fun B1 H1 x Q w hx q => ⟨i, congrArg (fun z => [z]) hx, q _ rfl⟩
def rInt1 : List V → Hp → VK → Prop := fun xs H Q => (∃ i, xs = [.int i] ∧ Q (.int i) H) ∨ ∃ k, xs = [.bl k] ∧ Q (.int (if k then 1 else 0)) H
theorem ev_intI (ha : EV K M ta σ B L rInt i L1) : EV K M (tCB rInt1 (tCons ta tNil)) σ B L rInt i L1 := ev_cb1 ha fun B1 H1 x Q w hx q => .inl ⟨i, congrArg (fun z => [z]) hx, q _ rfl⟩
theorem ev_intB (ha : EV K M ta σ B L rBool b L1) : EV K M (tCB rInt1 (tCons ta tNil)) σ B L rInt (if b then 1 else 0) L1 := ev_cb1 ha fun B1 H1 x Q w hx q => .inr ⟨b, congrArg (fun z => [z]) hx, q _ rfl⟩
theorem ev_gcd (ha : EV K M ta σ B L rInt i L1) (hb : EV K M tb σ B L1 rInt j L2) : EV K M (tCB rGcd (tCons ta (tCons tb tNil))) σ B L rInt ((Nat.gcd i.natAbs j.natAbs : Nat) : Int) L2 :=
  ev_cb (ea_cons ha (ea_cons hb ea_nil)) fun B1 H1 vs Q w hv q => by
    match vs, hv with
    | [_, _], ⟨h1, h2, _⟩ => exact ⟨i, j, by rw [show _ = V.int i from h1, show _ = V.int j from h2], q _ rfl⟩
/-! ### tests, and, or, not -/
theorem et_test (h : EV K M te σ B L rBool b L') : ET K M (tTest te) σ B L b L' := fun B1 H e w Q q => h B1 H e w _ fun v B2 H2 e2 w2 hv => ⟨b, hv, q B2 H2 e2 w2⟩
theorem et_B (h : EV K M te σ B L rBool b L') : ET K M (tB te) σ B L b L' := fun B1 H e w Q q => h B1 H e w _ fun v B2 H2 e2 w2 hv => ⟨b, hv, q B2 H2 e2 w2⟩
theorem et_not (h : ET K M tt σ B L b L') : ET K M (tNot tt) σ B L (!b) L' := fun B1 H e w Q q => h B1 H e w _ fun B2 H2 e2 w2 => q B2 H2 e2 w2
theorem et_and {b c : Bool} (h1 : ET K M tt σ B L b L1) (h2 : b = true → ET K M tu σ B L1 c L1) : ET K M (tAnd tt tu) σ B L (b && c) L1 := fun B1 H e w Q q => h1 B1 H e w _ fun B2 H2 e2 w2 => by
  cases b with
  | true => exact h2 rfl B2 H2 (e.trans e2) w2 Q fun B3 H3 e3 w3 => q B3 H3 (e2.trans e3) w3
  | false => exact q B2 H2 e2 w2
theorem et_or {b c : Bool} (h1 : ET K M tt σ B L b L1) (h2 : b = false → ET K M tu σ B L1 c L1) : ET K M (tOr tt tu) σ B L (b || c) L1 := fun B1 H e w Q q => h1 B1 H e w _ fun B2 H2 e2 w2 => by
  cases b with
  | true => exact q B2 H2 e2 w2
  | false => exact h2 rfl B2 H2 (e.trans e2) w2 Q fun B3 H3 e3 w3 => q B3 H3 (e2.trans e3) w3
/-- where the right side changes things -/
theorem et_and' {b d : Bool} (h1 : ET K M tt σ B L b L1) (h2 : b = true → ET K M tu σ B L1 d L2) (h3 : b = false → d = false ∧ L2 = L1) : ET K M (tAnd tt tu) σ B L d L2 := fun B1 H e w Q q => h1 B1 H e w _ fun B2 H2 e2 w2 => by
  cases b with
  | true => exact h2 rfl B2 H2 (e.trans e2) w2 Q fun B3 H3 e3 w3 => q B3 H3 (e2.trans e3) w3
  | false => obtain ⟨rfl, rfl⟩ := h3 rfl; exact q B2 H2 e2 w2
theorem et_or' {b d : Bool} (h1 : ET K M tt σ B L b L1) (h2 : b = false → ET K M tu σ B L1 d L2) (h3 : b = true → d = true ∧ L2 = L1) : ET K M (tOr tt tu) σ B L d L2 := fun B1 H e w Q q => h1 B1 H e w _ fun B2 H2 e2 w2 => by
  cases b with
  | true => obtain ⟨rfl, rfl⟩ := h3 rfl; exact q B2 H2 e2 w2
  | false => exact h2 rfl B2 H2 (e.trans e2) w2 Q fun B3 H3 e3 w3 => q B3 H3 (e2.trans e3) w3
theorem ev_andV {b d : Bool} (h1 : EV K M ta σ B L rBool b L1) (h2 : b = true → EV K M tb σ B L1 rBool d L2) (h3 : b = false → d = false ∧ L2 = L1) : EV K M (tAndV ta tb) σ B L rBool d L2 := fun B1 H e w Q q => h1 B1 H e w _ fun x B2 H2 e2 w2 hx => ⟨b, hx, by
  cases b with
  | true => exact h2 rfl B2 H2 (e.trans e2) w2 Q fun v B3 H3 e3 w3 hv => q v B3 H3 (e2.trans e3) w3 hv
  | false => obtain ⟨rfl, rfl⟩ := h3 rfl; exact q _ B2 H2 e2 w2 rfl⟩
theorem ev_orV {b d : Bool} (h1 : EV K M ta σ B L rBool b L1) (h2 : b = false → EV K M tb σ B L1 rBool d L2) (h3 : b = true → d = true ∧ L2 = L1) : EV K M (tOrV ta tb) σ B L rBool d L2 := fun B1 H e w Q q => h1 B1 H e w _ fun x B2 H2 e2 w2 hx => ⟨b, hx, by
  cases b with
  | true => obtain ⟨rfl, rfl⟩ := h3 rfl; exact q _ B2 H2 e2 w2 rfl
  | false => exact h2 rfl B2 H2 (e.trans e2) w2 Q fun v B3 H3 e3 w3 hv => q v B3 H3 (e2.trans e3) w3 hv⟩
theorem ev_notV (h : EV K M ta σ B L rBool b L1) : EV K M (tNotV ta) σ B L rBool (!b) L1 := fun B1 H e w Q q => h B1 H e w _ fun x B2 H2 e2 w2 hx => ⟨b, hx, q _ B2 H2 e2 w2 rfl⟩
theorem ev_if {a : α} (h : ET K M tt σ B L b L1) (h1 : b = true → EV K M ta σ B L1 r a L2) (h2 : b = false → EV K M tb σ B L1 r a L2) : EV K M (tIf tt ta tb) σ B L r a L2 := fun B1 H e w Q q => h B1 H e w _ fun B2 H2 e2 w2 => by
  cases b with
  | true => exact h1 rfl B2 H2 (e.trans e2) w2 Q fun v B3 H3 e3 w3 hv => q v B3 H3 (e2.trans e3) w3 hv
  | false => exact h2 rfl B2 H2 (e.trans e2) w2 Q fun v B3 H3 e3 w3 hv => q v B3 H3 (e2.trans e3) w3 hv
end
end L3

namespace L3
open PySem L2
open Evl (Ex ex_rd ex_l ex_t sq_of st_of fresh_back)

/-! ### promises -/
def spV (K : Fg) (T : List Addr) (C : List Arg → List Cell → Arg → List Cell → Prop) : Sp := fun vs H Q _ => ∃ B M L as r L', M.T = T ∧ Own K B M L H ∧ ArgsIs K B vs as ∧ C as L r L' ∧
  ∀ v B' H', Ex B B' → Own K B' M L' H' → r.is K B' v → Q v H'
theorem args_len {K : Fg} {B : Hp} : ∀ {vs : List V} {as : List Arg}, ArgsIs K B vs as → vs.length = as.length
  | [], [], _ => rfl
  | _ :: _, _ :: _, h => congrArg (· + 1) (args_len h.2)
  | [], _ :: _, h => h.elim
  | _ :: _, [], h => h.elim
theorem FnScope.of {N ps : List Str} {sc : Scope} (h1 : sc.kind = .function) (h2 : sc.isCoroutine = false) (h3 : sc.isGenerator = false) (h : FnScope N ps sc) : FnScope N ps sc := h

section
variable {K : Fg} {M : Fr} {σ : St} {B : Hp} {L L1 L2 L' : List Cell} {α β γ δ : Type} {r : Rep α} {s : Rep β} {t : Rep γ} {ta tb tc te : TE} {tt tu : TT} {tA : TA} {i j k : Int} {b c : Bool}
theorem nodup_one {x : Cell} : ([x].map (·.p)).Nodup := by simp
/-- a def that changes nothing of ours -/
theorem ev_call {C : List Arg → List Cell → Arg → List Cell → Prop} {E : XK} {as : List Arg} {a : α} (ha : EA K M tA σ B L as L1) (h : C as [] ⟨r, a⟩ []) : EV K M (tCall (spV K M.T C) [] E tA) σ B L r a L1 := fun B1 H e w Q q =>
  ha B1 H e w _ fun vs B2 H2 e2 w2 hv => by
    show spV K M.T C (vs ++ []) H2 Q E
    rw [List.append_nil]
    refine ⟨B2, absorb M L1 H2, [], as, ⟨r, a⟩, [], rfl, w2.lend (L1 := []) (L2 := L1) (fun _ h => absurd h (by simp)) (fun _ h => h) (by simp) (fun _ h => absurd h (by simp)), hv, h, fun v B' H' e3 w3 hr => ?_⟩
    exact q v B' H' (e2.trans e3) (w2.back (L1' := []) (fun _ h => h) w2.nd e3 w3 (fun _ h => absurd h (by simp))) hr
theorem erase_mem {x : Cell} {n : Nat} (w : (L.map (·.p)).Nodup) (h : L[n]? = some x) : x.p ∉ (L.eraseIdx n).map (·.p) := fun hm => by
  obtain ⟨y, hy, e⟩ := List.mem_map.mp hm
  obtain ⟨j, hj, hne⟩ := List.mem_eraseIdx_iff_getElem?.mp hy
  exact hj (nodup_at w (by rw [List.getElem?_map, hne]; rfl) (by rw [List.getElem?_map, h]; exact congrArg some e.symm))
theorem set_perm {x x' : Cell} {n : Nat} (h : L[n]? = some x) : ∀ y ∈ L.set n x', y ∈ x' :: L.eraseIdx n := fun y hy => by
  obtain ⟨m, hm⟩ := List.getElem?_of_mem hy
  by_cases e : n = m
  · subst e
    rw [List.getElem?_set_self (List.getElem?_eq_some_iff.mp h).1] at hm
    cases hm
    exact List.mem_cons_self
  · rw [List.getElem?_set_ne e] at hm
    exact List.mem_cons_of_mem _ (List.mem_eraseIdx_iff_getElem?.mpr ⟨m, Ne.symm e, hm⟩)
theorem set_keys {x x' : Cell} {n : Nat} (h : L[n]? = some x) (hp : x'.p = x.p) : (L.set n x').map (·.p) = L.map (·.p) := by
  rw [List.map_set, hp]
  refine List.ext_getElem? fun j => ?_
  by_cases hij : n = j
  · subst hij
    have hl : n < (L.map (·.p)).length := by rw [List.length_map]; exact (List.getElem?_eq_some_iff.mp h).1
    rw [List.getElem?_set_self hl, List.getElem?_map, h]; rfl
  · rw [List.getElem?_set_ne hij]
/-- a def that changes the one at n -/
theorem ev_callC {C : List Arg → List Cell → Arg → List Cell → Prop} {E : XK} {as : List Arg} {a : α} (n : Nat) {x x' : Cell} (ha : EA K M tA σ B L as L1) (hx : L1[n]? = some x) (h : C as [x] ⟨r, a⟩ [x']) (hp : x'.p = x.p) : EV K M (tCall (spV K M.T C) [] E tA) σ B L r a (L1.set n x') := fun B1 H e w Q q =>
  ha B1 H e w _ fun vs B2 H2 e2 w2 hv => by
    show spV K M.T C (vs ++ []) H2 Q E
    rw [List.append_nil]
    have nd := w2.nd
    have hn := erase_mem nd hx
    have sub : ∀ y ∈ L1.eraseIdx n, y ∈ L1 := fun y hy => List.mem_of_mem_eraseIdx hy
    refine ⟨B2, absorb M (L1.eraseIdx n) H2, [x], as, ⟨r, a⟩, [x'], rfl, w2.lend (L1 := [x]) (L2 := L1.eraseIdx n) (fun y h => by rw [List.mem_singleton.mp h]; exact List.mem_of_getElem? hx) sub nodup_one (fun y h => by rw [List.mem_singleton.mp h]; exact hn), hv, h, fun v B' H' e3 w3 hr => ?_⟩
    have w4 : Own K B' M ([x'] ++ L1.eraseIdx n) H' := w2.back (L1' := [x']) sub (nd.sublist ((List.eraseIdx_sublist L1 n).map _)) e3 w3 (fun y h => by rw [List.mem_singleton.mp h, hp]; exact hn)
    exact q v B' H' (e2.trans e3) (w4.perm (set_perm hx) (by rw [set_keys hx hp]; exact nd)) hr

/-! ### statements -/
variable {D : Ends} {tz t1 t2 : TS} {H : Hp}
theorem q_asg {n : Nat} {a : α} (w : Own K B M L H) (h : EV K M te σ B L r a L') (q : ∀ v B' H', Ex B B' → Own K B' M L' H' → r.is K B' v a → tz D (σ.set n (some v)) H') : tSeq (tAsg te (gName n)) tz D σ H := h B H (Ex.refl _) w _ q
theorem q_asgL {n : Nat} {as : List α} (w : Own K B M L H) (h : EVL K M te σ B L r as L') (q : ∀ p B' H', Ex B B' → Own K B' M (⟨p, cLst r, as⟩ :: L') H' → tz D (σ.set n (some (.ref p))) H') : tSeq (tAsg te (gName n)) tz D σ H := h B H (Ex.refl _) w _ q
theorem q_drop {a : α} (w : Own K B M L H) (h : EV K M te σ B L r a L') (q : ∀ B' H', Ex B B' → Own K B' M L' H' → tz D σ H') : tSeq (tDrop te) tz D σ H := h B H (Ex.refl _) w _ fun _ B' H' e w' _ => q B' H' e w'
theorem q_ret {a : α} (w : Own K B M L H) (h : EV K M te σ B L r a L') (q : ∀ v B' H', Ex B B' → Own K B' M L' H' → r.is K B' v a → D.rt v H') : tSeq (tRet te) tz D σ H := h B H (Ex.refl _) w _ q
theorem q_retN (w : Own K B M L H) (q : D.rt .non H) : tSeq tRetN tz D σ H := q
/-- a list of ours goes out -/
theorem q_retC {n m : Nat} {p : Addr} {as : List α} (w : Own K B M L H) (hs : σ[m]? = some (some (.ref p))) (hc : L[n]? = some ⟨p, cLst r, as⟩) (q : ∀ v B', Ex B B' → Own K B' M (L.eraseIdx n) H → (rLst r).is K B' v as → D.rt v H) : tSeq (tRet (tVar m)) tz D σ H := by
  obtain ⟨o, h1, ⟨xs, h2, h3⟩, h4, w'⟩ := w.freeze hc
  have h4 : B p = none := h4
  refine ⟨_, hs, q _ _ (Ex.new h4) w' ⟨p, xs, rfl, ?_, paired_mono (Ex.new h4) h3⟩⟩
  show upd B p o p = _
  rw [upd_same, h2]
theorem q_if (w : Own K B M L H) (h : ET K M tt σ B L b L') (h1 : b = true → ∀ B' H', Ex B B' → Own K B' M L' H' → t1 { D with nx := tz D } σ H') (h2 : b = false → ∀ B' H', Ex B B' → Own K B' M L' H' → t2 { D with nx := tz D } σ H') : tSeq (tIfS tt t1 t2) tz D σ H :=
  h B H (Ex.refl _) w _ fun B' H' e w' => by
    cases b with
    | true => exact h1 rfl B' H' e w'
    | false => exact h2 rfl B' H' e w'
theorem q_ifc (w : Own K B M L H) (h : ET K M tt σ B L b L') (h1 : b = true → ∀ B' H', Ex B B' → Own K B' M L' H' → t1 D σ H') (h2 : b = false → ∀ B' H', Ex B B' → Own K B' M L' H' → t2 D σ H') : tIfS tt t1 t2 D σ H :=
  h B H (Ex.refl _) w _ fun B' H' e w' => by
    cases b with
    | true => exact h1 rfl B' H' e w'
    | false => exact h2 rfl B' H' e w'
theorem q_cut {t : TS} (Mid : St → Hp → Prop) (h : t { D with nx := Mid } σ H) (k : ∀ σ' H', Mid σ' H' → tz D σ' H') : Evl.tCut t tz D σ H := ⟨Mid, h, k⟩
theorem q_app {n m : Nat} {p : Addr} {as : List α} {a : α} (w : Own K B M L H) (hs : σ[m]? = some (some (.ref p))) (h : EV K M te σ B L r a L') (hc : L'[n]? = some ⟨p, cLst r, as⟩) (hc0 : ∃ n0 : Nat, ∃ a0 : List α, L[n0]? = some ⟨p, cLst r, a0⟩) (hr : room as.length = some ())
    (q : ∀ B' H', Ex B B' → Own K B' M (L'.set n ⟨p, cLst r, as ++ [a]⟩) H' → tz D σ H') : tSeq (tDrop (tBM K "list" rAppend (tVar m) (tCons te tNil))) tz D σ H := by
  obtain ⟨n0, a0, hc0⟩ := hc0
  obtain ⟨⟨o, h1, ys, h2, h3⟩, _⟩ := w.at hc0
  have h1 : H p = some o := h1
  refine ⟨_, hs, .inl ⟨rfl, _, sq_of (xs := ys) (by rw [h1, h2])⟩, h B H (Ex.refl _) w _ fun v B' H' e w' hv => ?_⟩
  obtain ⟨⟨o', g1, xs, g2, g3⟩, _⟩ := w'.at hc
  have g1 : H' p = some o' := g1
  exact ⟨p, xs, v, rfl, rfl, by rw [g1, g2], by rw [paired_len g3]; exact room_some hr, q B' _ e (w'.set hc ⟨_, rfl, paired_app g3 (.cons hv .nil)⟩)⟩
/-- l[i] = e -/
theorem q_setC {n m : Nat} {p : Addr} {as : List α} {a : α} {l : Nat} (w : Own K B M L H) (h : EV K M te σ B L r a L1) (hs : σ[m]? = some (some (.ref p))) (hb : EV K M tb σ B L1 rInt i L2) (hc : L2[n]? = some ⟨p, cLst r, as⟩) (hi : ixN as.length i = some l)
    (q : ∀ B' H', Ex B B' → Own K B' M (L2.set n ⟨p, cLst r, as.set l a⟩) H' → tz D σ H') : tSeq (tAsg te (gSub (tVar m) tb rSetL)) tz D σ H :=
  h B H (Ex.refl _) w _ fun v B1 H1 e1 w1 hv => ⟨_, hs, hb B1 H1 e1 w1 _ fun y B2 H2 e2 w2 hy => by
    obtain ⟨⟨o', g1, xs, g2, g3⟩, _⟩ := w2.at hc
    have g1 : H2 p = some o' := g1
    refine ⟨p, xs, i, l, rfl, hy, by rw [g1, g2], by rw [paired_len g3]; exact hi, q B2 _ (e1.trans e2) (w2.set hc ⟨_, rfl, paired_set (r.mono e2 hv) l g3⟩)⟩⟩
/-- l[1] = e of a list [u, v] -/
theorem q_set1 {n m : Nat} {p : Addr} {a : α × β} {x : β} (w : Own K B M L H) (h : EV K M te σ B L s x L1) (hs : σ[m]? = some (some (.ref p))) (hc : L1[n]? = some ⟨p, cL2 r s, a⟩)
    (q : ∀ B' H', Ex B B' → Own K B' M (L1.set n ⟨p, cL2 r s, (a.1, x)⟩) H' → tz D σ H') : tSeq (tAsg te (gSub (tVar m) (tC (.int 1)) rSetL)) tz D σ H :=
  h B H (Ex.refl _) w _ fun v B1 H1 e1 w1 hv => ⟨_, hs, by
    obtain ⟨⟨o', g1, x0, x1, g2, g3, g4⟩, _⟩ := w1.at hc
    have g1 : H1 p = some o' := g1
    exact ⟨p, [x0, x1], 1, 1, rfl, rfl, by rw [g1, g2], rfl, q B1 _ e1 (w1.set hc ⟨x0, v, rfl, g3, hv⟩)⟩⟩
theorem ev_l2fst {n m : Nat} {p : Addr} {a : α × β} (hs : σ[m]? = some (some (.ref p))) (hc : L[n]? = some ⟨p, cL2 r s, a⟩) : EV K M (tOp (rIx K) (tVar m) (tC (.int 0))) σ B L r a.1 L := fun B1 H e w Q q => by
  obtain ⟨⟨o', g1, x0, x1, g2, g3, g4⟩, _⟩ := w.at hc
  have g1 : H p = some o' := g1
  exact ⟨_, hs, .inl ⟨p, [x0, x1], 0, x0, rfl, rfl, sq_of (by rw [g1, g2]), rfl, q _ B1 H (Ex.refl _) w g3⟩⟩
theorem ev_l2snd {n m : Nat} {p : Addr} {a : α × β} (hs : σ[m]? = some (some (.ref p))) (hc : L[n]? = some ⟨p, cL2 r s, a⟩) : EV K M (tOp (rIx K) (tVar m) (tC (.int 1))) σ B L s a.2 L := fun B1 H e w Q q => by
  obtain ⟨⟨o', g1, x0, x1, g2, g3, g4⟩, _⟩ := w.at hc
  have g1 : H p = some o' := g1
  exact ⟨_, hs, .inl ⟨p, [x0, x1], 1, x1, rfl, rfl, sq_of (by rw [g1, g2]), rfl, q _ B1 H (Ex.refl _) w g4⟩⟩
/-- a new list [u, v] -/
theorem q_asgL2 {n : Nat} {a : α} {b : β} (w : Own K B M L H) (h : EA K M tA σ B L [⟨r, a⟩, ⟨s, b⟩] L') (q : ∀ p B' H', Ex B B' → Own K B' M (⟨p, cL2 r s, (a, b)⟩ :: L') H' → tz D (σ.set n (some (.ref p))) H') : tSeq (tAsg (tLst tA) (gName n)) tz D σ H :=
  h B H (Ex.refl _) w _ fun vs B' H' e w' hv => by
    match vs, hv with
    | [_, _], ⟨h1, h2, _⟩ => exact ⟨by show 2 ≤ sizeLine; decide, fun p hp => q p B' _ e (w'.new hp ⟨_, _, rfl, h1, h2⟩)⟩
theorem q_par {n m : Nat} {a : α} {b : β} (w : Own K B M L H) (h : EA K M tA σ B L [⟨r, a⟩, ⟨s, b⟩] L') (q : ∀ u v B' H', Ex B B' → Own K B' M L' H' → r.is K B' u a → s.is K B' v b → tz D ((σ.set n (some u)).set m (some v)) H') : tSeq (tPar n m tA) tz D σ H :=
  h B H (Ex.refl _) w _ fun vs B' H' e w' hv => by
    match vs, hv with
    | [_, _], ⟨h1, h2, _⟩ => exact ⟨_, _, rfl, q _ _ B' H' e w' h1 h2⟩

/-! ### loops -/
inductive Stp (S R : Type) where
  | nx (s : S)
  | bk (s : S)
  | rt (r : R)
def loopM {S R α : Type} (f : S → α → Option (Stp S R)) : S → List α → Option (Stp S R)
  | s, [] => some (.nx s)
  | s, x :: xs => match f s x with
    | some (.nx s') => loopM f s' xs
    | o => o
def foldO {S α : Type} (f : S → α → Option S) : S → List α → Option S
  | s, [] => some s
  | s, x :: xs => match f s x with
    | some s' => foldO f s' xs
    | none => none
theorem loop_fold {S R α : Type} (f : S → α → Option S) : ∀ (xs : List α) (s : S), loopM (R := R) (fun s x => (f s x).map Stp.nx) s xs = (foldO f s xs).map Stp.nx
  | [], _ => rfl
  | x :: xs, s => by
    unfold loopM foldO
    cases f s x with
    | none => rfl
    | some s' => exact loop_fold f xs s'
/-- what is walked: xs, item by item, whatever is ours -/
structure Wk (K : Fg) (M : Fr) (J : It) (B : Hp) (r : Rep α) (xs : List α) : Prop where
  go : ∀ (i : Nat) a B' L' H', Ex B B' → Own K B' M L' H' → xs[i]? = some a → J.go i H' ∧ ∀ x H2, J.yld i H' x H2 → ∃ B2, Ex B' B2 ∧ Own K B2 M L' H2 ∧ r.is K B2 x a
  stop : ∀ B' L' H', Ex B B' → Own K B' M L' H' → J.stop xs.length H'
def EI (K : Fg) (M : Fr) (wi : TI) (σ : St) (B : Hp) (L : List Cell) (r : Rep α) (xs : List α) (L' : List Cell) : Prop :=
  ∀ B1 H, Ex B B1 → Own K B1 M L H → ∀ R : It → Hp → Prop, (∀ J B2 H2, Ex B1 B2 → Own K B2 M L' H2 → Wk K M J B2 r xs → R J H2) → wi σ H R
theorem ei_tup {xs : List α} (h : EV K M te σ B L (rTup r) xs L') : EI K M (iTup K te) σ B L r xs L' := fun B1 H e w R q => h B1 H e w _ fun v B2 H2 e2 w2 hv => by
  obtain ⟨p, vs, rfl, hs, hp⟩ := hv
  refine ⟨p, rfl, ⟨vs, ex_t w2.b hs⟩, q _ B2 H2 e2 w2 ⟨fun i a B' L' H' e' w' hi => ?_, fun B' L' H' e' w' => ⟨vs, ex_t (e'.trans w'.b) hs, by rw [paired_len hp]; exact Nat.le_refl _⟩⟩⟩
  obtain ⟨x, hx, hr⟩ := paired_get hp hi
  refine ⟨⟨vs, x, ex_t (e'.trans w'.b) hs, hx⟩, fun y H3 hy => ?_⟩
  obtain ⟨rfl, hy⟩ := hy
  have := hy vs (ex_t (e'.trans w'.b) hs)
  rw [hx] at this
  cases this
  exact ⟨B', Ex.refl _, w', r.mono e' hr⟩
theorem ei_scr {xs : List α} (h : EV K M te σ B L (rScr r) xs L') : EI K M (iList K te) σ B L r xs L' := fun B1 H e w R q => h B1 H e w _ fun v B2 H2 e2 w2 hv => by
  obtain ⟨p, vs, rfl, hs, hp⟩ := hv
  refine ⟨p, rfl, ⟨vs, ex_l w2.b hs⟩, q _ B2 H2 e2 w2 ⟨fun i a B' L' H' e' w' hi => ?_, fun B' L' H' e' w' => ⟨vs, ex_l (e'.trans w'.b) hs, by rw [paired_len hp]; exact Nat.le_refl _⟩⟩⟩
  obtain ⟨x, hx, hr⟩ := paired_get hp hi
  refine ⟨⟨vs, x, ex_l (e'.trans w'.b) hs, hx⟩, fun y H3 hy => ?_⟩
  obtain ⟨rfl, hy⟩ := hy
  have := hy vs (ex_l (e'.trans w'.b) hs)
  rw [hx] at this
  cases this
  exact ⟨B', Ex.refl _, w', r.mono e' hr⟩
theorem ei_lst {xs : List α} (h : EV K M te σ B L (rLst r) xs L') : EI K M (iList K te) σ B L r xs L' := ei_scr (ev_scr h)
/-- lo, lo + 1, .. below hi -/
def rng (lo hi : Int) : List Int := (List.range (hi - lo).toNat).map fun (k : Nat) => lo + (k : Int)
theorem rng_len (lo hi : Int) : (rng lo hi).length = (hi - lo).toNat := by simp [rng]
theorem rng_get {lo hi : Int} {i : Nat} {a : Int} (h : (rng lo hi)[i]? = some a) : i < (hi - lo).toNat ∧ a = lo + (i : Int) := by
  unfold rng at h
  rw [List.getElem?_map] at h
  cases e : (List.range (hi - lo).toNat)[i]? with
  | none => rw [e] at h; cases h
  | some k =>
    rw [e] at h
    obtain ⟨h1, h2⟩ := List.getElem?_eq_some_iff.mp e
    rw [List.getElem_range] at h2
    rw [List.length_range] at h1
    subst h2
    exact ⟨h1, (Option.some.inj h).symm⟩
def small62 (i : Int) : Option Unit := if -(2 ^ 62) ≤ i ∧ i < 2 ^ 62 then some () else none
theorem small62_some {u : Unit} (h : small62 i = some u) : -(2 ^ 62) ≤ i ∧ i < 2 ^ 62 := by
  unfold small62 at h
  split at h
  · assumption
  · cases h
theorem wk_rng {lo hi : Int} : Wk K M (Itr lo (hi - lo).toNat) B rInt (rng lo hi) :=
  ⟨fun i a B' L' H' e' w' hi => by
    obtain ⟨h1, rfl⟩ := rng_get hi
    exact ⟨h1, fun x H2 hy => ⟨B', Ex.refl _, by rw [hy.1]; exact w', hy.2⟩⟩, fun B' L' H' e' w' => by rw [rng_len]; exact Nat.le_refl _⟩
theorem ei_rng1 (h : EA K M tA σ B L [⟨rInt, j⟩] L') (hj : small62 j = some ()) : EI K M (iRng1 tA) σ B L rInt (rng 0 j) L' := fun B1 H e w R q => h B1 H e w _ fun vs B2 H2 e2 w2 hv => by
  match vs, hv with
  | [_], ⟨h1, _⟩ =>
    refine ⟨j, by rw [show _ = V.int j from h1], (small62_some hj).1, (small62_some hj).2, q _ B2 H2 e2 w2 ?_⟩
    have := wk_rng (K := K) (M := M) (B := B2) (lo := 0) (hi := j)
    rw [show j - 0 = j by omega] at this
    exact this
theorem ei_rng2 (h : EA K M tA σ B L [⟨rInt, i⟩, ⟨rInt, j⟩] L') (hi : small62 i = some ()) (hj : small62 j = some ()) : EI K M (iRng2 tA) σ B L rInt (rng i j) L' := fun B1 H e w R q => h B1 H e w _ fun vs B2 H2 e2 w2 hv => by
  match vs, hv with
  | [_, _], ⟨h1, h2, _⟩ => exact ⟨i, j, by rw [show _ = V.int i from h1, show _ = V.int j from h2], ⟨(small62_some hi).1, (small62_some hi).2, (small62_some hj).1, (small62_some hj).2⟩, q _ B2 H2 e2 w2 wk_rng⟩

theorem loopM_drop {S R : Type} {f : S → α → Option (Stp S R)} {s s' : S} {xs : List α} {i : Nat} {a : α} (h : xs[i]? = some a) : loopM f s (xs.drop i) = (match f s a with | some (.nx s') => loopM f s' (xs.drop (i + 1)) | o => o) := by
  obtain ⟨h1, h2⟩ := List.getElem?_eq_some_iff.mp h
  rw [List.drop_eq_getElem_cons h1, h2]
  rfl
theorem q_for {S R : Type} {wi : TI} {g : TG} {tb : TS} {xs : List α} (w : Own K B M L H) (hi : EI K M wi σ B L r xs L1) (f : S → α → Option (Stp S R)) (P : S → Hp → St → Prop) (Lf : S → List Cell) (s0 : S) {o : Stp S R} (hm : loopM f s0 xs = some o)
    (h0 : ∀ B', Ex B B' → P s0 B' σ) (hL : Lf s0 = L1)
    (hs : ∀ s x st v B0 B' H' σ', f s x = some st → Ex B B0 → P s B0 σ' → Ex B0 B' → Own K B' M (Lf s) H' → r.is K B' v x → (∀ q, st = .rt q → o = .rt q) → ∀ (N : St → Hp → Prop) (BK : St → Hp → Prop),
      (∀ s3 B3 H3 σ3, st = .nx s3 → Ex B' B3 → Own K B3 M (Lf s3) H3 → P s3 B3 σ3 → N σ3 H3) → (∀ s3 B3 H3 σ3, st = .bk s3 → Ex B' B3 → Own K B3 M (Lf s3) H3 → P s3 B3 σ3 → BK σ3 H3) →
      g v σ' H' fun σ2 H2 => tb { D with nx := N, ct := N, bk := BK } σ2 H2)
    (hd : ∀ s B' H' σ', (o = .nx s ∨ o = .bk s) → Ex B B' → Own K B' M (Lf s) H' → P s B' σ' → tz D σ' H') : tSeq (tFor wi g tb) tz D σ H :=
  hi B H (Ex.refl _) w _ fun J B1 H1 e1 w1 k => by
    refine ⟨fun i m σ' H' => m = xs.length - i ∧ i ≤ xs.length ∧ ∃ s B', Ex B1 B' ∧ Own K B' M (Lf s) H' ∧ P s B' σ' ∧ loopM f s (xs.drop i) = some o, ⟨xs.length, by simp, Nat.zero_le _, s0, B1, Ex.refl _, by rw [hL]; exact w1, h0 B1 e1, hm⟩, ?_⟩
    rintro i m σ' H' ⟨rfl, hle, s, B', e', w', hP, hl⟩
    by_cases hlt : i < xs.length
    · right
      obtain ⟨a, ha⟩ : ∃ a, xs[i]? = some a := ⟨xs[i], List.getElem?_eq_getElem hlt⟩
      obtain ⟨hgo, hy⟩ := k.go i a B' _ H' e' w' ha
      rw [loopM_drop (s' := s) ha] at hl
      cases hst : f s a with
      | none => rw [hst] at hl; cases hl
      | some st =>
        rw [hst] at hl
        refine ⟨hgo, fun σ3 H3 => ∃ s3 B3, st = .nx s3 ∧ Ex B1 B3 ∧ Own K B3 M (Lf s3) H3 ∧ P s3 B3 σ3, fun σ3 H3 ⟨s3, B3, e3, a1, a2, a3⟩ => ?_, fun x H2 hy2 => ?_⟩
        · subst e3
          exact ⟨_, (by omega : xs.length - (i + 1) < xs.length - i), rfl, hlt, s3, B3, a1, a2, a3, hl⟩
        · obtain ⟨B2, e2, w2, hr⟩ := hy x H2 hy2
          refine hs s a st x B' B2 H2 σ' hst (e1.trans e') hP e2 w2 hr (fun q e => by rw [e] at hl; exact (Option.some.inj hl).symm) _ _ (fun s3 B3 H3 σ3 e3 e4 w3 p3 => ⟨s3, B3, e3, (e'.trans e2).trans e4, w3, p3⟩) (fun s3 B3 H3 σ3 e3 e4 w3 p3 => ?_)
          rw [e3] at hl
          exact hd s3 B3 H3 σ3 (.inr (Option.some.inj hl).symm) (((e1.trans e').trans e2).trans e4) w3 p3
    · left
      have : i = xs.length := by omega
      subst this
      rw [List.drop_length] at hl
      have ho : o = .nx s := (Option.some.inj hl).symm
      exact ⟨k.stop B' _ H' e' w', hd s B' H' σ' (.inl ho) (e1.trans e') w' hP⟩
end
end L3

namespace L3
open PySem L2
open Evl (Ex ex_rd ex_l ex_t sq_of st_of fresh_back)

theorem args1 {K : Fg} {B : Hp} {vs : List V} {x : Arg} (h : ArgsIs K B vs [x]) : ∃ u, vs = [u] ∧ x.is K B u := by
  match vs, h with
  | [_], ⟨h1, _⟩ => exact ⟨_, rfl, h1⟩
theorem args2 {K : Fg} {B : Hp} {vs : List V} {x y : Arg} (h : ArgsIs K B vs [x, y]) : ∃ u v, vs = [u, v] ∧ x.is K B u ∧ y.is K B v := by
  match vs, h with
  | [_, _], ⟨h1, h2, _⟩ => exact ⟨_, _, rfl, h1, h2⟩
theorem args3 {K : Fg} {B : Hp} {vs : List V} {x y z : Arg} (h : ArgsIs K B vs [x, y, z]) : ∃ u v w, vs = [u, v, w] ∧ x.is K B u ∧ y.is K B v ∧ z.is K B w := by
  match vs, h with
  | [_, _, _], ⟨h1, h2, h3, _⟩ => exact ⟨_, _, _, rfl, h1, h2, h3⟩
theorem args4 {K : Fg} {B : Hp} {vs : List V} {x y z a : Arg} (h : ArgsIs K B vs [x, y, z, a]) : ∃ u v w t, vs = [u, v, w, t] ∧ x.is K B u ∧ y.is K B v ∧ z.is K B w ∧ a.is K B t := by
  match vs, h with
  | [_, _, _, _], ⟨h1, h2, h3, h4, _⟩ => exact ⟨_, _, _, _, rfl, h1, h2, h3, h4⟩
theorem args5 {K : Fg} {B : Hp} {vs : List V} {x y z a b : Arg} (h : ArgsIs K B vs [x, y, z, a, b]) : ∃ u v w t s, vs = [u, v, w, t, s] ∧ x.is K B u ∧ y.is K B v ∧ z.is K B w ∧ a.is K B t ∧ b.is K B s := by
  match vs, h with
  | [_, _, _, _, _], ⟨h1, h2, h3, h4, h5, _⟩ => exact ⟨_, _, _, _, _, rfl, h1, h2, h3, h4, h5⟩
theorem args6 {K : Fg} {B : Hp} {vs : List V} {x y z a b c : Arg} (h : ArgsIs K B vs [x, y, z, a, b, c]) : ∃ u v w t s r, vs = [u, v, w, t, s, r] ∧ x.is K B u ∧ y.is K B v ∧ z.is K B w ∧ a.is K B t ∧ b.is K B s ∧ c.is K B r := by
  match vs, h with
  | [_, _, _, _, _, _], ⟨h1, h2, h3, h4, h5, h6, _⟩ => exact ⟨_, _, _, _, _, _, rfl, h1, h2, h3, h4, h5, h6⟩
/-- a constant of the module -/
structure GV (K : Fg) (mg : Str → Option Value) (x : Str) {α : Type} (r : Rep α) (a : α) : Prop where
  ex : ∃ (u : Value) (v : V), mg x = some u ∧ RelV v u ∧ ∀ B, r.is K B v a
def absI (i : Int) : Int := if i < 0 then -i else i
def gcdI (i j : Int) : Int := ((Nat.gcd i.natAbs j.natAbs : Nat) : Int)
def ixO (n : Nat) (i : Int) : Option Nat := ixN n i

section
variable {K : Fg} {M : Fr} {σ : St} {B : Hp} {L L1 L2 L' : List Cell} {α β γ δ : Type} {r : Rep α} {s : Rep β} {t : Rep γ} {ta tb tc te : TE} {tt tu : TT} {tA : TA} {i j k : Int} {b c : Bool}
theorem ev_add (ha : EV K M ta σ B L rInt i L1) (hb : EV K M tb σ B L1 rInt j L2) : EV K M (tOp (rI0 fun i j => .int (i + j)) ta tb) σ B L rInt (i + j) L2 := ev_I0 (g := fun i j => i + j) ha hb
theorem ev_sub (ha : EV K M ta σ B L rInt i L1) (hb : EV K M tb σ B L1 rInt j L2) : EV K M (tOp (rI0 fun i j => .int (i - j)) ta tb) σ B L rInt (i - j) L2 := ev_I0 (g := fun i j => i - j) ha hb
theorem ev_bitand (ha : EV K M ta σ B L rInt i L1) (hb : EV K M tb σ B L1 rInt j L2) : EV K M (tOp (rI0 fun i j => .int (Builtin.bitAnd i j)) ta tb) σ B L rInt (Builtin.bitAnd i j) L2 := ev_I0 (g := fun i j => Builtin.bitAnd i j) ha hb
abbrev rLt : R2 := rI0 fun i j => .bl (decide (i < j))
abbrev rLe : R2 := rI0 fun i j => .bl (decide (i ≤ j))
abbrev rGt : R2 := rI0 fun i j => .bl (decide (j < i))
abbrev rGe : R2 := rI0 fun i j => .bl (decide (j ≤ i))
theorem ev_lt (ha : EV K M ta σ B L rInt i L1) (hb : EV K M tb σ B L1 rInt j L2) : EV K M (tOp rLt ta tb) σ B L rBool (decide (i < j)) L2 := ev_B0 (g := fun i j => decide (i < j)) ha hb
theorem ev_le (ha : EV K M ta σ B L rInt i L1) (hb : EV K M tb σ B L1 rInt j L2) : EV K M (tOp rLe ta tb) σ B L rBool (decide (i ≤ j)) L2 := ev_B0 (g := fun i j => decide (i ≤ j)) ha hb
theorem ev_gt (ha : EV K M ta σ B L rInt i L1) (hb : EV K M tb σ B L1 rInt j L2) : EV K M (tOp rGt ta tb) σ B L rBool (decide (i > j)) L2 := ev_B0 (g := fun i j => decide (j < i)) ha hb
theorem ev_ge (ha : EV K M ta σ B L rInt i L1) (hb : EV K M tb σ B L1 rInt j L2) : EV K M (tOp rGe ta tb) σ B L rBool (decide (i ≥ j)) L2 := ev_B0 (g := fun i j => decide (j ≤ i)) ha hb
theorem ev_ch {g g' : Int → Int → Bool} (ha : EV K M ta σ B L rInt i L1) (hb : EV K M tb σ B L1 rInt j L2) (hc : EV K M tc σ B L2 rInt k L2) : EV K M (tChain (rI0 fun i j => .bl (g i j)) (rI0 fun i j => .bl (g' i j)) ta tb tc) σ B L rBool (g i j && g' j k) L2 := fun B1 H e w Q q =>
  ha B1 H e w _ fun x B2 H2 e2 w2 hx => hb B2 H2 (e.trans e2) w2 _ fun y B3 H3 e3 w3 hy => ⟨i, j, hx, hy, g i j, rfl, by
    cases hg : g i j with
    | true => exact hc B3 H3 ((e.trans e2).trans e3) w3 _ fun z B4 H4 e4 w4 hz => ⟨j, k, hy, hz, q _ B4 H4 ((e2.trans e3).trans e4) w4 (by show V.bl _ = V.bl _; rw [hg]; rfl)⟩
    | false => exact q _ B3 H3 (e2.trans e3) w3 (by show V.bl _ = V.bl _; rw [hg]; rfl)⟩
theorem ev_ch_lt_lt (ha : EV K M ta σ B L rInt i L1) (hb : EV K M tb σ B L1 rInt j L2) (hc : EV K M tc σ B L2 rInt k L2) : EV K M (tChain rLt rLt ta tb tc) σ B L rBool (decide (i < j) && decide (j < k)) L2 := ev_ch (g := fun i j => decide (i < j)) (g' := fun i j => decide (i < j)) ha hb hc
theorem ev_ch_le_lt (ha : EV K M ta σ B L rInt i L1) (hb : EV K M tb σ B L1 rInt j L2) (hc : EV K M tc σ B L2 rInt k L2) : EV K M (tChain rLe rLt ta tb tc) σ B L rBool (decide (i ≤ j) && decide (j < k)) L2 := ev_ch (g := fun i j => decide (i ≤ j)) (g' := fun i j => decide (i < j)) ha hb hc
theorem ev_ch_lt_le (ha : EV K M ta σ B L rInt i L1) (hb : EV K M tb σ B L1 rInt j L2) (hc : EV K M tc σ B L2 rInt k L2) : EV K M (tChain rLt rLe ta tb tc) σ B L rBool (decide (i < j) && decide (j ≤ k)) L2 := ev_ch (g := fun i j => decide (i < j)) (g' := fun i j => decide (i ≤ j)) ha hb hc
theorem ev_ch_le_le (ha : EV K M ta σ B L rInt i L1) (hb : EV K M tb σ B L1 rInt j L2) (hc : EV K M tc σ B L2 rInt k L2) : EV K M (tChain rLe rLe ta tb tc) σ B L rBool (decide (i ≤ j) && decide (j ≤ k)) L2 := ev_ch (g := fun i j => decide (i ≤ j)) (g' := fun i j => decide (i ≤ j)) ha hb hc
theorem ev_and0 {d : Bool} (h1 : EV K M ta σ B L rBool b L1) (h2 : b = true → EV K M tb σ B L1 rBool d L1) : EV K M (tAndV ta tb) σ B L rBool (b && d) L1 := fun B1 H e w Q q => h1 B1 H e w _ fun x B2 H2 e2 w2 hx => ⟨b, hx, by
  cases b with
  | true => exact h2 rfl B2 H2 (e.trans e2) w2 Q fun v B3 H3 e3 w3 hv => q v B3 H3 (e2.trans e3) w3 hv
  | false => exact q _ B2 H2 e2 w2 rfl⟩
theorem ev_or0 {d : Bool} (h1 : EV K M ta σ B L rBool b L1) (h2 : b = false → EV K M tb σ B L1 rBool d L1) : EV K M (tOrV ta tb) σ B L rBool (b || d) L1 := fun B1 H e w Q q => h1 B1 H e w _ fun x B2 H2 e2 w2 hx => ⟨b, hx, by
  cases b with
  | true => exact q _ B2 H2 e2 w2 rfl
  | false => exact h2 rfl B2 H2 (e.trans e2) w2 Q fun v B3 H3 e3 w3 hv => q v B3 H3 (e2.trans e3) w3 hv⟩
/-! ### targets -/
variable {H : Hp} {Qs : St → Hp → Prop} {g : TG} {gs : TGs}
theorem g_T2 {a : α × β} {v : V} {gs : TGs} (h : (rT2 r s).is K B v a) (w : Own K B M L H) (q : ∀ x y, r.is K B x a.1 → s.is K B y a.2 → gs [x, y] σ H Qs) : gTup K 2 gs v σ H Qs := by
  obtain ⟨p, x, y, rfl, h1, h2, h3⟩ := h
  exact ⟨p, _, rfl, ex_t w.b h1, rfl, q x y h2 h3⟩
theorem g_T3 {a : α × β × γ} {v : V} {gs : TGs} (h : (rT3 r s t).is K B v a) (w : Own K B M L H) (q : ∀ x y z, r.is K B x a.1 → s.is K B y a.2.1 → t.is K B z a.2.2 → gs [x, y, z] σ H Qs) : gTup K 3 gs v σ H Qs := by
  obtain ⟨p, x, y, z, rfl, h1, h2, h3, h4⟩ := h
  exact ⟨p, _, rfl, ex_t w.b h1, rfl, q x y z h2 h3 h4⟩
theorem g_cons {v : V} {vs : List V} (h : g v σ H fun σ' H' => gs vs σ' H' Qs) : gCons g gs (v :: vs) σ H Qs := ⟨v, vs, rfl, h⟩
theorem g_name {n : Nat} {v : V} (h : Qs (σ.set n (some v)) H) : gName n v σ H Qs := h
theorem g_nil (h : Qs σ H) : gNil [] σ H Qs := ⟨rfl, h⟩
/-! ### more statements -/
variable {D : Ends} {tz t1 t2 : TS}
theorem q_aug {n : Nat} {v : V} {f : Int → Int → Int} (w : Own K B M L H) (hs : σ[n]? = some (some v)) (hv : v = .int i) (h : EV K M te σ B L rInt j L') (q : ∀ v B' H', Ex B B' → Own K B' M L' H' → rInt.is K B' v (f i j) → tz D (σ.set n (some v)) H') : tSeq (tAug n te (ipI f)) tz D σ H :=
  ⟨v, hs, h B H (Ex.refl _) w _ fun y B' H' e w' hy => ⟨i, j, hv, hy, q _ B' H' e w' rfl⟩⟩
theorem q_unp {a : α} (w : Own K B M L H) (h : EV K M te σ B L r a L') (q : ∀ v B' H', Ex B B' → Own K B' M L' H' → r.is K B' v a → g v σ H' (tz D)) : tSeq (tAsg te g) tz D σ H := h B H (Ex.refl _) w _ q
def Stp.out {S R : Type} : Stp S R → S ⊕ R
  | .nx s => .inl s
  | .bk s => .inl s
  | .rt q => .inr q
def Stp.st {S : Type} : Stp S Empty → S
  | .nx s => s
  | .bk s => s
  | .rt q => nomatch q
def loopR {S R α : Type} (f : S → α → Option (Stp S R)) (s : S) (xs : List α) : Option (S ⊕ R) := (loopM f s xs).map Stp.out
def loopB {S α : Type} (f : S → α → Option (Stp S Empty)) (s : S) (xs : List α) : Option S := (loopM f s xs).map Stp.st
theorem q_forR {S R : Type} {wi : TI} {g : TG} {tb : TS} {xs : List α} (w : Own K B M L H) (hi : EI K M wi σ B L r xs L1) (f : S → α → Option (Stp S R)) (P : S → Hp → St → Prop) (Lf : S → List Cell) (s0 : S) {o : S ⊕ R} (hm : loopR f s0 xs = some o)
    (h0 : ∀ B', Ex B B' → P s0 B' σ) (hL : Lf s0 = L1)
    (hs : ∀ s x st v B0 B' H' σ', f s x = some st → Ex B B0 → P s B0 σ' → Ex B0 B' → Own K B' M (Lf s) H' → r.is K B' v x → (∀ q, st = .rt q → o = .inr q) → ∀ (N : St → Hp → Prop) (BK : St → Hp → Prop),
      (∀ s3 B3 H3 σ3, st = .nx s3 → Ex B' B3 → Own K B3 M (Lf s3) H3 → P s3 B3 σ3 → N σ3 H3) → (∀ s3 B3 H3 σ3, st = .bk s3 → Ex B' B3 → Own K B3 M (Lf s3) H3 → P s3 B3 σ3 → BK σ3 H3) →
      g v σ' H' fun σ2 H2 => tb { D with nx := N, ct := N, bk := BK } σ2 H2)
    (hd : ∀ s B' H' σ', o = .inl s → Ex B B' → Own K B' M (Lf s) H' → P s B' σ' → tz D σ' H') : tSeq (tFor wi g tb) tz D σ H := by
  unfold loopR at hm
  cases h : loopM f s0 xs with
  | none => rw [h] at hm; cases hm
  | some o' =>
    rw [h] at hm
    have hm : o'.out = o := Option.some.inj hm
    refine q_for w hi f P Lf s0 h h0 hL (fun s x st v B0 B' H' σ' a1 a2 a3 a4 a5 a6 a7 => hs s x st v B0 B' H' σ' a1 a2 a3 a4 a5 a6 fun q e => ?_) fun s B' H' σ' a1 => hd s B' H' σ' ?_
    · rw [← hm, a7 q e]; rfl
    · rcases a1 with rfl | rfl
      · exact hm.symm
      · exact hm.symm
theorem q_forB {S : Type} {wi : TI} {g : TG} {tb : TS} {xs : List α} (w : Own K B M L H) (hi : EI K M wi σ B L r xs L1) (f : S → α → Option (Stp S Empty)) (P : S → Hp → St → Prop) (Lf : S → List Cell) (s0 : S) {s1 : S} (hm : loopB f s0 xs = some s1)
    (h0 : ∀ B', Ex B B' → P s0 B' σ) (hL : Lf s0 = L1)
    (hs : ∀ s x st v B0 B' H' σ', f s x = some st → Ex B B0 → P s B0 σ' → Ex B0 B' → Own K B' M (Lf s) H' → r.is K B' v x → ∀ (N : St → Hp → Prop) (BK : St → Hp → Prop),
      (∀ s3 B3 H3 σ3, st = .nx s3 → Ex B' B3 → Own K B3 M (Lf s3) H3 → P s3 B3 σ3 → N σ3 H3) → (∀ s3 B3 H3 σ3, st = .bk s3 → Ex B' B3 → Own K B3 M (Lf s3) H3 → P s3 B3 σ3 → BK σ3 H3) →
      g v σ' H' fun σ2 H2 => tb { D with nx := N, ct := N, bk := BK } σ2 H2)
    (hd : ∀ B' H' σ', Ex B B' → Own K B' M (Lf s1) H' → P s1 B' σ' → tz D σ' H') : tSeq (tFor wi g tb) tz D σ H := by
  unfold loopB at hm
  cases h : loopM f s0 xs with
  | none => rw [h] at hm; cases hm
  | some o' =>
    rw [h] at hm
    have hm : o'.st = s1 := Option.some.inj hm
    refine q_for w hi f P Lf s0 h h0 hL (fun s x st v B0 B' H' σ' a1 a2 a3 a4 a5 a6 _ => hs s x st v B0 B' H' σ' a1 a2 a3 a4 a5 a6) fun s B' H' σ' a1 => ?_
    have e : s1 = s := by
      rcases a1 with rfl | rfl
      · exact hm.symm
      · exact hm.symm
    subst e
    exact hd B' H' σ'
theorem q_fold {S : Type} {wi : TI} {g : TG} {tb : TS} {xs : List α} (w : Own K B M L H) (hi : EI K M wi σ B L r xs L1) (f : S → α → Option S) (P : S → Hp → St → Prop) (Lf : S → List Cell) (s0 : S) {s1 : S} (hm : foldO f s0 xs = some s1)
    (h0 : ∀ B', Ex B B' → P s0 B' σ) (hL : Lf s0 = L1)
    (hs : ∀ s x s' v B0 B' H' σ', f s x = some s' → Ex B B0 → P s B0 σ' → Ex B0 B' → Own K B' M (Lf s) H' → r.is K B' v x → ∀ (N : St → Hp → Prop) (BK : St → Hp → Prop),
      (∀ B3 H3 σ3, Ex B' B3 → Own K B3 M (Lf s') H3 → P s' B3 σ3 → N σ3 H3) →
      g v σ' H' fun σ2 H2 => tb { D with nx := N, ct := N, bk := BK } σ2 H2)
    (hd : ∀ B' H' σ', Ex B B' → Own K B' M (Lf s1) H' → P s1 B' σ' → tz D σ' H') : tSeq (tFor wi g tb) tz D σ H := by
  have h := loop_fold (R := Empty) f xs s0
  rw [hm] at h
  refine q_for w hi _ P Lf s0 h h0 hL (fun s x st v B0 B' H' σ' a1 a2 a3 a4 a5 a6 _ N BK hN hB => ?_) fun s B' H' σ' a1 => ?_
  · cases e : f s x with
    | none => rw [e] at a1; cases a1
    | some s' =>
      rw [e] at a1
      have a1 : st = .nx s' := (Option.some.inj a1).symm
      exact hs s x s' v B0 B' H' σ' e a2 a3 a4 a5 a6 N BK fun B3 H3 σ3 => hN s' B3 H3 σ3 a1
  · have e : s1 = s := by
      rcases a1 with h | h
      · cases h; rfl
      · cases h
    subst e
    exact hd B' H' σ'
end
/-- a def that may be called by its name -/
structure Cl (P : Program) (w : World) (K : Fg) (mg : Str → Option Value) (base : Heap) (k : Nat) (x : Str) (sp : Sp) (dvs : List V) : Prop where
  ex : ∃ (f : Addr) (fd : FuncData) (ps : List Str) (ds : List Value), FnOk P w K mg base CX0 k f fd ps sp ∧ mg x = some (.ref f) ∧ PySem.W.keepIn K (.ref f) = true ∧ Binds K fd ps ds ∧ Vals dvs ds
theorem pe_c {X : Cx} {k j : Nat} {x : Str} {sp : Sp} {dvs : List V} {p pos : Pos} {e : Expr} {es : List Expr} {t : TA} (c : Cl X.prog X.w X.K X.mg X.base k x sp dvs) (hr : Room j X.A) (hk : k ≤ j) (hg : Gl X x) (ha : PA X (e :: es) t)
    (hdb : (x == ("__debug__" : Str)) = false := by decide) (he : starEach (e :: es) X.env = (false, eval e X.env) :: starEach es X.env := by rfl) (hpl : (backTo pos (starEach es X.env)).any (·.1) = false := by rfl) :
    PE X (.Call (.Name x p) (e :: es) [] pos) (tCall sp dvs E0 t) := by
  obtain ⟨f, fd, ps, ds, F, hm, kp, b, d⟩ := c.ex
  exact pe_call F (hr.mono hk) hg hm kp b d pass0 ha hdb he hpl
theorem bt_len : bootBuiltins "len" = some (.builtin "len") := by decide +kernel
theorem bt_abs : bootBuiltins "abs" = some (.builtin "abs") := by decide +kernel
theorem bt_int : bootBuiltins "int" = some (.type "int") := by decide +kernel
theorem bt_isinstance : bootBuiltins "isinstance" = some (.builtin "isinstance") := by decide +kernel
theorem bt_sum : bootBuiltins "sum" = some (.builtin "sum") := by decide +kernel
theorem bt_any : bootBuiltins "any" = some (.builtin "any") := by decide +kernel
theorem bt_all : bootBuiltins "all" = some (.builtin "all") := by decide +kernel
theorem bt_list : bootBuiltins "list" = some (.type "list") := by decide +kernel
theorem bt_bool : bootBuiltins "bool" = some (.type "bool") := by decide +kernel
theorem bt_tuple : bootBuiltins "tuple" = some (.type "tuple") := by decide +kernel
theorem bt_sorted : bootBuiltins "sorted" = some (.builtin "sorted") := by decide +kernel
theorem bt_set : bootBuiltins "set" = some (.type "set") := by decide +kernel
theorem bt_str : bootBuiltins "str" = some (.type "str") := by decide +kernel
theorem bt_max : bootBuiltins "max" = some (.builtin "max") := by decide +kernel
theorem bt_min : bootBuiltins "min" = some (.builtin "min") := by decide +kernel
theorem bt_enumerate : bootBuiltins "enumerate" = some (.type "enumerate") := by decide +kernel
theorem bt_zip : bootBuiltins "zip" = some (.type "zip") := by decide +kernel
theorem bt_dict : bootBuiltins "dict" = some (.type "dict") := by decide +kernel
theorem room_hu {A : Around} {k : Nat} (hr : Room k A) : A.units + 64 < cLine := hr.units
theorem nn_rInt {K : Fg} {B : Hp} {v : V} {x : Int} (h : rInt.is K B v x) : v ≠ .non := by
  have h : v = .int x := h
  subst h; intro e; cases e
end L3

namespace L3
open PySem L2
open Evl (Ex ex_rd ex_l ex_t sq_of st_of fresh_back)

/-! ### data of any form -/
theorem exl {K : Fg} {B B' : Hp} {a : Addr} {xs : List V} (e : Ex B B') (h : SqL K B a xs) : SqL K B' a xs := ex_l e h
mutual
theorem dp_mono {K : Fg} {B B' : Hp} (e : Ex B B') : ∀ {v : V} {d : PyData}, Dp K B v d → Dp K B' v d
  | _, _, .non => .non
  | _, _, .bl b => .bl b
  | _, _, .int i => .int i
  | _, _, .str x => .str x
  | _, _, .lst h t => .lst (ex_l e h) (dpAll_mono e t)
  | _, _, .tup h t => .tup (ex_t e h) (dpAll_mono e t)
theorem dpAll_mono {K : Fg} {B B' : Hp} (e : Ex B B') : ∀ {vs : List V} {ds : List PyData}, DpAll K B vs ds → DpAll K B' vs ds
  | _, _, .nil => .nil
  | _, _, .cons h t => .cons (dp_mono e h) (dpAll_mono e t)
end
def rDat : Rep PyData := ⟨fun K B v d => Dp K B v d, fun e h => dp_mono e h⟩
theorem dpAll_paired {K : Fg} {B : Hp} : ∀ {vs : List V} {ds : List PyData}, DpAll K B vs ds → Paired (rDat.is K B) vs ds
  | _, _, .nil => .nil
  | _, _, .cons h t => .cons h (dpAll_paired t)
theorem dpAll_of {K : Fg} {B : Hp} {α : Type} {r : Rep α} {f : α → PyData} (h : ∀ v a, r.is K B v a → Dp K B v (f a)) : ∀ {vs : List V} {as : List α}, Paired (r.is K B) vs as → DpAll K B vs (as.map f)
  | _, _, .nil => .nil
  | _, _, .cons r t => .cons (h _ _ r) (dpAll_of h t)
/-- typed data as data -/
structure DR {α : Type} (r : Rep α) (f : α → PyData) (n : Nat) : Prop where
  dp : ∀ K B v a, r.is K B v a → Dp K B v (f a)
  lay : ∀ a, (f a).canLay0 = true
  dep : ∀ a, (f a).depth ≤ n
  eqv : ∀ a b, PyData.eqv (f a) (f b) = true ↔ a = b
  inj : ∀ a b, f a = f b → a = b
theorem layAll {α : Type} {f : α → PyData} (h : ∀ a, (f a).canLay0 = true) : ∀ l : List α, PyData.canLayAll0 (l.map f) = true
  | [] => rfl
  | a :: l => by simp only [List.map_cons, PyData.canLayAll0, h a, layAll h l, Bool.and_self]
theorem depAll {α : Type} {f : α → PyData} {n : Nat} (h : ∀ a, (f a).depth ≤ n) : ∀ l : List α, PyData.depthAll (l.map f) ≤ n
  | [] => by simp [PyData.depthAll]
  | a :: l => by simp only [List.map_cons, PyData.depthAll]; have := h a; have := depAll h l; omega
theorem eqvAll {α : Type} {f : α → PyData} (h : ∀ a b, PyData.eqv (f a) (f b) = true ↔ a = b) : ∀ l m : List α, PyData.eqvAll (l.map f) (m.map f) = true ↔ l = m
  | [], [] => by simp [PyData.eqvAll]
  | [], b :: m => by simp [PyData.eqvAll]
  | a :: l, [] => by simp [PyData.eqvAll]
  | a :: l, b :: m => by simp only [List.map_cons, PyData.eqvAll, Bool.and_eq_true, h a b, eqvAll h l m, List.cons.injEq]
theorem map_inj {α β : Type} {f : α → β} (h : ∀ a b, f a = f b → a = b) : ∀ l m : List α, l.map f = m.map f → l = m
  | [], [], _ => rfl
  | [], _ :: _, e => by simp at e
  | _ :: _, [], e => by simp at e
  | a :: l, b :: m, e => by
    rw [List.map_cons, List.map_cons, List.cons.injEq] at e
    rw [h _ _ e.1, map_inj h l m e.2]
theorem dr_int : DR rInt PyData.int 1 := ⟨fun _ _ _ a h => by have h : _ = V.int a := h; subst h; exact .int a, fun _ => rfl, fun _ => by simp [PyData.depth], fun a b => by simp [PyData.eqv], fun a b h => by injection h⟩
theorem dr_bool : DR rBool PyData.bool 1 := ⟨fun _ _ _ a h => by have h : _ = V.bl a := h; subst h; exact .bl a, fun _ => rfl, fun _ => by simp [PyData.depth], fun a b => by simp [PyData.eqv], fun a b h => by injection h⟩
def dNon : Unit → PyData := fun _ => .none
theorem dr_non : DR rNon dNon 1 := ⟨fun _ _ _ a h => by have h : _ = V.non := h; subst h; exact .non, fun _ => rfl, fun _ => by simp [PyData.depth, dNon], fun a b => by simp [PyData.eqv, dNon], fun a b h => rfl⟩
def dTup {α : Type} (f : α → PyData) (l : List α) : PyData := .tuple (l.map f)
def dLst {α : Type} (f : α → PyData) (l : List α) : PyData := .list (l.map f)
def dT2 {α β : Type} (f : α → PyData) (g : β → PyData) (a : α × β) : PyData := .tuple [f a.1, g a.2]
def dT3 {α β γ : Type} (f : α → PyData) (g : β → PyData) (h : γ → PyData) (a : α × β × γ) : PyData := .tuple [f a.1, g a.2.1, h a.2.2]
def dOpt {α : Type} (f : α → PyData) : Option α → PyData
  | none => .none
  | some a => f a
section
variable {α β γ : Type} {r : Rep α} {s : Rep β} {t : Rep γ} {f : α → PyData} {g : β → PyData} {h : γ → PyData} {n m k : Nat}
theorem dr_tup (d : DR r f n) : DR (rTup r) (dTup f) (n + 1) := ⟨fun K B v a ⟨p, xs, h1, h2, h3⟩ => by subst h1; exact .tup h2 (dpAll_of (d.dp K B) h3), fun a => by simpa [dTup, PyData.canLay0] using layAll d.lay a,
  fun a => by have := depAll d.dep a; simp only [dTup, PyData.depth]; omega, fun a b => by simpa [dTup, PyData.eqv] using eqvAll d.eqv a b, fun a b e => by unfold dTup at e; injection e with e; exact map_inj d.inj a b e⟩
theorem dr_lst (d : DR r f n) : DR (rLst r) (dLst f) (n + 1) := ⟨fun K B v a ⟨p, xs, h1, h2, h3⟩ => by subst h1; exact .lst (sq_of h2) (dpAll_of (d.dp K B) h3), fun a => by simpa [dLst, PyData.canLay0] using layAll d.lay a,
  fun a => by have := depAll d.dep a; simp only [dLst, PyData.depth]; omega, fun a b => by simpa [dLst, PyData.eqv] using eqvAll d.eqv a b, fun a b e => by unfold dLst at e; injection e with e; exact map_inj d.inj a b e⟩
theorem dr_T2 (d : DR r f n) (e : DR s g m) : DR (rT2 r s) (dT2 f g) (max n m + 1) := ⟨fun K B v a ⟨p, x, y, h1, h2, h3, h4⟩ => by subst h1; exact .tup h2 (.cons (d.dp _ _ _ _ h3) (.cons (e.dp _ _ _ _ h4) .nil)),
  fun a => by simp [dT2, PyData.canLay0, PyData.canLayAll0, d.lay, e.lay], fun a => by have := d.dep a.1; have := e.dep a.2; simp only [dT2, PyData.depth, PyData.depthAll]; omega,
  fun a b => by simp only [dT2, PyData.eqv, PyData.eqvAll, Bool.and_true, Bool.and_eq_true, d.eqv, e.eqv]; exact ⟨fun ⟨x, y⟩ => Prod.ext x y, fun e => by rw [e]; exact ⟨rfl, rfl⟩⟩,
  fun a b q => by unfold dT2 at q; injection q with q; injection q with q1 q2; injection q2 with q2 _; exact Prod.ext (d.inj _ _ q1) (e.inj _ _ q2)⟩
theorem dr_T3 (d : DR r f n) (e : DR s g m) (c : DR t h k) : DR (rT3 r s t) (dT3 f g h) (max n (max m k) + 1) := ⟨fun K B v a ⟨p, x, y, z, h1, h2, h3, h4, h5⟩ => by subst h1; exact .tup h2 (.cons (d.dp _ _ _ _ h3) (.cons (e.dp _ _ _ _ h4) (.cons (c.dp _ _ _ _ h5) .nil))),
  fun a => by simp [dT3, PyData.canLay0, PyData.canLayAll0, d.lay, e.lay, c.lay], fun a => by have := d.dep a.1; have := e.dep a.2.1; have := c.dep a.2.2; simp only [dT3, PyData.depth, PyData.depthAll]; omega,
  fun a b => by simp only [dT3, PyData.eqv, PyData.eqvAll, Bool.and_true, Bool.and_eq_true, d.eqv, e.eqv, c.eqv]; exact ⟨fun ⟨x, y, z⟩ => Prod.ext x (Prod.ext y z), fun e => by rw [e]; exact ⟨rfl, rfl, rfl⟩⟩,
  fun a b q => by unfold dT3 at q; injection q with q; injection q with q1 q2; injection q2 with q2 q3; injection q3 with q3 _; exact Prod.ext (d.inj _ _ q1) (Prod.ext (e.inj _ _ q2) (c.inj _ _ q3))⟩
theorem DR.dec [DecidableEq α] (d : DR r f n) (a b : α) : PyData.eqv (f a) (f b) = decide (a = b) := by
  rw [Bool.eq_iff_iff, d.eqv, decide_eq_true_iff]
theorem DR.sh (d : DR r f n) (hn : n ≤ 64) (a : α) : SeqAt.shaped (f a) = true := by
  unfold SeqAt.shaped
  rw [d.lay a, decide_eq_true (Nat.le_trans (d.dep a) hn)]; rfl
end
/-! ### operations on data -/
def isNoneD : PyData → Bool
  | .none => true
  | _ => false
def isBoolD : PyData → Bool
  | .bool _ => true
  | _ => false
def isIntD : PyData → Bool
  | .bool _ => true
  | .int _ => true
  | _ => false
def isStrD : PyData → Bool
  | .str _ => true
  | _ => false
def isTupD : PyData → Bool
  | .tuple _ => true
  | _ => false
def isLstD : PyData → Bool
  | .list _ => true
  | _ => false
def tyName : PyData → String
  | .none => "NoneType"
  | .bool _ => "bool"
  | .int _ => "int"
  | .str _ => "str"
  | .list _ => "list"
  | .tuple _ => "tuple"
  | .dict _ => "dict"
def eqvD (a b : PyData) : Option Bool := if SeqAt.shaped a = true ∧ SeqAt.shaped b = true then some (PyData.eqv a b) else none
def lenD : PyData → Option Int
  | .list xs => some xs.length
  | .tuple xs => some xs.length
  | _ => none
def ixD : PyData → Int → Option PyData
  | .list xs, i => atI xs i
  | .tuple xs, i => atI xs i
  | _, _ => none
theorem dp_ty {K : Fg} {B H : Hp} {v : V} {d : PyData} (e : Ex B H) (h : Dp K B v d) : TyX K H v (.type (tyName d)) := by
  cases h with
  | non => exact .base .non
  | bl b => exact .base (.bl b)
  | int i => exact .base (.int i)
  | str x => exact .base (.str x)
  | lst h t =>
    rcases ex_l e h with (h | ⟨o, h⟩) | ⟨o, its, n, h, hc, _⟩
    · exact .base (.lst h)
    · exact .base (.frz h)
    · exact .kList h hc
  | tup h t =>
    rcases ex_t e h with (h | ⟨o, h⟩) | ⟨o, its, n, h, hc, _⟩
    · exact .base (.tup h)
    · exact .fTuple h
    · exact .kTuple h hc
section
variable {K : Fg} {M : Fr} {σ : St} {B : Hp} {L L1 L2 L' : List Cell} {α β γ δ : Type} {r : Rep α} {s : Rep β} {t : Rep γ} {ta tb tc te : TE} {tt tu : TT} {tA : TA} {i j k : Int} {b c : Bool} {d d' : PyData}
theorem ev_dat {f : α → PyData} {n : Nat} {a : α} (h : EV K M te σ B L r a L') (D : DR r f n) : EV K M te σ B L rDat (f a) L' := ev_as h fun _ _ h => D.dp _ _ _ _ h
theorem ev_isND (ha : EV K M ta σ B L rDat d L1) : EV K M (tIsN ta) σ B L rBool (isNoneD d) L1 := fun B1 H e w Q q =>
  ha B1 H e w _ fun x B2 H2 e2 w2 hx => q _ B2 H2 e2 w2 (by
    show V.bl _ = V.bl _
    congr 1
    have hx : Dp K B2 x d := hx
    cases hx <;> rfl)
theorem ev_isi (T : String) (g : PyData → Bool) (hg : ∀ n d, tyName d = n → kitB n T = some (g d)) (ha : EV K M ta σ B L rDat d L1) : EV K M (tCB (rIsi K) (tCons ta (tCons (tC (.ty T)) tNil))) σ B L rBool (g d) L1 := fun B1 H e w Q q =>
  ha B1 H e w _ fun x B2 H2 e2 w2 hx => ⟨x, .ty T, .type (tyName d), .type T, g d, rfl, .ty T, dp_ty w2.b hx, kit_ty (hg _ d rfl), q _ B2 H2 e2 w2 rfl⟩
def kt (T : String) (g : String → Bool) : Bool := (kitB "NoneType" T == some (g "NoneType")) && (kitB "bool" T == some (g "bool")) && (kitB "int" T == some (g "int")) && (kitB "str" T == some (g "str")) && (kitB "list" T == some (g "list")) && (kitB "tuple" T == some (g "tuple")) && (kitB "dict" T == some (g "dict"))
theorem kt_of {T : String} {g : String → Bool} (h : kt T g = true) (d : PyData) : kitB (tyName d) T = some (g (tyName d)) := by
  unfold kt at h
  simp only [Bool.and_eq_true, beq_iff_eq] at h
  cases d <;> simp only [tyName] <;> simp_all
theorem isi_bool : ∀ n d, tyName d = n → kitB n "bool" = some (isBoolD d) := fun n d e => by
  subst e
  rw [kt_of (g := fun n => n == "bool") (by decide +kernel) d]
  cases d <;> rfl
theorem isi_int : ∀ n d, tyName d = n → kitB n "int" = some (isIntD d) := fun n d e => by
  subst e
  rw [kt_of (g := fun n => n == "bool" || n == "int") (by decide +kernel) d]
  cases d <;> rfl
theorem isi_str : ∀ n d, tyName d = n → kitB n "str" = some (isStrD d) := fun n d e => by
  subst e
  rw [kt_of (g := fun n => n == "str") (by decide +kernel) d]
  cases d <;> rfl
theorem isi_tuple : ∀ n d, tyName d = n → kitB n "tuple" = some (isTupD d) := fun n d e => by
  subst e
  rw [kt_of (g := fun n => n == "tuple") (by decide +kernel) d]
  cases d <;> rfl
theorem isi_list : ∀ n d, tyName d = n → kitB n "list" = some (isLstD d) := fun n d e => by
  subst e
  rw [kt_of (g := fun n => n == "list") (by decide +kernel) d]
  cases d <;> rfl
theorem ev_eqvD (ha : EV K M ta σ B L rDat d L1) (hb : EV K M tb σ B L1 rDat d' L2) (h : eqvD d d' = some b) : EV K M (tOp (rEqD K) ta tb) σ B L rBool b L2 :=
  ev_op ha hb fun B1 H1 x y Q w hx hy q => by
    unfold eqvD at h
    split at h
    · rename_i hc
      exact ⟨d, d', dp_mono w.b hx, dp_mono w.b hy, hc.1, hc.2, q _ (by rw [Option.some.inj h]; rfl)⟩
    · cases h
/-- == of typed data -/
theorem ev_eqT {f : α → PyData} {n : Nat} {a a' : α} [DecidableEq α] (D : DR r f n) (hn : n ≤ 64) (ha : EV K M ta σ B L r a L1) (hb : EV K M tb σ B L1 r a' L2) : EV K M (tOp (rEqD K) ta tb) σ B L rBool (decide (a = a')) L2 :=
  ev_op ha hb fun B1 H1 x y Q w hx hy q => ⟨f a, f a', dp_mono w.b (D.dp _ _ _ _ hx), dp_mono w.b (D.dp _ _ _ _ hy), D.sh hn a, D.sh hn a', q _ (by rw [D.dec]; rfl)⟩
theorem ev_neT {f : α → PyData} {n : Nat} {a a' : α} [DecidableEq α] (D : DR r f n) (hn : n ≤ 64) (ha : EV K M ta σ B L r a L1) (hb : EV K M tb σ B L1 r a' L2) : EV K M (tOp (rNeD K) ta tb) σ B L rBool (!decide (a = a')) L2 :=
  ev_op ha hb fun B1 H1 x y Q w hx hy q => ⟨f a, f a', dp_mono w.b (D.dp _ _ _ _ hx), dp_mono w.b (D.dp _ _ _ _ hy), D.sh hn a, D.sh hn a', q _ (by rw [D.dec]; rfl)⟩
theorem dpAll_len {vs : List V} {ds : List PyData} (h : DpAll K B vs ds) : vs.length = ds.length := paired_len (dpAll_paired h)
theorem ev_lenD (ha : EV K M ta σ B L rDat d L1) (h : lenD d = some i) : EV K M (tCB (rLen K) (tCons ta tNil)) σ B L rInt i L1 :=
  ev_cb1 ha fun B1 H1 x Q w hx q => by
    have hx : Dp K B1 x d := hx
    cases hx with
    | lst h1 t =>
      rw [← (Option.some.inj h : _ = i)] at q
      exact ⟨_, _, rfl, .inl (ex_l w.b h1), q _ (by rw [dpAll_len t]; rfl)⟩
    | tup h1 t =>
      rw [← (Option.some.inj h : _ = i)] at q
      exact ⟨_, _, rfl, .inr (ex_t w.b h1), q _ (by rw [dpAll_len t]; rfl)⟩
    | _ => cases h
theorem ev_ixD (ha : EV K M ta σ B L rDat d L1) (hb : EV K M tb σ B L1 rInt i L2) (h : ixD d i = some d') : EV K M (tOp (rIx K) ta tb) σ B L rDat d' L2 :=
  ev_op ha hb fun B1 H1 x y Q w hx hy q => by
    have hx : Dp K B1 x d := hx
    cases hx with
    | lst h1 t =>
      obtain ⟨z, e, hz⟩ := atI_paired (dpAll_paired t) h
      exact .inl ⟨_, _, i, z, rfl, hy, ex_l w.b h1, e, q _ hz⟩
    | tup h1 t =>
      obtain ⟨z, e, hz⟩ := atI_paired (dpAll_paired t) h
      exact .inr (.inl ⟨_, _, i, z, rfl, hy, ex_t w.b h1, e, q _ hz⟩)
    | _ => cases h
end
/-- nothing is promised: at any level -/
theorem fn_none {P : Program} {w : World} {K : Fg} {mg : Str → Option Value} {base : Heap} {k : Nat} {f : Addr} {fd : FuncData} {ps : List Str} {T : List Addr} {C : List Arg → List Cell → Arg → List Cell → Prop} (h : ∀ as L r L', ¬ C as L r L') : FnOk P w K mg base CX0 k f fd ps (spV K T C) :=
  ⟨fun vs H Q E ⟨_, _, _, _, _, _, _, _, _, c, _⟩ => (h _ _ _ _ c).elim, fun A outer s H args us vs Q E _ _ _ _ ⟨_, _, _, _, _, _, _, _, _, c, _⟩ => (h _ _ _ _ c).elim⟩
end L3

namespace L3
open PySem L2

/-! ### the mirrors: they answer, and the answer is as told -/
def Yes {α : Type} (o : Option α) (P : α → Prop) : Prop := ∃ a, o = some a ∧ P a
section
variable {α β S R : Type} {o : Option α} {P Q : α → Prop} {i j : Int}
theorem Yes.mono (h : Yes o P) (f : ∀ a, P a → Q a) : Yes o Q := by obtain ⟨a, h1, h2⟩ := h; exact ⟨a, h1, f a h2⟩
theorem y_some {a : α} (h : P a) : Yes (some a) P := ⟨a, rfl, h⟩
theorem y_bind {f : α → Option β} {T : β → Prop} (h : Yes o Q) (k : ∀ a, Q a → Yes (f a) T) : Yes (Option.bind o f) T := by
  obtain ⟨a, rfl, h2⟩ := h
  exact k a h2
theorem y_eq {a : α} {f : α → Option β} {T : β → Prop} (h : o = some a) (k : Yes (f a) T) : Yes (Option.bind o f) T := by
  subst h; exact k
theorem y_if {c : Prop} [Decidable c] {p q : Option α} (h1 : c → Yes p P) (h2 : ¬ c → Yes q P) : Yes (if c then p else q) P := by
  split
  · exact h1 (by assumption)
  · exact h2 (by assumption)
theorem y_and {c : Prop} [Decidable c] {p q : Option α} (h1 : c → p = q) : (if c then p else q) = q := by
  split
  · exact h1 (by assumption)
  · rfl
theorem mulI_l (h1 : -(2 ^ 64) < i) (h2 : i < 2 ^ 64) : mulI i j = some (i * j) := if_pos (Or.inl (Or.inl ⟨h1, h2⟩))
theorem mulI_r (h1 : -(2 ^ 64) < j) (h2 : j < 2 ^ 64) : mulI i j = some (i * j) := if_pos (Or.inl (Or.inr ⟨h1, h2⟩))
theorem mulI_w {a b : Nat} (ha : i.natAbs < 2 ^ a) (hb : j.natAbs < 2 ^ b) (h0 : 0 < a) (h1 : 0 < b) (h : a + b ≤ 1000000) : mulI i j = some (i * j) := if_pos (Or.inr (wide_mul ha hb h0 h1 h))
theorem divI_s (h1 : 0 < j) (h2 : j < 2 ^ 64) : divI i j = some (i / j) := if_pos ⟨h1, by
  have : j.natAbs < 2 ^ 64 := by omega
  have := PySem.Flt.log2_lt_of (by decide) this
  omega⟩
theorem divI_w {b : Nat} (h1 : 0 < j) (hb : j.natAbs < 2 ^ b) (h0 : 0 < b) (h9 : b ≤ 9000) : divI i j = some (i / j) := if_pos (wide_div (i := i) h1 hb h0 h9)
theorem modI_s (h : 0 < j) : modI i j = some (i % j) := if_pos h
theorem room_s {n : Nat} (h : n ≤ 1000000) : room n = some () := if_pos (Nat.lt_of_le_of_lt h (by decide))
theorem small62_s (h1 : -(2 ^ 62) ≤ i) (h2 : i < 2 ^ 62) : small62 i = some () := if_pos ⟨h1, h2⟩
theorem ixL_s {xs : List α} {n : Nat} {a : α} (h : xs[n]? = some a) (hi : i = n) : ixL xs i = some a := by
  subst hi
  unfold ixL atI
  have hl := (List.getElem?_eq_some_iff.mp h).1
  simp [ixN]
  have h2 := (List.getElem?_eq_some_iff.mp h).2
  simp_all
/-- with a number of the item -/
theorem y_foldI (f : S → α → Option S) (I : Nat → S → Prop) {xs : List α} {s : S} (h0 : I 0 s) (hs : ∀ (i : Nat) x s, xs[i]? = some x → I i s → Yes (f s x) (I (i + 1))) : Yes (foldO f s xs) (I xs.length) := by
  induction xs generalizing s I with
  | nil => exact ⟨s, rfl, h0⟩
  | cons x xs ih =>
    obtain ⟨s', h1, h2⟩ := hs 0 x s rfl h0
    unfold foldO
    rw [h1]
    exact ih (fun i => I (i + 1)) h2 fun i y s hy hI => hs (i + 1) y s (by simpa using hy) hI
theorem y_fold (f : S → α → Option S) (I : S → Prop) {xs : List α} {s : S} (h0 : I s) (hs : ∀ x s, x ∈ xs → I s → Yes (f s x) I) : Yes (foldO f s xs) I :=
  y_foldI f (fun _ => I) h0 fun i x s hx hI => hs x s (List.mem_of_getElem? hx) hI
/-- a loop that may return -/
theorem y_loopI (f : S → α → Option (Stp S R)) (I : Nat → S → Prop) (E : Stp S R → Prop) {xs : List α} {s : S} (h0 : I 0 s)
    (hs : ∀ (i : Nat) x s, xs[i]? = some x → I i s → Yes (f s x) fun t => match t with | .nx s' => I (i + 1) s' | t => E t) (hE : ∀ s, I xs.length s → E (.nx s)) : Yes (loopM f s xs) E := by
  induction xs generalizing s I with
  | nil => exact ⟨.nx s, rfl, hE s h0⟩
  | cons x xs ih =>
    obtain ⟨t, h1, h2⟩ := hs 0 x s rfl h0
    unfold loopM
    rw [h1]
    match t, h2 with
    | .nx s', h2 => exact ih (fun i => I (i + 1)) h2 (fun i y s hy hI => hs (i + 1) y s (by simpa using hy) hI) hE
    | .bk s', h2 => exact ⟨_, rfl, h2⟩
    | .rt r, h2 => exact ⟨_, rfl, h2⟩
theorem rng_mem {lo hi : Int} {x : Int} (h : x ∈ rng lo hi) : lo ≤ x ∧ x < hi := by
  obtain ⟨i, hi⟩ := List.getElem?_of_mem h
  obtain ⟨h1, h2⟩ := rng_get hi
  omega
theorem rng_at {lo hi : Int} {i : Nat} {x : Int} (h : (rng lo hi)[i]? = some x) : x = lo + i ∧ lo + i < hi := by
  obtain ⟨h1, h2⟩ := rng_get h
  exact ⟨h2, by omega⟩
theorem y_loopR (f : S → α → Option (Stp S R)) (I : Nat → S → Prop) (E : S ⊕ R → Prop) {xs : List α} {s : S} (h0 : I 0 s)
    (hs : ∀ (i : Nat) x s, xs[i]? = some x → I i s → Yes (f s x) fun t => match t with | .nx s' => I (i + 1) s' | .bk s' => E (.inl s') | .rt r => E (.inr r)) (hE : ∀ s, I xs.length s → E (.inl s)) : Yes (loopR f s xs) E := by
  obtain ⟨t, h1, h2⟩ := y_loopI f I (fun t => match t with | .nx s' => E (.inl s') | .bk s' => E (.inl s') | .rt r => E (.inr r)) h0 (fun i x s hx hI => (hs i x s hx hI).mono fun t ht => by
    cases t <;> exact ht) hE
  unfold loopR
  rw [h1]
  cases t <;> exact ⟨_, rfl, h2⟩
theorem y_loopB (f : S → α → Option (Stp S Empty)) (I : Nat → S → Prop) (E : S → Prop) {xs : List α} {s : S} (h0 : I 0 s)
    (hs : ∀ (i : Nat) x s, xs[i]? = some x → I i s → Yes (f s x) fun t => match t with | .nx s' => I (i + 1) s' | .bk s' => E s' | .rt r => False) (hE : ∀ s, I xs.length s → E s) : Yes (loopB f s xs) E := by
  obtain ⟨t, h1, h2⟩ := y_loopI f I (fun t => match t with | .nx s' => E s' | .bk s' => E s' | .rt r => False) h0 (fun i x s hx hI => (hs i x s hx hI).mono fun t ht => by
    cases t <;> exact ht) hE
  unfold loopB
  rw [h1]
  cases t with
  | nx s => exact ⟨_, rfl, h2⟩
  | bk s => exact ⟨_, rfl, h2⟩
  | rt r => exact h2.elim
end
end L3
namespace L3
open PySem L2
theorem paired_ints {K : Fg} {B : Hp} : ∀ ns : List Int, Paired (rInt.is K B) (ns.map V.int) ns
  | [] => .nil
  | _ :: l => .cons rfl (paired_ints l)
end L3

/-! a generator expression in any, all, sum: what is walked and the element are any -/
namespace L3G
open PySem PySem.Spec PyProof.Rows L2 GxR

structure GSc (sc scope : Scope) : Prop where
  kind : scope.kind = .function
  co : scope.isCoroutine = false
  cell : ∀ y ∈ scope.names, y.2 ≠ .cell
  dot : scope.names.lookup (".0" : Str) = some NameKind.local
  free : ∀ y ∈ scope.names, y.2 = .free → sc.names.lookup y.1 = some .cell ∨ sc.names.lookup y.1 = some .free
def gsB (sc scope : Scope) : Bool :=
  decide (scope.kind = .function) && !scope.isCoroutine && decide (scope.names.lookup (".0" : Str) = some NameKind.local) && scope.names.all fun y => !decide (y.2 = .cell) && (!decide (y.2 = .free) || decide (sc.names.lookup y.1 = some .cell) || decide (sc.names.lookup y.1 = some .free))
theorem gs_by {sc scope : Scope} (h : gsB sc scope = true) : GSc sc scope := by
  unfold gsB at h
  simp only [Bool.and_eq_true, Bool.or_eq_true, Bool.not_eq_true', decide_eq_true_eq, decide_eq_false_iff_not, List.all_eq_true] at h
  obtain ⟨⟨⟨h1, h2⟩, h3⟩, h4⟩ := h
  refine ⟨h1, h2, fun y hy => (h4 y hy).1, h3, fun y hy e => ?_⟩
  rcases (h4 y hy).2 with (z | z) | z
  · exact absurd e z
  · exact .inl z
  · exact .inr z
/-- the slots of the generator's frame: none, or a captured slot -/
def capS (js : List (Option Nat)) (σ : L2.St) : L2.St := js.map fun
  | none => none
  | some j => (σ[j]?).getD none
def capB (N NG : List Str) (scope : Scope) (js : List (Option Nat)) : Bool :=
  decide (js.length = NG.length) && (List.range js.length).all fun i => match js[i]? with
    | some (some j) => (match NG[i]? with
      | some y => decide (N[j]? = some y) && decide (scope.names.lookup y = some .free)
      | none => false)
    | _ => true
theorem capB_at {N NG : List Str} {scope : Scope} {js : List (Option Nat)} (h : capB N NG scope js = true) {σ : L2.St} {i : Nat} {y : Str} {v : V} (hy : NG[i]? = some y) (hv : (capS js σ)[i]? = some (some v)) :
    ∃ j : Nat, N[j]? = some y ∧ σ[j]? = some (some v) ∧ scope.names.lookup y = some .free := by
  unfold capB at h
  rw [Bool.and_eq_true, List.all_eq_true] at h
  unfold capS at hv
  rw [List.getElem?_map] at hv
  cases e : js[i]? with
  | none => rw [e] at hv; cases hv
  | some o =>
    rw [e] at hv
    have hi : i < js.length := (List.getElem?_eq_some_iff.mp e).1
    have q := h.2 i (List.mem_range.mpr hi)
    rw [e, hy] at q
    cases o with
    | none => cases hv
    | some j =>
      have q : (decide (N[j]? = some y) && decide (scope.names.lookup y = some .free)) = true := q
      rw [Bool.and_eq_true, decide_eq_true_eq, decide_eq_true_eq] at q
      refine ⟨j, q.1, ?_, q.2⟩
      have hv : (σ[j]?).getD none = some v := Option.some.inj hv
      cases e2 : σ[j]? with
      | none => rw [e2] at hv; cases hv
      | some u => rw [e2] at hv; exact congrArg some hv
theorem capB_len {N NG : List Str} {scope : Scope} {js : List (Option Nat)} (h : capB N NG scope js = true) : js.length = NG.length := by
  unfold capB at h
  rw [Bool.and_eq_true] at h
  exact of_decide_eq_true h.1

abbrev gEnv (X : Cx) (scope : Scope) (C : Addr) (code : Value) : Env := genEnv scope (cloFrom X.env.cells scope.names []) C code builtinsNs X.env
abbrev gCode (X : Cx) (elt tg iter : Expr) (scope : Scope) (gpos : Pos) (it : Addr) (C : Addr) (code : Value) : Code :=
  .compLoop (.GeneratorExp elt [⟨tg, iter, [], 0⟩] scope gpos) 0 (.ref it) .none (gEnv X scope C code)
abbrev gCode0 (X : Cx) (elt tg iter : Expr) (scope : Scope) (gpos : Pos) (it : Addr) (C : Addr) (code : Value) : Code :=
  .compStart (.GeneratorExp elt [⟨tg, iter, [], 0⟩] scope gpos) 0 (.ref it) .none (gEnv X scope C code)
/-- the Around of the generator's frame -/
abbrev gA (X : Cx) (cenv : Env) : Around := ⟨X.A.handled, X.A.depth + 1, pushEnvs [cenv] X.A.frames, X.A.guards, X.A.units + 5⟩
/-- the context of the generator's frame, made at s -/
abbrev gCx (X : Cx) (s : Shared) (H : Hp) (NG : List Str) (ex : List Addr) (cenv : Env) : Cx where
  prog := X.prog
  w := X.w
  K := X.K
  mg := X.mg
  base := X.base
  A := gA X cenv
  N := NG
  s_0 := s
  H_0 := H
  env := cenv
  outer := X.stack
  stack := cenv :: X.stack
  ex := ex
  fn := fun _ => false
  calm := true
  pn := []
  xe := fun _ _ => False
section
variable {X : Cx} {pins : List (Addr × Obj)} {σ : L2.St} {H : Hp} {s : Shared}
theorem gA_eq (X : Cx) (elt tg iter : Expr) (scope : Scope) (gpos : Pos) (it C : Addr) (code : Value) : X.A.in1.in1.over (gCode X elt tg iter scope gpos it C code) [] = gA X (gEnv X scope C code) := rfl
theorem gA_eq0 (X : Cx) (elt tg iter : Expr) (scope : Scope) (gpos : Pos) (it C : Addr) (code : Value) : X.A.in1.in1.over (gCode0 X elt tg iter scope gpos it C code) [] = gA X (gEnv X scope C code) := rfl
theorem room_g {k : Nat} {cenv : Env} (r : Room (k + 1) X.A) : Room k (gA X cenv) := ⟨r.hd, by have := r.dp; show X.A.depth + 1 + 3 * k + 5 < _; omega, by have := r.un; show X.A.units + 5 + 16 * k + 200 < _; omega⟩
theorem inv_gens {g' : Array GenState} {t' : Nat} (I : Inv X pins σ H s) (hg : AllBare g') : Inv X pins σ H { s with gens := g', toks := t' } :=
  ⟨I.ok, I.os, hg, I.base, I.loc, I.cell, I.free, I.freeC, I.pin, I.hok, I.len⟩
theorem gen_start {NG : List Str} {fp : List Addr} {scope : Scope} {code : Value} {it : Addr} {js : List (Option Nat)} {h₁ : Heap} {g₁ : Array GenState} {tk : Nat} (I : Inv X pins σ H s) (G : GSc X.env.scope scope) (hf : ∀ b ∈ fp, FpOk X pins H b) (hfl : ∀ b ∈ fp, b < s.heap.objs.size) (hd : X.A.handled = none)
    (hns : h₁.Ns s.heap.objs.size fun y => if y = (".0" : Str) then some (.ref it) else none) (kp : ∀ b o, s.heap.get? b = some o → h₁.get? b = some o) (hg : AllBare g₁) (hN : capB X.N NG scope js = true) :
    Inv (gCx X s H NG fp (gEnv X scope s.heap.objs.size code)) [] (capS js σ) H { s with heap := h₁, gens := g₁, toks := tk } := by
  have hfree : ∀ y ∈ scope.names, y.2 = .free → ∃ c, X.env.cells.lookup y.1 = some c := fun y hy e => by
    rcases G.free y hy e with k | k
    · exact I.ok.has _ (.inl k)
    · exact I.ok.has _ (.inr k)
  have cm : ∀ {y c}, (cloFrom X.env.cells scope.names []).lookup y = some c → X.env.cells.lookup y = some c := fun {y c} e => by
    rcases cloFrom_mem (PySem.mem_of_lookup e) with hm | ⟨h1, h2⟩
    · cases hm
    · obtain ⟨c1, hc⟩ := hfree _ h1 rfl
      have hc : X.env.cells.lookup y = some c1 := hc
      have e2 : c = c1 := by
        rw [h2, hc] <;> rfl
      rw [e2]
      exact hc
  have look : ∀ {y}, scope.names.lookup y = some .free → ∃ c, (cloFrom X.env.cells scope.names []).lookup y = some c := fun {y} hl => by
    have hy : (y, NameKind.free) ∈ scope.names := PySem.mem_of_lookup hl
    exact mem_lookup (cloFrom_has (cells := X.env.cells) (acc := []) hy)
  have cellK : ∀ {c : Addr} {v : Option Value}, s.heap.IsCell c v → h₁.IsCell c v := fun {c v} ⟨o, ho, hd⟩ => ⟨o, kp _ _ ho, hd⟩
  refine ⟨⟨I.ok.mod, G.kind, I.ok.glob, rfl, Nat.le_refl _, fun y z c e1 e2 => I.ok.inj y z c (cm e1) (cm e2), fun y hy => ?_, fun y c z _ => ?_, fun _ => hd, ?_, .inr ⟨rfl, rfl⟩, fun b hb => ⟨Nat.ne_of_lt (hfl b hb), fun y c e => (hf b hb).2.2.2.2.1 y c (cm e)⟩, I.bs, Nat.le_trans I.ok.bsz I.sz, fun b o e hb => ?_,
      fun b hb z => ?_, I.stack, I.stkFree⟩,
    rfl, hg, Un.kept kp, ⟨_, hns, fun i y v e1 e2 e3 => ?_⟩, fun y c e => ?_, I.hok.fresh (Nat.le_refl _), fun y c e => I.freeC y c (cm e), fun q hq => absurd (show q ∈ ([] : List (Addr × Obj)) ++ [] from hq) (by simp), I.hok.kept kp, ?_⟩
  · have hy : scope.names.lookup y = some .cell ∨ scope.names.lookup y = some .free := hy
    rcases hy with hy | hy
    · exact absurd rfl (G.cell _ (PySem.mem_of_lookup hy))
    · exact look hy
  · have z : false = true := z
    cases z
  · show pushEnvs [_] X.A.frames = _
    rw [I.ok.frames]
    rfl
  · rcases (hf b hb).2.2.2.1 with z | z
    · exact I.ok.noex b o e z
    · exact absurd (Nat.lt_of_lt_of_le (Heap.lt_size (I.ok.bs b o e).1) z) (Nat.lt_irrefl _)
  · rcases List.mem_cons.mp (I.stkSub b z) with e | e
    · exact (hf b hb).2.1 e
    · exact (hf b hb).2.2.1 e
  · obtain ⟨j, h1, h2, h3⟩ := capB_at hN e1 e2
    obtain ⟨m, hn, hl⟩ := I.loc
    have hfr := G.free _ (PySem.mem_of_lookup h3) rfl
    have hvis : Vis X.env.scope y := hfr.elim (fun k => .inr (.inl k)) (fun k => .inr (.inr k))
    obtain ⟨w', r, q⟩ := hl j y v h1 h2 hvis
    obtain ⟨c2, h4⟩ := look h3
    refine ⟨w', r, .inr ⟨.inr h3, c2, h4, ?_⟩⟩
    have c1 := cm h4
    rcases q with ⟨k', _⟩ | ⟨_, c3, e', z⟩
    · have k' : X.env.scope.names.lookup y = some .local := k'
      rcases hfr with k2 | k2 <;> rw [show X.env.scope.names.lookup y = _ from k2] at k' <;> cases k'
    · rw [c1] at e'
      cases e'
      exact cellK z
  · obtain ⟨w', z⟩ := I.cell y c (cm e)
    exact ⟨w', cellK z⟩
  · show (capS js σ).length = NG.length
    unfold capS
    rw [List.length_map]
    exact capB_len hN
end
/-! ### the run -/
/-- the consumer's own objects -/
def SOk (S : List Addr) (H : Hp) (s : Shared) : Prop := ∀ b ∈ S, H b = none ∧ ∃ o, s.heap.get? b = some o ∧ ∀ v, o.data ≠ .cell v
section
variable (X : Cx) (s0 : Shared) (H0 : Hp) (NG : List Str) (fp : List Addr) (cenv : Env) (a : Addr) (ob : Obj) (S : List Addr) (tn : Nat → Heap → Prop) (N : Nat) (Z : Nat → L2.St → Hp → Prop) (P : Nat → V → L2.St → Hp → Prop) (F : Nat → L2.St → Hp → Prop)
def gR : GenEnd := fun n s₀ r s => r = .ok .next ∧ ∃ i σ H, n + i = N + 1 ∧ F i σ H ∧ Inv (gCx X s0 H0 NG fp cenv) ([(a, ob)] ++ pinsAt S s₀.heap) σ H s
def gY : Protocol := fun n s₀ v s kap => ∃ i y σ H, n + i = N ∧ i < N ∧ RelV y v ∧ P i y σ H ∧ Inv (gCx X s0 H0 NG fp cenv) ([(a, ob)] ++ pinsAt S s₀.heap) σ H s ∧ tn (i + 1) s.heap ∧ (∀ b ∈ fp, H b = none) ∧ (∀ b ∈ S, H b = none) ∧
  ∀ s'' : Shared, Z (i + 1) σ H → Inv (gCx X s0 H0 NG fp cenv) [(a, ob)] σ H s'' → tn (i + 1) s''.heap → SOk S H s'' → kap (.send .none) s''
end
structure GFix (X : Cx) (s0 : Shared) (fp : List Addr) (cenv : Env) (a : Addr) (S : List Addr) : Prop where
  f : ∀ b ∈ fp, b ≠ cenv.locals ∧ b ∉ frs X.stack ∧ (∀ x c, cenv.cells.lookup x = some c → c ≠ b) ∧ b ≠ a ∧ b ∉ S
  s : ∀ b ∈ S, s0.heap.objs.size ≤ b ∧ b ≠ cenv.locals ∧ b ∉ frs X.stack ∧ (∀ x c, cenv.cells.lookup x = some c → c ≠ b) ∧ b ≠ a
section
variable {X : Cx} {s0 : Shared} {H0 : Hp} {NG : List Str} {fp : List Addr} {cenv : Env} {a : Addr} {ob : Obj} {S : List Addr} {tn : Nat → Heap → Prop} {N : Nat} {Z : Nat → L2.St → Hp → Prop} {P : Nat → V → L2.St → Hp → Prop} {F : Nat → L2.St → Hp → Prop}
theorem seg_loop {elt tg iter : Expr} {scope : Scope} {gpos : Pos} {it C : Addr} {code : Value} {J : It} {g : TG} {te : TE} (hce : cenv = gEnv X scope C code) (hco : scope.isCoroutine = false) (fx : GFix X s0 fp cenv a S)
    (T : Turn X.prog X.w X.K tg J fp it tn) (hg : PG (gCx X s0 H0 NG fp cenv) tg g) (he : PE (gCx X s0 H0 NG fp cenv) elt te)
    (turn : ∀ i σ H, Z i σ H → (J.stop i H ∧ F i σ H) ∨ (J.go i H ∧ i < N ∧ ∀ x H2, J.yld i H x H2 → g x σ H2 fun σ2 H3 => te σ2 H3 fun y H4 => P i y σ2 H4)) :
    ∀ (k i : Nat) (s : Shared) (σ : L2.St) (H : Hp), N - i = k → i ≤ N → Z i σ H → Inv (gCx X s0 H0 NG fp cenv) [(a, ob)] σ H s → tn i s.heap → (∀ b ∈ fp, H b = none) → SOk S H s →
      Seg (model X.prog X.w) X.A.in1.in1 (gR X s0 H0 NG fp cenv a ob S N F) (gY X s0 H0 NG fp cenv a ob S tn N Z P) (N + 1 - i) s (gCode X elt tg iter scope gpos it C code) ((model X.prog X.w).den (gCode X elt tg iter scope gpos it C code)) [] s := by
  subst hce
  intro k
  induction k with
  | zero =>
    intro i s σ H hk hi hZ I st fr so
    have fS : ∀ b ∈ S, FpOk (gCx X s0 H0 NG fp (gEnv X scope C code)) [(a, ob)] H b := fun b hb => ⟨(so b hb).1, (fx.s b hb).2.1, (fx.s b hb).2.2.1, .inr (fx.s b hb).1, (fx.s b hb).2.2.2.1, fun p hp => by
      have hp : p ∈ [(a, ob)] := hp
      rw [List.mem_singleton.mp hp]; exact Ne.symm (fx.s b hb).2.2.2.2⟩
    have I1 := I.pinned fS fun b hb => (so b hb).2
    have fF : ∀ {H' : Hp}, (∀ b ∈ fp, H' b = none) → ∀ b ∈ fp, FpOk (gCx X s0 H0 NG fp (gEnv X scope C code)) ([(a, ob)] ++ pinsAt S s.heap) H' b := fun hn b hb => ⟨hn b hb, (fx.f b hb).1, (fx.f b hb).2.1, .inl hb, (fx.f b hb).2.2.1, fun p hp => by
      have hp : p ∈ [(a, ob)] ++ pinsAt S s.heap := hp
      rcases List.mem_append.mp hp with hp | hp
      · rw [List.mem_singleton.mp hp]; exact Ne.symm (fx.f b hb).2.2.2.1
      · exact fun z => (fx.f b hb).2.2.2.2 (by rw [← z]; exact (of_pinsAt hp).1)⟩
    show Seg _ X.A.in1.in1 _ _ _ s _ ((compTurn (.GeneratorExp elt [⟨tg, iter, [], 0⟩] scope gpos) 0 (.ref it) .none (gEnv X scope C code)).onRaise (leaving (gEnv X scope C code))) [] s
    rw [compTurn_gen, Sem.onRaise_eq_wrap]
    refine seg_bind_wrap (wpAny_standAt ?_)
    rcases turn i σ H hZ with ⟨stop, hF⟩ | ⟨_, hlt, _⟩
    · refine seg_bind_wrap (thn (T.done (gCx X s0 H0 NG fp (gEnv X scope C code)) rfl rfl rfl rfl i _ s σ H _ I1 (fF fr) st stop) fun r s1 ⟨hr, J1⟩ => ?_)
      subst hr
      exact seg_end (.ok .next) ⟨rfl, i, σ, H, by omega, hF, J1⟩
    · omega
  | succ k ih =>
    intro i s σ H hk hi hZ I st fr so
    have fS : ∀ b ∈ S, FpOk (gCx X s0 H0 NG fp (gEnv X scope C code)) [(a, ob)] H b := fun b hb => ⟨(so b hb).1, (fx.s b hb).2.1, (fx.s b hb).2.2.1, .inr (fx.s b hb).1, (fx.s b hb).2.2.2.1, fun p hp => by
      have hp : p ∈ [(a, ob)] := hp
      rw [List.mem_singleton.mp hp]; exact Ne.symm (fx.s b hb).2.2.2.2⟩
    have I1 := I.pinned fS fun b hb => (so b hb).2
    have fF : ∀ {H' : Hp}, (∀ b ∈ fp, H' b = none) → ∀ b ∈ fp, FpOk (gCx X s0 H0 NG fp (gEnv X scope C code)) ([(a, ob)] ++ pinsAt S s.heap) H' b := fun hn b hb => ⟨hn b hb, (fx.f b hb).1, (fx.f b hb).2.1, .inl hb, (fx.f b hb).2.2.1, fun p hp => by
      have hp : p ∈ [(a, ob)] ++ pinsAt S s.heap := hp
      rcases List.mem_append.mp hp with hp | hp
      · rw [List.mem_singleton.mp hp]; exact Ne.symm (fx.f b hb).2.2.2.1
      · exact fun z => (fx.f b hb).2.2.2.2 (by rw [← z]; exact (of_pinsAt hp).1)⟩
    show Seg _ X.A.in1.in1 _ _ _ s _ ((compTurn (.GeneratorExp elt [⟨tg, iter, [], 0⟩] scope gpos) 0 (.ref it) .none (gEnv X scope C code)).onRaise (leaving (gEnv X scope C code))) [] s
    rw [compTurn_gen, Sem.onRaise_eq_wrap]
    refine seg_bind_wrap (wpAny_standAt ?_)
    rcases turn i σ H hZ with ⟨stop, hF⟩ | ⟨go, hlt, step⟩
    · refine seg_bind_wrap (thn (T.done (gCx X s0 H0 NG fp (gEnv X scope C code)) rfl rfl rfl rfl i _ s σ H _ I1 (fF fr) st stop) fun r s1 ⟨hr, J1⟩ => ?_)
      subst hr
      exact seg_end (.ok .next) ⟨rfl, i, σ, H, by omega, hF, J1⟩
    · refine seg_bind_wrap (thn (T.item (gCx X s0 H0 NG fp (gEnv X scope C code)) rfl rfl rfl rfl i _ s σ H _ I1 (fF fr) st go) fun r s1 ⟨u, hr, h1⟩ => ?_)
      subst hr
      refine seg_bind_wrap (thn h1 fun _ s2 ⟨x, H2, I2, r2, y2, st2, fr2⟩ => ?_)
      have I2' := I2.pinned (fF fr2) (T.obj _ _ st2)
      refine seg_bind_wrap (wpAny_mono (hg.run _ s2 σ H2 x u _ I2' r2 (step x H2 y2)) (fun _ s3 ⟨σ3, H3, I3, q3⟩ => ?_) fun _ _ z => z.elim)
      simp only [List.forIn_nil]
      refine seg_bind_wrap (wpAny_pure ?_)
      simp only [if_true]
      have hy : ∀ v, yieldOut (gEnv X scope C code) v = yieldValue v := fun v => by
        show (if scope.isCoroutine = true then _ else _) = _
        simp only [hco, Bool.false_eq_true, if_false]
      simp only [hy]
      rw [Sem.bind_eq_wrap', Sem.bind_eq_wrap', Sem.wrap_wrap, Sem.wrap_wrap]
      refine seg_wrap (wpAny_mono (he.run _ s3 σ3 H3 _ I3 q3) (fun v s4 ⟨y, H4, I4, r4, q4⟩ => ?_) fun _ _ z => z.elim)
      have en : N + 1 - i = (N + 1 - (i + 1)) + 1 := by omega
      rw [en]
      have pinF : ∀ b ∈ fp, ∃ o, s2.heap.get? b = some o ∧ s4.heap.get? b = some o ∧ H4 b = none := fun b hb => by
        obtain ⟨o, e, d⟩ := T.obj _ _ st2 b hb
        have := I4.pin (b, o) (List.mem_append_right _ (List.mem_append_right _ (mem_pinsAt hb e)))
        exact ⟨o, e, this.1, this.2.1⟩
      have st4 : tn (i + 1) s4.heap := T.keep _ _ _ st2 fun b hb o e => by
        obtain ⟨o', e1, e2, _⟩ := pinF b hb
        rw [e] at e1; cases e1
        exact e2
      have fr4 : ∀ b ∈ fp, H4 b = none := fun b hb => (pinF b hb).elim fun _ h => h.2.2
      have fS4 : ∀ b ∈ S, H4 b = none := fun b hb => by
        obtain ⟨_, o, e, _⟩ := so b hb
        exact (I4.pin (b, o) (List.mem_append_right _ (List.mem_append_left _ (List.mem_append_right _ (mem_pinsAt hb e))))).2.1
      refine seg_at (seg_yield rfl rfl rfl ⟨i, y, σ3, H4, by omega, hlt, r4, q4, I4.unpinned, st4, fr4, fS4, fun s'' z1 z2 z3 z4 => ?_⟩)
      exact seg_again rfl (ih (i + 1) s'' σ3 H4 (by omega) hlt z1 z2 z3 fr4 z4)
theorem seg_start {elt tg iter : Expr} {scope : Scope} {gpos : Pos} {it C : Addr} {code : Value} {J : It} {g : TG} {te : TE} (hce : cenv = gEnv X scope C code) (hco : scope.isCoroutine = false) (fx : GFix X s0 fp cenv a S)
    (T : Turn X.prog X.w X.K tg J fp it tn) (hg : PG (gCx X s0 H0 NG fp cenv) tg g) (he : PE (gCx X s0 H0 NG fp cenv) elt te)
    (turn : ∀ i σ H, Z i σ H → (J.stop i H ∧ F i σ H) ∨ (J.go i H ∧ i < N ∧ ∀ x H2, J.yld i H x H2 → g x σ H2 fun σ2 H3 => te σ2 H3 fun y H4 => P i y σ2 H4))
    (s : Shared) (σ : L2.St) (H : Hp) (hZ : Z 0 σ H) (I : Inv (gCx X s0 H0 NG fp cenv) [(a, ob)] σ H s) (st : tn 0 s.heap) (fr : ∀ b ∈ fp, H b = none) (so : SOk S H s) :
      Seg (model X.prog X.w) X.A.in1.in1 (gR X s0 H0 NG fp cenv a ob S N F) (gY X s0 H0 NG fp cenv a ob S tn N Z P) (N + 1) s (gCode0 X elt tg iter scope gpos it C code) ((model X.prog X.w).den (gCode0 X elt tg iter scope gpos it C code)) [] s := by
  have loop := seg_loop (elt := elt) (tg := tg) (iter := iter) (gpos := gpos) (it := it) hce hco fx T hg he turn N 0 s σ H rfl (Nat.zero_le _) hZ I st fr so
  show Seg _ X.A.in1.in1 _ _ _ s _ ((compStart (.GeneratorExp elt [⟨tg, iter, [], 0⟩] scope gpos) 0 (.ref it) .none (gEnv X scope C code)).onRaise (leaving (gEnv X scope C code))) [] s
  unfold compStart
  rw [Sem.onRaise_eq_wrap]
  show Seg _ X.A.in1.in1 _ _ _ s _ ((ask >>= _).wrap _ _ _ _) [] s
  refine seg_bind_wrap (wpAny_askSetting ?_)
  split
  · exact seg_again rfl loop
  · first
      | exact seg_bind_wrap (wpAny_rule (seg_bind_wrap (wpAny_standAt (seg_bind_wrap (T.self _ 0 s _ _ st (seg_again rfl loop))))))
      | (refine seg_bind_wrap (wpAny_rule ?_); show Seg _ X.A.in1.in1 _ _ _ s _ ((standAt iter.pos >>= _).wrap _ _ _ _) [] s; exact seg_bind_wrap (wpAny_standAt (seg_bind_wrap (T.self _ 0 s _ _ st (seg_again rfl loop)))))
end
theorem bare_set {gens : Array GenState} {g : Nat} {x : GenState} (h : AllBare gens) (hx : x.bare = true) : AllBare (gens.setIfInBounds g x) := fun y hy => by
  rcases Array.mem_or_eq_of_mem_setIfInBounds hy with h1 | h1
  · exact h y h1
  · rw [h1]; exact hx
section
variable (X : Cx) (s0 : Shared) (H0 : Hp) (NG : List Str) (fp : List Addr) (cenv : Env) (a : Addr) (ob : Obj) (g : Nat) (S : List Addr) (tn : Nat → Heap → Prop) (N : Nat) (Z : Nat → L2.St → Hp → Prop) (P : Nat → V → L2.St → Hp → Prop) (F : Nat → L2.St → Hp → Prop)
/-- the generator sleeps at turn i -/
def GenSt (i : Nat) (s : Shared) : Prop := ∃ σ H, i ≤ N ∧ Z i σ H ∧ Inv (gCx X s0 H0 NG fp cenv) [(a, ob)] σ H s ∧ tn i s.heap ∧ (∀ b ∈ fp, H b = none) ∧ SOk S H s ∧ ∃ gs, s.gens[g]? = some gs ∧
  ∀ s'' : Shared, Inv (gCx X s0 H0 NG fp cenv) [(a, ob)] σ H s'' → tn i s''.heap → SOk S H s'' → gs.Goes (model X.prog X.w) X.A.in1.in1 (gR X s0 H0 NG fp cenv a ob S N F) (gY X s0 H0 NG fp cenv a ob S tn N Z P) (N + 1 - i) (.send .none) s''
def GenNext (i : Nat) (s : Shared) (r : Option Value) (s' : Shared) : Prop :=
  (r = none ∧ ∃ σ H, F i σ H ∧ Inv (gCx X s0 H0 NG fp cenv) [(a, ob)] σ H s' ∧ SOk S H s' ∧ ∀ b ∈ S, s'.heap.get? b = s.heap.get? b) ∨
  ∃ v y σ H, r = some v ∧ i < N ∧ RelV y v ∧ P i y σ H ∧ Inv (gCx X s0 H0 NG fp cenv) [(a, ob)] σ H s' ∧ SOk S H s' ∧ (∀ b ∈ S, s'.heap.get? b = s.heap.get? b) ∧
    (Z (i + 1) σ H → ∀ s'' : Shared, Inv (gCx X s0 H0 NG fp cenv) [(a, ob)] σ H s'' → (∀ b ∈ fp, s''.heap.get? b = s'.heap.get? b) → SOk S H s'' → s''.gens = s'.gens → GenSt X s0 H0 NG fp cenv a ob g S tn N Z P F (i + 1) s'')
end
section
variable {X : Cx} {s0 : Shared} {H0 : Hp} {NG : List Str} {fp : List Addr} {cenv : Env} {a : Addr} {ob : Obj} {g : Nat} {S : List Addr} {tn : Nat → Heap → Prop} {N : Nat} {Z : Nat → L2.St → Hp → Prop} {P : Nat → V → L2.St → Hp → Prop} {F : Nat → L2.St → Hp → Prop}
theorem gen_next {tg : Expr} {J : It} {it : Addr} (T : Turn X.prog X.w X.K tg J fp it tn) (hob : ∀ h : Heap, h.get? a = some ob → h.IsGen a g) (hd : X.A.handled = none) (hroom : X.A.depth < recursionLimit) {i : Nat} {s : Shared} {E : Value → Shared → Prop}
    (h : GenSt X s0 H0 NG fp cenv a ob g S tn N Z P F i s) : wpAny (model X.prog X.w) X.A.in1 (pyNext (.ref a)) (GenNext X s0 H0 NG fp cenv a ob g S tn N Z P F i s) E s := by
  obtain ⟨σ, H, hi, hZ, I, st, fr, so, gs, hgs, hgo⟩ := h
  have pa := I.pin (a, ob) (List.mem_append_right _ (List.mem_singleton.mpr rfl))
  have hbs : AllBare (s.setGen g .running).gens := bare_set I.bare rfl
  have hgl : g < s.gens.size := (Array.getElem?_eq_some_iff.mp hgs).1
  refine GenW.wpAny_gsz (n := g + 1) hgl ?_
  refine wpAny_pyNext_genexpQ (P := fun n s₀ s => ∃ i σ H, n + i = N + 1 ∧ F i σ H ∧ Inv (gCx X s0 H0 NG fp cenv) ([(a, ob)] ++ pinsAt S s₀.heap) σ H s) hd I.nolimit hroom (hob _ pa.1) hgs (hgo _ (inv_gens (t' := s.toks) I hbs) st so) (fun v s₁ gs' hb hv => ?_) (fun s₁ hp h' hk => ?_)
  · intro hsz
    obtain ⟨i', y, σ2, H2, e1, hlt, rv, hP, I2, st2, fr2, fS2, kap⟩ := hv
    have ei : i' = i := by omega
    subst ei
    have pS : ∀ b ∈ S, ∃ o, s.heap.get? b = some o ∧ s₁.heap.get? b = some o ∧ ∀ v, o.data ≠ .cell v := fun b hb => by
      obtain ⟨_, o, e, d⟩ := so b hb
      exact ⟨o, e, (I2.pin (b, o) (List.mem_append_right _ (List.mem_append_right _ (mem_pinsAt hb e)))).1, d⟩
    have hb2 : AllBare (s₁.setGen g gs').gens := bare_set I2.bare hb
    refine .inr ⟨v, y, σ2, H2, rfl, hlt, rv, hP, inv_gens (t' := s₁.toks) I2.unpinned hb2, fun b hb => ⟨fS2 b hb, (pS b hb).elim fun o h => ⟨o, h.2.1, h.2.2⟩⟩, fun b hb => ?_, fun hZ2 s'' J1 kf so2 eg => ?_⟩
    · obtain ⟨o, e, e2, _⟩ := pS b hb
      exact e2.trans e.symm
    · have stn : tn (i' + 1) s''.heap := T.keep _ _ _ st2 fun b hb o e => (kf b hb).trans e
      refine ⟨σ2, H2, hlt, hZ2, J1, stn, fr2, so2, gs', ?_, fun s3 J3 st3 so3 => ?_⟩
      · rw [eg]
        exact L2.setGen_at (by
          have q : (s₁.setGen g gs').gens.size = s₁.gens.size := GenW.setGen_size _ _ _
          have hsz' : g + 1 ≤ (s₁.setGen g gs').gens.size := hsz
          omega)
      · have e3 : N + 1 - i' = (N + 1 - (i' + 1)) + 1 := by omega
        have := kap s3 hZ2 J3 st3 so3
        rw [e3] at this
        exact this
  · intro _
    obtain ⟨i', σ2, H2, e1, hF, I2⟩ := hp
    have ei : i' = i := by omega
    subst ei
    have pS : ∀ b ∈ S, ∃ o, s.heap.get? b = some o ∧ s₁.heap.get? b = some o ∧ (∀ v, o.data ≠ .cell v) ∧ H2 b = none := fun b hb => by
      obtain ⟨_, o, e, d⟩ := so b hb
      have p := I2.pin (b, o) (List.mem_append_right _ (List.mem_append_right _ (mem_pinsAt hb e)))
      exact ⟨o, e, p.1, d, p.2.1⟩
    have hb2 : AllBare (s₁.setGen g .finished).gens := bare_set I2.bare rfl
    have J1 := (inv_gens (t' := s₁.toks) I2.unpinned hb2).kept (t' := s₁.toks) hk
    refine .inl ⟨rfl, σ2, H2, hF, J1, fun b hb => ⟨(pS b hb).elim fun _ h => h.2.2.2, (pS b hb).elim fun o h => ⟨o, hk _ _ h.2.1, h.2.2.1⟩⟩, fun b hb => ?_⟩
    obtain ⟨o, e, e2, _⟩ := pS b hb
    exact (hk _ _ e2).trans e.symm
theorem all_loop {tg : Expr} {J : It} {it : Addr} {Q : VK} (T : Turn X.prog X.w X.K tg J fp it tn) (hob : ∀ h : Heap, h.get? a = some ob → h.IsGen a g) (hd : X.A.handled = none) (hroom : X.A.depth < recursionLimit) : ∀ (k i : Nat) (s : Shared), N - i = k →
    GenSt X s0 H0 NG fp cenv a ob g [] tn N Z (fun i y σ H => (y = .bl true ∧ Z (i + 1) σ H) ∨ (y = .bl false ∧ Q (.bl false) H)) (fun _ _ H => Q (.bl true) H) i s →
    codeAny (model X.prog X.w) X.A (.builtin "all.loop" ⟨[.ref a], []⟩) (fun r s' => ∃ b σ H, r = .ok (.ret (.bool b)) ∧ Inv (gCx X s0 H0 NG fp cenv) [(a, ob)] σ H s' ∧ Q (.bl b) H) s := by
  intro k
  induction k with
  | zero =>
    intro i s hk h
    refine codeAny_builtin F.entry_all_loop ?_
    rw [Around.under_plainId F.plain_all_loop _]
    show wpAny _ X.A.in1 (pyNext (.ref a) >>= _) _ _ s
    refine wpAny_bind (thn (gen_next T hob hd hroom h) fun r s' hn => ?_)
    rcases hn with ⟨rfl, σ, H, hF, I, _⟩ | ⟨v, y, σ, H, rfl, hlt, _⟩
    · exact wpAny_bind (wpAny_rule (wpAny_pure ⟨true, σ, H, rfl, I, hF⟩))
    · omega
  | succ k ih =>
    intro i s hk h
    refine codeAny_builtin F.entry_all_loop ?_
    rw [Around.under_plainId F.plain_all_loop _]
    show wpAny _ X.A.in1 (pyNext (.ref a) >>= _) _ _ s
    refine wpAny_bind (thn (gen_next T hob hd hroom h) fun r s' hn => ?_)
    rcases hn with ⟨rfl, σ, H, hF, I, _⟩ | ⟨v, y, σ, H, rfl, hlt, rv, hP, I, so, _, next⟩
    · exact wpAny_bind (wpAny_rule (wpAny_pure ⟨true, σ, H, rfl, I, hF⟩))
    · rcases hP with ⟨rfl, hZ⟩ | ⟨rfl, hQ⟩
      · obtain rfl : v = .bool true := rv
        refine wpAny_bind (wpAny_holding (wpAny_truthy_bool ?_))
        refine wpAny_bind (wpAny_letGo ?_)
        simp only [if_true]
        exact wpAny_pure ⟨plainId_quiet F.plain_all_loop _, ih (i + 1) _ (by omega) (next hZ s' I (fun _ _ => rfl) so rfl)⟩
      · obtain rfl : v = .bool false := rv
        refine wpAny_bind (wpAny_holding (wpAny_truthy_bool ?_))
        refine wpAny_bind (wpAny_letGo ?_)
        simp only [Bool.false_eq_true, if_false]
        exact wpAny_bind (wpAny_rule (wpAny_pure ⟨false, σ, H, rfl, I, hQ⟩))
theorem any_loop {tg : Expr} {J : It} {it : Addr} {Q : VK} (T : Turn X.prog X.w X.K tg J fp it tn) (hob : ∀ h : Heap, h.get? a = some ob → h.IsGen a g) (hd : X.A.handled = none) (hroom : X.A.depth < recursionLimit) : ∀ (k i : Nat) (s : Shared), N - i = k →
    GenSt X s0 H0 NG fp cenv a ob g [] tn N Z (fun i y σ H => (y = .bl false ∧ Z (i + 1) σ H) ∨ (y = .bl true ∧ Q (.bl true) H)) (fun _ _ H => Q (.bl false) H) i s →
    codeAny (model X.prog X.w) X.A (.builtin "any.loop" ⟨[.ref a], []⟩) (fun r s' => ∃ b σ H, r = .ok (.ret (.bool b)) ∧ Inv (gCx X s0 H0 NG fp cenv) [(a, ob)] σ H s' ∧ Q (.bl b) H) s := by
  intro k
  induction k with
  | zero =>
    intro i s hk h
    refine codeAny_builtin F.entry_any_loop ?_
    rw [Around.under_plainId F.plain_any_loop _]
    show wpAny _ X.A.in1 (pyNext (.ref a) >>= _) _ _ s
    refine wpAny_bind (thn (gen_next T hob hd hroom h) fun r s' hn => ?_)
    rcases hn with ⟨rfl, σ, H, hF, I, _⟩ | ⟨v, y, σ, H, rfl, hlt, _⟩
    · exact wpAny_bind (wpAny_rule (wpAny_pure ⟨false, σ, H, rfl, I, hF⟩))
    · omega
  | succ k ih =>
    intro i s hk h
    refine codeAny_builtin F.entry_any_loop ?_
    rw [Around.under_plainId F.plain_any_loop _]
    show wpAny _ X.A.in1 (pyNext (.ref a) >>= _) _ _ s
    refine wpAny_bind (thn (gen_next T hob hd hroom h) fun r s' hn => ?_)
    rcases hn with ⟨rfl, σ, H, hF, I, _⟩ | ⟨v, y, σ, H, rfl, hlt, rv, hP, I, so, _, next⟩
    · exact wpAny_bind (wpAny_rule (wpAny_pure ⟨false, σ, H, rfl, I, hF⟩))
    · rcases hP with ⟨rfl, hZ⟩ | ⟨rfl, hQ⟩
      · obtain rfl : v = .bool false := rv
        refine wpAny_bind (wpAny_holding (wpAny_truthy_bool ?_))
        refine wpAny_bind (wpAny_letGo ?_)
        simp only [Bool.false_eq_true, if_false]
        exact wpAny_pure ⟨plainId_quiet F.plain_any_loop _, ih (i + 1) _ (by omega) (next hZ s' I (fun _ _ => rfl) so rfl)⟩
      · obtain rfl : v = .bool true := rv
        refine wpAny_bind (wpAny_holding (wpAny_truthy_bool ?_))
        refine wpAny_bind (wpAny_letGo ?_)
        simp only [if_true]
        exact wpAny_bind (wpAny_rule (wpAny_pure ⟨true, σ, H, rfl, I, hQ⟩))
/-- the sum so far stands in the list at S -/
theorem sum_loop {tg : Expr} {J : It} {it : Addr} {Q : VK} {S : Addr} {vals : List Int} (hfp : ∀ b ∈ fp, b ≠ S) (hSa : S ≠ a) (T : Turn X.prog X.w X.K tg J fp it tn) (hob : ∀ h : Heap, h.get? a = some ob → h.IsGen a g) (hd : X.A.handled = none) (hroom : X.A.depth < recursionLimit)
    (hS : s0.heap.objs.size ≤ S ∧ S ≠ cenv.locals ∧ S ∉ frs X.stack ∧ (∀ x c, cenv.cells.lookup x = some c → c ≠ S))
    (hfit : ∀ j v, vals[j]? = some v → InLong v ∧ InLong ((vals.take j).sum + v)) : ∀ (k i : Nat) (s : Shared) (tA : Tok) (c : Nat), N - i = k →
    GenSt X s0 H0 NG fp cenv a ob g [S] tn N Z (fun i y σ H => ∃ v, vals[i]? = some v ∧ y = .int v ∧ Z (i + 1) σ H) (fun i _ H => i = vals.length ∧ Q (.int vals.sum) H) i s → s.heap.get? S = some { cls := .type "list", dict := none, data := .seq #[.int (vals.take i).sum tA] c, slots := #[] } →
    codeAny (model X.prog X.w) X.A (.builtin "sum.loop" ⟨[.ref a, .ref S, rawInt 0, rawInt 0], []⟩) (fun r s' => ∃ t σ H, r = .ok (.ret (.int vals.sum t)) ∧ Inv (gCx X s0 H0 NG fp cenv) [(a, ob)] σ H s' ∧ Q (.int vals.sum) H) s := by
  intro k
  have fin : ∀ (i : Nat) (tA : Tok), i = vals.length → (vals.take i).sum = vals.sum := fun i _ e => by rw [e, List.take_length]
  induction k with
  | zero =>
    intro i s tA c hk h hs
    refine codeAny_builtin F.entry_sum_loop ?_
    rw [Around.under_plainId F.plain_sum_loop _]
    show wpAny _ X.A.in1 (seqItems? (.ref S) >>= _) _ _ s
    refine wpAny_bind (wpAny_seqItems hs rfl ?_)
    show wpAny _ X.A.in1 (tryCatch (pyNext (.ref a)) _ >>= _) _ _ s
    refine wpAny_bind (wpAny_tryCatch (thn (gen_next T hob hd hroom h) fun r s' hn => ?_))
    rcases hn with ⟨rfl, σ, H, ⟨e, hF⟩, I, _⟩ | ⟨v, y, σ, H, rfl, hlt, _⟩
    · exact wpAny_pure ⟨tA, σ, H, by rw [← fin i tA e]; rfl, I, hF⟩
    · omega
  | succ k ih =>
    intro i s tA c hk h hs
    refine codeAny_builtin F.entry_sum_loop ?_
    rw [Around.under_plainId F.plain_sum_loop _]
    show wpAny _ X.A.in1 (seqItems? (.ref S) >>= _) _ _ s
    refine wpAny_bind (wpAny_seqItems hs rfl ?_)
    show wpAny _ X.A.in1 (tryCatch (pyNext (.ref a)) _ >>= _) _ _ s
    refine wpAny_bind (wpAny_tryCatch (thn (gen_next T hob hd hroom h) fun r s' hn => ?_))
    rcases hn with ⟨rfl, σ, H, ⟨e, hF⟩, I, _⟩ | ⟨v, y, σ, H, rfl, hlt, rv, ⟨z, hz, rfl, hZ⟩, I, so, same, next⟩
    · exact wpAny_pure ⟨tA, σ, H, by rw [← fin i tA e]; rfl, I, hF⟩
    · obtain ⟨t, rfl⟩ := _root_.id rv
      have hS' : s'.heap.get? S = some { cls := .type "list", dict := none, data := .seq #[.int (vals.take i).sum tA] c, slots := #[] } := (same S (List.mem_singleton.mpr rfl)).trans hs
      obtain ⟨⟨f1, f2⟩, f3, f4⟩ := hfit i z hz
      have hc : ((decide (-(2 ^ 63) ≤ z) && decide (z < 2 ^ 63)) && (decide (-(2 ^ 63) ≤ (vals.take i).sum + z) && decide ((vals.take i).sum + z < 2 ^ 63))) = true := by
        simp only [Bool.and_eq_true, decide_eq_true_eq]
        exact ⟨⟨f1, f2⟩, f3, f4⟩
      have es : (vals.take (i + 1)).sum = (vals.take i).sum + z := by
        rw [List.take_succ, hz]; simp
      show wpAny _ X.A.in1 (if (_ : Bool) = true then (mkInt ((vals.take i).sum + z) >>= _) else _) _ _ _
      split
      · refine wpAny_bind (wpAny_mkInt ?_)
        show wpAny _ X.A.in1 (updateSeq S (fun _ => #[.int ((vals.take i).sum + z) s'.toks]) >>= _) _ _ _
        refine wpAny_bind ?_
        refine wpAny_updateSeq hS' rfl (wpAny_pure ⟨plainId_quiet F.plain_sum_loop _, ih (i + 1) _ s'.toks _ (by omega) (next hZ _ ?_ (fun b hb => ?_) ?_ rfl) (by rw [es]; exact Heap.get?_update_self _ hS' rfl)⟩)
        · refine (inv_gens (t' := s'.toks + 1) I I.bare).turned (it := S) (fun b o hb e => (Heap.get?_update_other _ _ (Ne.symm hb)).trans e) (so S (List.mem_singleton.mpr rfl)).1 hS.2.1 (.inr hS.1) hS.2.2.2 fun p hp => ?_
          have hp : p ∈ [(a, ob)] := hp
          rw [List.mem_singleton.mp hp]
          exact Ne.symm hSa
        · exact Heap.get?_update_other _ _ (Ne.symm (hfp b hb))
        · intro b hb
          rw [List.mem_singleton.mp hb]
          exact ⟨(so S (List.mem_singleton.mpr rfl)).1, _, Heap.get?_update_self _ hS' rfl, fun v e => by cases e⟩
      · rename_i hn
        exact absurd hc hn
end
/-! ### the making -/
/-- a generator has been made: a, at s5; H3 is what is held from then on -/
def Made (X : Cx) (pins : List (Addr × Obj)) (σ : L2.St) (NG : List Str) (js : List (Option Nat)) (elt tg iter : Expr) (scope : Scope) (gpos : Pos) (J : It) (H3 : Hp) (a : Addr) (s5 : Shared) : Prop :=
  ∃ (s3 : Shared) (it : Addr) (fp : List Addr) (tn : Nat → Heap → Prop) (C : Addr) (code : Value) (ob : Obj) (g : Nat), Inv X pins σ H3 s3 ∧ Turn X.prog X.w X.K tg J fp it tn ∧ tn 0 s5.heap ∧ (∀ b ∈ fp, FpOk X pins H3 b) ∧ (∀ b ∈ fp, b < s3.heap.objs.size) ∧ C = s3.heap.objs.size ∧ C < a ∧
    Inv (gCx X s3 H3 NG fp (gEnv X scope C code)) [(a, ob)] (capS js σ) H3 s5 ∧ s5.gens[g]? = some (.fresh (gCode0 X elt tg iter scope gpos it C code)) ∧ (∀ h : Heap, h.get? a = some ob → h.IsGen a g)
section
variable {X : Cx} {pins : List (Addr × Obj)} {σ : L2.St} {H : Hp} {s : Shared}
theorem gen_make {c P : Addr} {elt tg iter : Expr} {gpos : Pos} {scope : Scope} {NG : List Str} {js : List (Option Nat)} {wi : TI} {k : Nat} {Q' : Value → Shared → Prop} {R : It → Hp → Prop}
    (hr : Room k X.A) (TB : TabB X.base X.mg c P) (hcode : X.env.code = .ref c) (G : GSc X.env.scope scope) (hi : PI X tg iter wi) (hN : capB X.N NG scope js = true)
    (hs : ∀ v, genFold iter X.env v = pure v) (I : Inv X pins σ H s) (h : wi σ H fun J H1 => TabG H1 P ∧ R J H1)
    (hQ : ∀ J H1 H3 a s5, Tabbed P H1 H3 → R J H1 → Made X pins σ NG js elt tg iter scope gpos J H3 a s5 → Q' (.ref a) s5) :
    wpAny (model X.prog X.w) X.A (eval (.GeneratorExp elt [⟨tg, iter, [], 0⟩] scope gpos) X.env) Q' X.xe s := by
  have hfree : ∀ y ∈ scope.names, y.2 = .free → ∃ c, X.env.cells.lookup y.1 = some c := fun y hy e => by
    rcases G.free y hy e with k | k
    · exact I.ok.has _ (.inl k)
    · exact I.ok.has _ (.inr k)
  refine wpAny_GeneratorExp_make G.co (closure_ok hfree) G.cell G.dot G.kind (by have := hr.dp; omega) ?_ hs
  refine thn (hi.run pins s σ H _ I h) fun xv s1 h1 => thn h1 fun itv s2 h2 => ?_
  obtain ⟨it, fp, tn, J, H2, rfl, I2, T, st2, f2, ⟨ps, hP, ht⟩, hR⟩ := h2
  have hPs : s2.heap.get? P = some { cls := .none, data := .fields ps } := I2.hok P _ hP
  have cd : PySem.W.CodeHd s2.heap c P := TB.code.keeps I2.bk
  refine ⟨I2.nolimit, ?_⟩
  have cont : ∀ (code : Value) (h3 : Heap) (tk : Nat) (more : Array Value), (∀ b o, b ≠ P → s2.heap.get? b = some o → h3.get? b = some o) → h3.get? P = some { cls := .none, data := .fields (ps ++ more) } → TriplesOk (ps ++ more).toList →
      wpAny (model X.prog X.w) X.A (builtinsFor X.env.globals X.env.builtins) (fun bi s₄ =>
        ∀ h' : Heap, h'.Ns s₄.heap.objs.size (fun y => if y = ".0" then some (.ref it) else none) → Heap.SameBut s₄.heap.objs.size (s₄.heap.push { cls := .type "frame", data := .dict #[] }) h' →
          Q' (.ref h'.objs.size) { s₄ with
            gens := s₄.gens.push (.fresh (.compStart (.GeneratorExp elt [⟨tg, iter, [], 0⟩] scope gpos) 0 (.ref it) .none (genEnv scope (cloFrom X.env.cells scope.names []) s₄.heap.objs.size code bi X.env))),
            toks := s₄.toks + 1 + 1 + 1,
            heap := h'.push { cls := .type "generator", data := .fields #[.int s₄.gens.size 0, .str "<genexpr>" (s₄.toks + 1), .str (X.env.qual ++ "<genexpr>") (s₄.toks + 1 + 1)] } }) X.xe { s2 with heap := h3, toks := tk } := by
    intro code h3 tk more hx hP3 ht3
    have J3 : Inv X pins σ (upd H2 P (.tbl (ps ++ more))) { s2 with heap := h3, toks := tk } := inv_tab (g' := s2.gens) (d' := s2.drawn) I2 hP hx hP3 I2.bare
    obtain ⟨bm, ob, e1, e2, e3, e4, e5, e6, e7, e8⟩ := TB.bm
    refine wpAny_builtinsFor (m := X.mg) (by rw [J3.ok.glob]; exact J3.mod.glob.keeps J3.bk) e1 e2 (J3.bk _ _ e5) e6 e7 e8 ?_
    intro h' hn' hs'
    have hfP : ∀ b ∈ fp, b ≠ P := fun b hb z => by
      have := (f2 b hb).1
      rw [z, hP] at this
      cases this
    have hsz : h'.objs.size = h3.objs.size + 1 := by rw [hs'.1, Heap.size_push]
    have keep' : ∀ b o, h3.get? b = some o → h'.get? b = some o := fun b o e => hs'.extBut b o (Nat.ne_of_lt (Heap.lt_size e)) (Heap.get?_push_of_some _ e)
    have keep₅ : ∀ b o, h3.get? b = some o → (h'.push { cls := .type "generator", data := .fields #[.int s2.gens.size 0, .str "<genexpr>" (tk + 1), .str (X.env.qual ++ "<genexpr>") (tk + 1 + 1)] }).get? b = some o :=
      fun b o e => Heap.get?_push_of_some _ (keep' b o e)
    have f3 : ∀ b ∈ fp, FpOk X pins (upd H2 P (.tbl (ps ++ more))) b := fun b hb => ⟨by rw [upd_ne (hfP b hb)]; exact (f2 b hb).1, (f2 b hb).2⟩
    have fl : ∀ b ∈ fp, b < h3.objs.size := fun b hb => by
      obtain ⟨o, e, _⟩ := T.obj _ _ st2 b hb
      exact Heap.lt_size (hx b o (hfP b hb) e)
    have IX := gen_start (s := { s2 with heap := h3, toks := tk }) (NG := NG) (code := code) (it := it) (js := js) (tk := tk + 1 + 1 + 1) (g₁ := s2.gens.push (.fresh (.compStart (.GeneratorExp elt [⟨tg, iter, [], 0⟩] scope gpos) 0 (.ref it) .none (gEnv X scope h3.objs.size code)))) J3 G f3 fl hr.hd (hn'.push _) keep₅ (I2.bare.push rfl) hN
    have aF : h3.objs.size ≤ h'.objs.size := by omega
    refine hQ J H2 _ h'.objs.size _ ⟨⟨ps ++ more, upd_same, ht3⟩, fun b hb => upd_ne hb⟩ hR ⟨{ s2 with heap := h3, toks := tk }, it, fp, tn, h3.objs.size, code, { cls := .type "generator", data := .fields #[.int s2.gens.size 0, .str "<genexpr>" (tk + 1), .str (X.env.qual ++ "<genexpr>") (tk + 1 + 1)] }, s2.gens.size, J3, T, T.keep _ _ _ st2 fun b hb o e => keep₅ b o (hx b o (hfP b hb) e), f3, fl, rfl, (by show h3.objs.size < h'.objs.size; omega), IX.pins_of fun p hp => ?_, Array.getElem?_push_size .., fun h e => ⟨_, _, _, e, rfl, rfl, rfl⟩⟩
    rw [List.mem_singleton.mp hp]
    have nfr : h'.objs.size ∉ frs X.stack := fun z => by
      rcases List.mem_cons.mp (J3.stkSub _ z) with e | e
      · have h1 : X.env.locals < h3.objs.size := J3.lt
        have e : (h'.objs.size : Nat) = X.env.locals := e
        rw [← e] at h1
        exact absurd (Nat.lt_of_lt_of_le h1 aF) (Nat.lt_irrefl _)
      · exact J3.nofs (a := h'.objs.size) aF e
    refine ⟨Heap.get?_push_size _ rfl, J3.hok.fresh aF, ?_, nfr, fun v e => by cases e⟩
    show h'.objs.size ≠ h3.objs.size
    omega
  cases hf : codeAmong gpos ps.toList with
  | none =>
    refine wpAny_genexprCodeX hcode (cd.code hPs ht) (cd.tab hPs) hf fun c' h' tk hx hge hlt hco' _ htab' _ => ?_
    obtain ⟨o1, vs, f1, tf, fl, tg, inF, tx, tt, op, _, _, _, _, _, _, _, _, _, htr, _⟩ := hco'
    exact cont _ h' tk _ (fun b o hb e => hx b o hb e) htab'.2 htr
  | some cv =>
    refine wpAny_genexprCode_hit hcode (cd.code hPs ht) hf ?_
    exact cont cv s2.heap s2.toks #[] (fun _ _ _ e => e) (by rw [Array.append_empty]; exact hPs) (by rw [Array.append_empty]; exact ht)
/-- behind it -/
theorem gen_after {s3 s' : Shared} {H3 H' : Hp} {NG : List Str} {fp : List Addr} {cenv : Env} {pins' : List (Addr × Obj)} {σ' : L2.St} (I : Inv X pins σ H3 s3) (hf : ∀ b ∈ fp, FpOk X pins H3 b) (J : Inv (gCx X s3 H3 NG fp cenv) pins' σ' H' s') : Inv X pins σ H' s' :=
  I.call' J.os J.base J.hok J.bare fun b hb => ⟨(hf b hb).2.2.2.1, (hf b hb).2.1, (hf b hb).2.2.2.2.1, (hf b hb).2.2.2.2.2⟩
end
/-! ### any, all, sum -/
/-- what a generator's frame hangs on -/
structure GPar where
  s : Shared
  H : Hp
  fp : List Addr
  C : Addr
  code : Value
def tQG (al : Bool) (P : Addr) (js : List (Option Nat)) (wi : TI) (g : GPar → TG) (te : GPar → TE) : TE := fun σ H Q => wi σ H fun J H1 => TabG H1 P ∧ ∀ a H3, Tabbed P H1 H3 → ∃ (N : Nat) (Z : Nat → L2.St → Hp → Prop), Z 0 (capS js σ) H3 ∧
  ∀ i σ' H', Z i σ' H' → (J.stop i H' ∧ Q (.bl al) H') ∨ (J.go i H' ∧ i < N ∧ ∀ x H2, J.yld i H' x H2 → g a x σ' H2 fun σ2 H4 => te a σ2 H4 fun y H5 => (y = .bl al ∧ Z (i + 1) σ2 H5) ∨ (y = .bl (!al) ∧ Q (.bl (!al)) H5))
def tSumG (P : Addr) (js : List (Option Nat)) (wi : TI) (g : GPar → TG) (te : GPar → TE) : TE := fun σ H Q => wi σ H fun J H1 => TabG H1 P ∧ ∀ a H3, Tabbed P H1 H3 → ∃ (vals : List Int) (Z : Nat → L2.St → Hp → Prop), (∀ (j : Nat) (v : Int), vals[j]? = some v → InLong v ∧ InLong ((vals.take j).sum + v)) ∧ Z 0 (capS js σ) H3 ∧
  ∀ i σ' H', Z i σ' H' → (J.stop i H' ∧ i = vals.length ∧ Q (.int vals.sum) H') ∨ (J.go i H' ∧ i < vals.length ∧ ∀ x H2, J.yld i H' x H2 → g a x σ' H2 fun σ2 H4 => te a σ2 H4 fun y H5 => ∃ v, vals[i]? = some v ∧ y = .int v ∧ Z (i + 1) σ2 H5)
section
variable {X : Cx} {c P : Addr} {elt tg iter : Expr} {p gpos pos : Pos} {scope : Scope} {NG : List Str} {js : List (Option Nat)} {wi : TI} {g : GPar → TG} {te : GPar → TE} {k : Nat}
theorem gfix {s3 : Shared} {H3 : Hp} {pins : List (Addr × Obj)} {σ : L2.St} {fp : List Addr} {code : Value} {a : Addr} (I : Inv X pins σ H3 s3) (G : GSc X.env.scope scope) (f : ∀ b ∈ fp, FpOk X pins H3 b) (fl : ∀ b ∈ fp, b < s3.heap.objs.size) (ha : s3.heap.objs.size < a) {S : List Addr} (hS : ∀ b ∈ S, a < b) :
    GFix X s3 fp (gEnv X scope s3.heap.objs.size code) a S := by
  have hfree : ∀ y ∈ scope.names, y.2 = .free → ∃ c, X.env.cells.lookup y.1 = some c := fun y hy e => by
    rcases G.free y hy e with k | k
    · exact I.ok.has _ (.inl k)
    · exact I.ok.has _ (.inr k)
  have cm : ∀ {y c}, (cloFrom X.env.cells scope.names []).lookup y = some c → X.env.cells.lookup y = some c := fun {y c} e => by
    rcases cloFrom_mem (PySem.mem_of_lookup e) with hm | ⟨h1, h2⟩
    · cases hm
    · obtain ⟨c1, hc⟩ := hfree _ h1 rfl
      have hc : X.env.cells.lookup y = some c1 := hc
      have e2 : c = c1 := by
        rw [h2, hc] <;> rfl
      rw [e2]
      exact hc
  have nfr : ∀ b, s3.heap.objs.size ≤ b → b ∉ frs X.stack := fun b hb z => by
    rcases List.mem_cons.mp (I.stkSub _ z) with e | e
    · have h1 := I.lt
      rw [← e] at h1
      exact Nat.lt_irrefl _ (Nat.lt_of_lt_of_le h1 hb)
    · exact I.nofs hb e
  refine ⟨fun b hb => ⟨Nat.ne_of_lt (fl b hb), fun z => ?_, fun x c e => (f b hb).2.2.2.2.1 x c (cm e), Nat.ne_of_lt (Nat.lt_trans (fl b hb) ha), fun z => absurd (Nat.lt_trans (Nat.lt_trans (fl b hb) ha) (hS b z)) (Nat.lt_irrefl _)⟩,
    fun b hb => ⟨Nat.le_of_lt (Nat.lt_trans ha (hS b hb)), Nat.ne_of_gt (Nat.lt_trans ha (hS b hb)), nfr b (Nat.le_of_lt (Nat.lt_trans ha (hS b hb))), fun x c e z => ?_, Nat.ne_of_gt (hS b hb)⟩⟩
  · rcases List.mem_cons.mp (I.stkSub b z) with e | e
    · exact (f b hb).2.1 e
    · exact (f b hb).2.2.1 e
  · obtain ⟨v, q⟩ := I.cell x c (cm e)
    have h1 : c < s3.heap.objs.size := q.lt
    rw [z] at h1
    exact Nat.lt_irrefl _ (Nat.lt_trans (Nat.lt_trans ha (hS b hb)) h1)
theorem pe_allG (hr : Room (k + 1) X.A) (hgl : Gl X "all") (hm : X.mg "all" = none) (hb : bootBuiltins "all" = some (.builtin "all")) (TB : TabB X.base X.mg c P) (hcode : X.env.code = .ref c) (G : GSc X.env.scope scope) (hi : PI X tg iter wi) (hN : capB X.N NG scope js = true)
    (hg : ∀ a : GPar, PG (gCx X a.s a.H NG a.fp (gEnv X scope a.C a.code)) tg (g a)) (he : ∀ a : GPar, Room k (gA X (gEnv X scope a.C a.code)) → PE (gCx X a.s a.H NG a.fp (gEnv X scope a.C a.code)) elt (te a)) (hs : ∀ v, genFold iter X.env v = pure v)
    (hst : starEach [.GeneratorExp elt [⟨tg, iter, [], 0⟩] scope gpos] X.env = (false, eval (.GeneratorExp elt [⟨tg, iter, [], 0⟩] scope gpos) X.env) :: starEach [] X.env := by rfl) :
    PE X (.Call (.Name "all" p) [.GeneratorExp elt [⟨tg, iter, [], 0⟩] scope gpos] [] pos) (tQG true P js wi g te) := by
  refine ⟨fun pins s σ H Q I h => ?_⟩
  refine wpAny_Call_Name_kw (ld_blt I hgl hm hb ?_)
  refine PyProof.Rows.callWith_builtin1 ?_ hst (by rfl)
  rw [hst]
  show wpAny _ _ (spliced ((false, eval (.GeneratorExp elt [⟨tg, iter, [], 0⟩] scope gpos) X.env) :: backTo pos (starEach [] X.env))) _ _ s
  refine Calls.spliced_cons (gen_make hr TB hcode G hi hN hs I h fun J H1 H3 a s5 hT hR M => ?_)
  refine Calls.spliced_nil ?_
  obtain ⟨s3, it, fp, tn, C, code, ob, gn, I3, T, st5, f3, fl, rfl, ha, I5, hgs, hob⟩ := M
  obtain ⟨N, Z, z0, turn⟩ := hR ⟨s3, H3, fp, s3.heap.objs.size, code⟩ H3 hT
  have fx : GFix X s3 fp (gEnv X scope s3.heap.objs.size code) a [] := gfix I3 G f3 fl ha (fun b hb => absurd hb (by simp))
  have pa := I5.pin (a, ob) (List.mem_append_right _ (List.mem_singleton.mpr rfl))
  have g0 : GenSt X s3 H3 NG fp (gEnv X scope s3.heap.objs.size code) a ob gn [] tn N Z (fun i y σ H => (y = .bl true ∧ Z (i + 1) σ H) ∨ (y = .bl false ∧ Q (.bl false) H)) (fun _ _ H => Q (.bl true) H) 0 s5 :=
    ⟨_, _, Nat.zero_le _, z0, I5, st5, fun b hb => (f3 b hb).1, fun b hb => absurd hb (by simp), _, hgs, fun s'' J2 st2 so2 => ⟨rfl, seg_start rfl G.co fx T (hg ⟨s3, H3, fp, s3.heap.objs.size, code⟩) (he ⟨s3, H3, fp, s3.heap.objs.size, code⟩ (room_g hr)) turn s'' _ _ z0 J2 st2 (fun b hb => (f3 b hb).1) so2⟩⟩
  refine call_function_tree F.kind_all F.plain_all F.entry_all (F.args_all1 _) ?_
  unfold Builtin.«all»
  refine wpAny_bind (m := oneArg "all" _) (wpAny_pure ?_)
  refine wpAny_bind (wpAny_pyIter_gen (hob _ pa.1) ?_)
  refine wpAny_pure ⟨plainId_quiet F.plain_all_loop _, codeAny_mono (all_loop (Q := Q) T hob hr.hd (by have := hr.dp; omega) N 0 s5 rfl g0) fun r s' hq => ?_⟩
  obtain ⟨b, σ', H', rfl, J2, q⟩ := hq
  exact ⟨.bl b, H', gen_after I3 f3 J2, rfl, q⟩
theorem pe_anyG (hr : Room (k + 1) X.A) (hgl : Gl X "any") (hm : X.mg "any" = none) (hb : bootBuiltins "any" = some (.builtin "any")) (TB : TabB X.base X.mg c P) (hcode : X.env.code = .ref c) (G : GSc X.env.scope scope) (hi : PI X tg iter wi) (hN : capB X.N NG scope js = true)
    (hg : ∀ a : GPar, PG (gCx X a.s a.H NG a.fp (gEnv X scope a.C a.code)) tg (g a)) (he : ∀ a : GPar, Room k (gA X (gEnv X scope a.C a.code)) → PE (gCx X a.s a.H NG a.fp (gEnv X scope a.C a.code)) elt (te a)) (hs : ∀ v, genFold iter X.env v = pure v)
    (hst : starEach [.GeneratorExp elt [⟨tg, iter, [], 0⟩] scope gpos] X.env = (false, eval (.GeneratorExp elt [⟨tg, iter, [], 0⟩] scope gpos) X.env) :: starEach [] X.env := by rfl) :
    PE X (.Call (.Name "any" p) [.GeneratorExp elt [⟨tg, iter, [], 0⟩] scope gpos] [] pos) (tQG false P js wi g te) := by
  refine ⟨fun pins s σ H Q I h => ?_⟩
  refine wpAny_Call_Name_kw (ld_blt I hgl hm hb ?_)
  refine PyProof.Rows.callWith_builtin1 ?_ hst (by rfl)
  rw [hst]
  show wpAny _ _ (spliced ((false, eval (.GeneratorExp elt [⟨tg, iter, [], 0⟩] scope gpos) X.env) :: backTo pos (starEach [] X.env))) _ _ s
  refine Calls.spliced_cons (gen_make hr TB hcode G hi hN hs I h fun J H1 H3 a s5 hT hR M => ?_)
  refine Calls.spliced_nil ?_
  obtain ⟨s3, it, fp, tn, C, code, ob, gn, I3, T, st5, f3, fl, rfl, ha, I5, hgs, hob⟩ := M
  obtain ⟨N, Z, z0, turn⟩ := hR ⟨s3, H3, fp, s3.heap.objs.size, code⟩ H3 hT
  have fx : GFix X s3 fp (gEnv X scope s3.heap.objs.size code) a [] := gfix I3 G f3 fl ha (fun b hb => absurd hb (by simp))
  have pa := I5.pin (a, ob) (List.mem_append_right _ (List.mem_singleton.mpr rfl))
  have g0 : GenSt X s3 H3 NG fp (gEnv X scope s3.heap.objs.size code) a ob gn [] tn N Z (fun i y σ H => (y = .bl false ∧ Z (i + 1) σ H) ∨ (y = .bl true ∧ Q (.bl true) H)) (fun _ _ H => Q (.bl false) H) 0 s5 :=
    ⟨_, _, Nat.zero_le _, z0, I5, st5, fun b hb => (f3 b hb).1, fun b hb => absurd hb (by simp), _, hgs, fun s'' J2 st2 so2 => ⟨rfl, seg_start rfl G.co fx T (hg ⟨s3, H3, fp, s3.heap.objs.size, code⟩) (he ⟨s3, H3, fp, s3.heap.objs.size, code⟩ (room_g hr)) turn s'' _ _ z0 J2 st2 (fun b hb => (f3 b hb).1) so2⟩⟩
  refine call_function_tree F.kind_any F.plain_any F.entry_any (F.args_any1 _) ?_
  unfold Builtin.«any»
  refine wpAny_bind (m := oneArg "any" _) (wpAny_pure ?_)
  refine wpAny_bind (wpAny_pyIter_gen (hob _ pa.1) ?_)
  refine wpAny_pure ⟨plainId_quiet F.plain_any_loop _, codeAny_mono (any_loop (Q := Q) T hob hr.hd (by have := hr.dp; omega) N 0 s5 rfl g0) fun r s' hq => ?_⟩
  obtain ⟨b, σ', H', rfl, J2, q⟩ := hq
  exact ⟨.bl b, H', gen_after I3 f3 J2, rfl, q⟩
theorem pe_sumG (hr : Room (k + 1) X.A) (hgl : Gl X "sum") (hm : X.mg "sum" = none) (hb : bootBuiltins "sum" = some (.builtin "sum")) (TB : TabB X.base X.mg c P) (hcode : X.env.code = .ref c) (G : GSc X.env.scope scope) (hi : PI X tg iter wi) (hN : capB X.N NG scope js = true)
    (hg : ∀ a : GPar, PG (gCx X a.s a.H NG a.fp (gEnv X scope a.C a.code)) tg (g a)) (he : ∀ a : GPar, Room k (gA X (gEnv X scope a.C a.code)) → PE (gCx X a.s a.H NG a.fp (gEnv X scope a.C a.code)) elt (te a)) (hs : ∀ v, genFold iter X.env v = pure v)
    (hst : starEach [.GeneratorExp elt [⟨tg, iter, [], 0⟩] scope gpos] X.env = (false, eval (.GeneratorExp elt [⟨tg, iter, [], 0⟩] scope gpos) X.env) :: starEach [] X.env := by rfl) :
    PE X (.Call (.Name "sum" p) [.GeneratorExp elt [⟨tg, iter, [], 0⟩] scope gpos] [] pos) (tSumG P js wi g te) := by
  refine ⟨fun pins s σ H Q I h => ?_⟩
  refine wpAny_Call_Name_kw (ld_blt I hgl hm hb ?_)
  refine PyProof.Rows.callWith_builtin1 ?_ hst (by rfl)
  rw [hst]
  show wpAny _ _ (spliced ((false, eval (.GeneratorExp elt [⟨tg, iter, [], 0⟩] scope gpos) X.env) :: backTo pos (starEach [] X.env))) _ _ s
  refine Calls.spliced_cons (gen_make hr TB hcode G hi hN hs I h fun J H1 H3 a s5 hT hR M => ?_)
  refine Calls.spliced_nil ?_
  obtain ⟨s3, it, fp, tn, C, code, ob, gn, I3, T, st5, f3, fl, rfl, ha, I5, hgs, hob⟩ := M
  obtain ⟨vals, Z, hfit, z0, turn⟩ := hR ⟨s3, H3, fp, s3.heap.objs.size, code⟩ H3 hT
  have pa := I5.pin (a, ob) (List.mem_append_right _ (List.mem_singleton.mpr rfl))
  have ha5 : a < s5.heap.objs.size := Heap.lt_size pa.1
  have fx : GFix X s3 fp (gEnv X scope s3.heap.objs.size code) a [s5.heap.objs.size] := gfix I3 G f3 fl ha (fun b hb => by rw [List.mem_singleton.mp hb]; exact ha5)
  refine call_function_tree F.kind_sum F.plain_sum F.entry_sum (F.args_sum1 _) ?_
  unfold Builtin.«sum»
  simp only [List.length_cons, List.length_nil]
  rw [if_neg (by decide)]
  refine wpAny_bind (wpAny_of_eq (show Builtin.Builtins.bindParams "sum" ["start"] 0 { } = pure [none] from rfl) ?_)
  refine wpAny_bind (wpAny_pyIter_gen (hob _ pa.1) ?_)
  refine wpAny_bind (wpAny_mkInt ?_)
  refine wpAny_bind (wpAny_pure ?_)
  simp only [List.forIn_cons, List.forIn_nil]
  refine wpAny_bind (wpAny_bind (wpAny_bind (wpAny_isInstance (T := "int") (b := false) (typeIs_int _ _ _) PySem.sub_int_str ?_)))
  simp only [Bool.false_eq_true, if_false]
  refine wpAny_pure (wpAny_bind (wpAny_bind (wpAny_isInstance (T := "int") (b := false) (typeIs_int _ _ _) PySem.sub_int_bytes ?_)))
  simp only [Bool.false_eq_true, if_false]
  refine wpAny_pure (wpAny_bind (wpAny_bind (wpAny_isInstance (T := "int") (b := false) (typeIs_int _ _ _) PySem.sub_int_bytearray ?_)))
  simp only [Bool.false_eq_true, if_false]
  refine wpAny_pure (wpAny_pure ?_)
  refine wpAny_bind (wpAny_newObj_type ?_)
  have I6 : Inv (gCx X s3 H3 NG fp (gEnv X scope s3.heap.objs.size code)) [(a, ob)] (capS js σ) H3 { s5 with heap := s5.heap.push { cls := .type "list", data := .seq #[.int 0 s5.toks] }, toks := s5.toks + 1 } := I5.kept fun b o e => Heap.get?_push_of_some _ e
  have hS6 : (s5.heap.push { cls := .type "list", data := .seq #[.int 0 s5.toks] }).get? s5.heap.objs.size = some { cls := .type "list", data := .seq #[.int 0 s5.toks] } := Heap.get?_push_size _ rfl
  have g0 : GenSt X s3 H3 NG fp (gEnv X scope s3.heap.objs.size code) a ob gn [s5.heap.objs.size] tn vals.length Z (fun i y σ H => ∃ v, vals[i]? = some v ∧ y = .int v ∧ Z (i + 1) σ H) (fun i _ H => i = vals.length ∧ Q (.int vals.sum) H) 0 { s5 with heap := s5.heap.push { cls := .type "list", data := .seq #[.int 0 s5.toks] }, toks := s5.toks + 1 } :=
    ⟨_, _, Nat.zero_le _, z0, I6, T.keep _ _ _ st5 fun b _ o e => Heap.get?_push_of_some _ e, fun b hb => (f3 b hb).1, fun b hb => by
      rw [List.mem_singleton.mp hb]
      exact ⟨I5.hok.fresh (Nat.le_refl _), _, hS6, fun v e => by cases e⟩, _, hgs, fun s'' J2 st2 so2 => ⟨rfl, seg_start rfl G.co fx T (hg ⟨s3, H3, fp, s3.heap.objs.size, code⟩) (he ⟨s3, H3, fp, s3.heap.objs.size, code⟩ (room_g hr)) turn s'' _ _ z0 J2 st2 (fun b hb => (f3 b hb).1) so2⟩⟩
  have hfS := fx.s s5.heap.objs.size (List.mem_singleton.mpr rfl)
  refine wpAny_pure ⟨plainId_quiet F.plain_sum_loop _, codeAny_mono (sum_loop (Q := Q) (fun b hb z => (fx.f b hb).2.2.2.2 (by rw [z]; exact List.mem_singleton.mpr rfl)) hfS.2.2.2.2 T hob hr.hd (by have := hr.dp; omega) ⟨hfS.1, hfS.2.1, hfS.2.2.1, hfS.2.2.2.1⟩ hfit vals.length 0 _ s5.toks _ rfl g0 hS6) fun r s' hq => ?_⟩
  obtain ⟨t, σ', H', rfl, J2, q⟩ := hq
  exact ⟨.int vals.sum, H', gen_after I3 f3 J2, ⟨t, rfl⟩, q⟩
end
end L3G

namespace L3
open PySem L2
open Evl (Ex ex_rd ex_l ex_t sq_of st_of fresh_back)

/-! ### generator expressions -/
def allM {α : Type} (f : α → Option Bool) : List α → Option Bool
  | [] => some true
  | x :: xs => match f x with
    | some true => allM f xs
    | o => o
def anyM {α : Type} (f : α → Option Bool) : List α → Option Bool
  | [] => some false
  | x :: xs => match f x with
    | some false => anyM f xs
    | o => o
def quM {α : Type} (al : Bool) (f : α → Option Bool) : List α → Option Bool
  | [] => some al
  | x :: xs => match f x with
    | some b => if b = al then quM al f xs else some b
    | none => none
theorem quM_all {α : Type} (f : α → Option Bool) : ∀ xs : List α, quM true f xs = allM f xs
  | [] => rfl
  | x :: xs => by
    unfold quM allM
    cases f x with
    | none => rfl
    | some b => cases b with
      | true => exact quM_all f xs
      | false => rfl
theorem quM_any {α : Type} (f : α → Option Bool) : ∀ xs : List α, quM false f xs = anyM f xs
  | [] => rfl
  | x :: xs => by
    unfold quM anyM
    cases f x with
    | none => rfl
    | some b => cases b with
      | false => exact quM_any f xs
      | true => rfl
def mapO {α β : Type} (f : α → Option β) : List α → Option (List β)
  | [] => some []
  | x :: xs => match f x, mapO f xs with
    | some y, some ys => some (y :: ys)
    | _, _ => none
theorem mapO_get {α β : Type} {f : α → Option β} : ∀ {xs : List α} {ys : List β}, mapO f xs = some ys → xs.length = ys.length ∧ ∀ (i : Nat) (x : α), xs[i]? = some x → ∃ y, f x = some y ∧ ys[i]? = some y
  | [], ys, h => by
    obtain rfl : [] = ys := Option.some.inj h
    exact ⟨rfl, fun i x e => by simp at e⟩
  | x :: xs, ys, h => by
    unfold mapO at h
    split at h
    · rename_i y ys' e1 e2
      obtain rfl := Option.some.inj h
      obtain ⟨h1, h2⟩ := mapO_get e2
      refine ⟨congrArg (· + 1) h1, fun i z e => ?_⟩
      cases i with
      | zero => obtain rfl : x = z := by simpa using e
                exact ⟨y, e1, rfl⟩
      | succ i => exact h2 i z (by simpa using e)
    · cases h
def longI (i : Int) : Bool := decide (-(2 ^ 63) ≤ i) && decide (i < 2 ^ 63)
def fits (acc : Int) : List Int → Bool
  | [] => true
  | v :: vs => longI v && longI (acc + v) && fits (acc + v) vs
def sumM {α : Type} (f : α → Option Int) (xs : List α) : Option Int := match mapO f xs with
  | some vs => if fits 0 vs = true then some vs.sum else none
  | none => none
theorem longI_ok {i : Int} (h : longI i = true) : InLong i := by
  unfold longI at h
  rw [Bool.and_eq_true, decide_eq_true_eq, decide_eq_true_eq] at h
  exact h
theorem fits_ok : ∀ {vs : List Int} {acc : Int}, fits acc vs = true → ∀ (j : Nat) (v : Int), vs[j]? = some v → InLong v ∧ InLong (acc + (vs.take j).sum + v)
  | [], _, _, _, _, e => by simp at e
  | w :: vs, acc, h, j, v, e => by
    unfold fits at h
    rw [Bool.and_eq_true, Bool.and_eq_true] at h
    cases j with
    | zero =>
      obtain rfl : w = v := by simpa using e
      exact ⟨longI_ok h.1.1, by simpa using longI_ok h.1.2⟩
    | succ j =>
      have := fits_ok h.2 j v (by simpa using e)
      refine ⟨this.1, ?_⟩
      rw [List.take_succ_cons, List.sum_cons, ← Int.add_assoc]
      exact this.2
section
variable {K : Fg} {M : Fr} {σ : St} {B : Hp} {L L1 L2 L' : List Cell} {α β γ δ : Type} {r : Rep α} {s : Rep β} {t : Rep γ} {ta tb tc te : TE} {tt tu : TT} {tA : TA} {i j k : Int} {b c : Bool} {P : Addr} {js : List (Option Nat)} {wi : TI} {g : L3G.GPar → TG} {ge : L3G.GPar → TE}
theorem Own.tabbed {H H' : Hp} (w : Own K B M L H) (hP : P ∈ M.T) (h : GxR.Tabbed P H H') : Own K B M L H' := by
  obtain ⟨h1, h2⟩ := h
  obtain ⟨t1, t2, t3, t4⟩ := w.t P hP
  refine ⟨fun a u e => ?_, fun a u e => ?_, w.bm, fun x hx => ?_, w.nd, fun R hR => ?_⟩
  · rw [h2 a (ne_of_none e t2)]; exact w.b a u e
  · rw [h2 a (ne_of_none e t3)]; exact w.m a u e
  · obtain ⟨⟨o, a1, a2⟩, a3, a4⟩ := w.l x hx
    exact ⟨⟨o, by rw [h2 x.p (fun e => t4 (by rw [← e]; exact List.mem_map.mpr ⟨x, hx, rfl⟩))]; exact a1, a2⟩, a3, a4⟩
  · obtain ⟨s1, s2, s3, s4⟩ := w.t R hR
    refine ⟨?_, s2, s3, s4⟩
    by_cases e : R = P
    · rw [e]; exact h1
    · obtain ⟨ps, q1, q2⟩ := s1
      exact ⟨ps, by rw [h2 R e]; exact q1, q2⟩
theorem ev_quG (al : Bool) {xs : List α} (hP : P ∈ M.T) (hi : EI K M wi σ B L r xs L1) (f : α → Option Bool) (Sg : St → Prop) (h0 : Sg (L3G.capS js σ)) (hm : quM al f xs = some b)
    (hs : ∀ a x c v B' H' σ', f x = some c → Ex B B' → Sg σ' → Own K B' M L1 H' → r.is K B' v x → ∀ Q : St → VK, (∀ σ2 B2 H2, Sg σ2 → Ex B' B2 → Own K B2 M L1 H2 → Q σ2 (.bl c) H2) → g a v σ' H' fun σ2 H2 => ge a σ2 H2 (Q σ2)) :
    EV K M (L3G.tQG al P js wi g ge) σ B L rBool b L1 := fun B1 H e w Q q =>
  hi B1 H e w _ fun J B2 H2 e2 w2 wk => by
    refine ⟨(w2.t P hP).1, fun a H3 hT => ?_⟩
    have w3 := w2.tabbed hP hT
    refine ⟨xs.length, fun i σ' H' => Sg σ' ∧ (∃ B', Ex B2 B' ∧ Own K B' M L1 H') ∧ i ≤ xs.length ∧ quM al f (xs.drop i) = some b, ⟨h0, ⟨B2, Ex.refl _, w3⟩, Nat.zero_le _, hm⟩, ?_⟩
    rintro i σ' H' ⟨sg, ⟨B', eb, w'⟩, hi, hq⟩
    by_cases hl : i = xs.length
    · subst hl
      refine .inl ⟨wk.stop B' L1 H' eb w', ?_⟩
      rw [List.drop_length] at hq
      obtain rfl : al = b := Option.some.inj hq
      exact q _ B' H' (e2.trans eb) w' rfl
    · have hlt : i < xs.length := by omega
      rw [List.drop_eq_getElem_cons hlt] at hq
      have hx : xs[i]? = some xs[i] := List.getElem?_eq_getElem hlt
      obtain ⟨g1, g2⟩ := wk.go i xs[i] B' L1 H' eb w' hx
      unfold quM at hq
      cases hf : f xs[i] with
      | none => rw [hf] at hq; cases hq
      | some c =>
        rw [hf] at hq
        refine .inr ⟨g1, hlt, fun x H4 hy => ?_⟩
        obtain ⟨B4, e4, w4, hr⟩ := g2 x H4 hy
        refine hs a xs[i] c x B4 H4 σ' hf ((e.trans e2).trans (eb.trans e4)) sg w4 hr _ fun σ2 B5 H5 sg5 e5 w5 => ?_
        have hq : (if c = al then quM al f (xs.drop (i + 1)) else some c) = some b := hq
        by_cases hc : c = al
        · rw [if_pos hc] at hq
          exact .inl ⟨by rw [hc], sg5, ⟨B5, (eb.trans e4).trans e5, w5⟩, hlt, hq⟩
        · rw [if_neg hc] at hq
          obtain rfl : c = b := Option.some.inj hq
          have hn : c = !al := by revert hc; cases c <;> cases al <;> simp
          exact .inr ⟨by rw [hn], hn ▸ q _ B5 H5 (((e2.trans eb).trans e4).trans e5) w5 rfl⟩
theorem ev_allG {xs : List α} (hP : P ∈ M.T) (hi : EI K M wi σ B L r xs L1) (f : α → Option Bool) (Sg : St → Prop) (h0 : Sg (L3G.capS js σ)) (hm : allM f xs = some b)
    (hs : ∀ a x c v B' H' σ', f x = some c → Ex B B' → Sg σ' → Own K B' M L1 H' → r.is K B' v x → ∀ Q : St → VK, (∀ σ2 B2 H2, Sg σ2 → Ex B' B2 → Own K B2 M L1 H2 → Q σ2 (.bl c) H2) → g a v σ' H' fun σ2 H2 => ge a σ2 H2 (Q σ2)) :
    EV K M (L3G.tQG true P js wi g ge) σ B L rBool b L1 := ev_quG true hP hi f Sg h0 (by rw [quM_all]; exact hm) hs
theorem ev_anyG {xs : List α} (hP : P ∈ M.T) (hi : EI K M wi σ B L r xs L1) (f : α → Option Bool) (Sg : St → Prop) (h0 : Sg (L3G.capS js σ)) (hm : anyM f xs = some b)
    (hs : ∀ a x c v B' H' σ', f x = some c → Ex B B' → Sg σ' → Own K B' M L1 H' → r.is K B' v x → ∀ Q : St → VK, (∀ σ2 B2 H2, Sg σ2 → Ex B' B2 → Own K B2 M L1 H2 → Q σ2 (.bl c) H2) → g a v σ' H' fun σ2 H2 => ge a σ2 H2 (Q σ2)) :
    EV K M (L3G.tQG false P js wi g ge) σ B L rBool b L1 := ev_quG false hP hi f Sg h0 (by rw [quM_any]; exact hm) hs
theorem ev_sumG {xs : List α} (hP : P ∈ M.T) (hi : EI K M wi σ B L r xs L1) (f : α → Option Int) (Sg : St → Prop) (h0 : Sg (L3G.capS js σ)) (hm : sumM f xs = some k)
    (hs : ∀ a x c v B' H' σ', f x = some c → Ex B B' → Sg σ' → Own K B' M L1 H' → r.is K B' v x → ∀ Q : St → VK, (∀ σ2 B2 H2, Sg σ2 → Ex B' B2 → Own K B2 M L1 H2 → Q σ2 (.int c) H2) → g a v σ' H' fun σ2 H2 => ge a σ2 H2 (Q σ2)) :
    EV K M (L3G.tSumG P js wi g ge) σ B L rInt k L1 := fun B1 H e w Q q =>
  hi B1 H e w _ fun J B2 H2 e2 w2 wk => by
    unfold sumM at hm
    split at hm
    · rename_i vs hvs
      split at hm
      · rename_i hfit
        obtain rfl := Option.some.inj hm
        obtain ⟨hlen, hget⟩ := mapO_get hvs
        refine ⟨(w2.t P hP).1, fun a H3 hT => ?_⟩
        have w3 := w2.tabbed hP hT
        refine ⟨vs, fun i σ' H' => Sg σ' ∧ (∃ B', Ex B2 B' ∧ Own K B' M L1 H') ∧ i ≤ vs.length, fun j v hv => by simpa using fits_ok hfit j v hv, ⟨h0, ⟨B2, Ex.refl _, w3⟩, Nat.zero_le _⟩, ?_⟩
        rintro i σ' H' ⟨sg, ⟨B', eb, w'⟩, hi⟩
        by_cases hl : i = vs.length
        · subst hl
          refine .inl ⟨by rw [← hlen]; exact wk.stop B' L1 H' eb w', rfl, q _ B' H' (e2.trans eb) w' rfl⟩
        · have hlt : i < vs.length := by omega
          have hlt' : i < xs.length := by omega
          have hx : xs[i]? = some xs[i] := List.getElem?_eq_getElem hlt'
          obtain ⟨g1, g2⟩ := wk.go i xs[i] B' L1 H' eb w' hx
          obtain ⟨y, f1, f2⟩ := hget i _ hx
          refine .inr ⟨g1, hlt, fun x H4 hy => ?_⟩
          obtain ⟨B4, e4, w4, hr⟩ := g2 x H4 hy
          refine hs a xs[i] y x B4 H4 σ' f1 ((e.trans e2).trans (eb.trans e4)) sg w4 hr _ fun σ2 B5 H5 sg5 e5 w5 => ?_
          exact ⟨y, f2, rfl, sg5, ⟨B5, (eb.trans e4).trans e5, w5⟩, hlt⟩
      · cases hm
    · cases hm
end
/-! ### a def with its code object -/
structure FunC (K : Fg) (x : Str) (st : Stmt) (f : Addr) (fd : FuncData) (c : Addr) : Prop where
  ex : ∃ (oc : Value) (od : Option Addr) (kV doc pm : Value) (an : Option Addr) (ct : Value) (osl : Array (Option Value)),
    fd = PySem.W.fnOf x x (defArgs st) (defBody st) (defScope st) .none kV doc pm an (.ref c) ct ∧ K.lookup f = some ⟨oc, od, .func fd, osl⟩ ∧ PySem.W.codeIn K (.ref c) x = true
  kp : PySem.W.keepIn K (.ref f) = true
theorem FunC.ok {P : Program} {w : World} {K : Fg} {mg : Str → Option Value} {base : Heap} {x : Str} {st : Stmt} {f : Addr} {fd : FuncData} {c : Addr} {N ps : List Str} {k : Nat} {sp : Sp} (F : FunC K x st f fd c) (S : FnScope N ps (defScope st)) (len : ∀ vs H Q E, sp vs H Q E → vs.length = ps.length)
    (hbody : ∀ (A : Around) (outer : List Env) (s : Shared) (H : Hp) (vs : List V) (Q : VK) (E : XK), Room k (A.deeper (PyProof.Rows.envOfC x (defScope st) s.heap.objs.size f (.ref c))) → sp vs H Q E →
      ∃ t, PSs (cxOf CX0 P w K mg base N x (defScope st) f (.ref c) A outer s H E).nox (defBody st) t ∧ t { nx := fun _ H' => Q .non H', rt := Q } (start N vs) H) : FnOk P w K mg base CX0 (k + 1) f fd ps sp := by
  obtain ⟨oc, od, kV, doc, pm, an, ct, osl, rfl, lk, hcd⟩ := F.ex
  refine fn_of lk hcd S len fun A outer s H vs Q E hr hsp => ?_
  obtain ⟨t, h, q⟩ := hbody A outer s H vs Q E hr hsp
  exact ⟨t, h.nox, q⟩
theorem FunC.binds {K : Fg} {x : Str} {st : Stmt} {f : Addr} {fd : FuncData} {c : Addr} {ps : List Str} (F : FunC K x st f fd c)
    (h : ∀ (kV doc pm : Value) (an : Option Addr) (cdv ct : Value) (us : List Value), us.length = ps.length → bindArgs (PySem.W.fnOf x x (defArgs st) (defBody st) (defScope st) .none kV doc pm an cdv ct) ⟨us, []⟩ = pure (ps.zip us)) : Binds K fd ps [] := by
  obtain ⟨oc, od, kV, doc, pm, an, ct, osl, rfl, lk, hcd⟩ := F.ex
  exact .all (h kV doc pm an _ ct)
theorem FunC.bindsA {K : Fg} {x : Str} {st : Stmt} {f : Addr} {fd : FuncData} {c : Addr} {ps : List Str} (F : FunC K x st f fd c)
    (h : ∀ (kV doc pm : Value) (an : Option Addr) (cdv ct : Value) (us : List Value), us.length = ps.length → bindArgs (PySem.W.fnOf x x (defArgs st) (defBody st) (defScope st) .none kV doc pm an cdv ct) ⟨us, []⟩ = pure (ps.zip us)) (s : Shared) (us : List Value) (hl : us.length = ps.length) : PySem.BindsTo s fd ⟨us, []⟩ (ps.zip us) := by
  obtain ⟨oc, od, kV, doc, pm, an, ct, osl, rfl, lk, hcd⟩ := F.ex
  exact .of_eq (h kV doc pm an _ ct us hl)
theorem funC_of {K : Fg} {x : Str} {st : Stmt} {fd : FuncData} (F : FunD K x x (defArgs st) (defBody st) (defScope st) [] [] (He.fAd K (x, none)) fd) : FunC K x st (He.fAd K (x, none)) fd (He.codeOf K (x, none)) := by
  obtain ⟨oc, od, dV, kV, doc, pm, an, cdv, ct, osl, rfl, lk, hcd, hD, hK⟩ := F.ex
  obtain ⟨c, rfl⟩ := He.codeIn_ref hcd
  rcases hD with ⟨_, rfl⟩ | ⟨e, _⟩
  · have e := He.codeOf_eq (p := (x, none)) lk (c := c) rfl
    rw [e]
    exact ⟨⟨oc, od, kV, doc, pm, an, ct, osl, rfl, lk, hcd⟩, F.kp⟩
  · exact absurd rfl e
end L3

/-! enumerate of a tuple -/
namespace L3G
open PySem PySem.Spec PyProof.Rows L2
set_option maxHeartbeats 4000000 in
theorem meets_enumT (t : Addr) (items : Array Value) :
    Meets (Builtin.«enumerate.__new__» ⟨[.type "enumerate", .ref t], []⟩) (fun _ R s => s.heap.IsTuple t items ∧
      R (.ok (.ret (.ref (s.heap.push { cls := .type "tuple_iterator", data := .fields #[.ref t, .int 0 0] }).objs.size)))
        { s with heap := (s.heap.push { cls := .type "tuple_iterator", data := .fields #[.ref t, .int 0 0] }).push { cls := .type "enumerate", data := .fields #[.none, .bool false, .ref s.heap.objs.size, rawInt 0, .none, .none] } }) :=
  .of_wp fun prog w A R s h => by
    obtain ⟨hp, g, d, tk, os⟩ := s; obtain ⟨hL, h⟩ := h
    have hsub := sub_enumerate
    obtain ⟨o, hl, hc, n, hd⟩ := id hL
    obtain ⟨oc, od, odt, osl⟩ := o
    replace hc : oc = .type "tuple" := hc
    replace hd : odt = .seq items n := hd
    subst hc hd
    wp_walk using wpAny_loadPart' hl
    refine wpAny_stack_any fun st => wpAny_pure ?_
    split
    · rename_i c _ _ _ _ _
      cases (c == Value.type "enumerate")
      · wp_walk using wpAny_loadPart' hl, wpAny_pyIter_tuple hL
        exact ⟨_, rfl, h⟩
      · wp_walk using wpAny_loadPart' hl, wpAny_pyIter_tuple hL
        exact ⟨_, rfl, h⟩
    · wp_walk using wpAny_loadPart' hl, wpAny_pyIter_tuple hL
      exact ⟨_, rfl, h⟩
section
variable {prog : Program} {w : World} {A : Around} {E : Value → Shared → Prop} {s : Shared}
theorem call_enumT {l : Addr} {items : Array Value} {Q : Value → Shared → Prop} (hL : s.heap.IsTuple l items)
    (h : ∀ h', IsEnum h' (s.heap.objs.size + 1) s.heap.objs.size 0 .none → h'.IsTupleIter s.heap.objs.size l 0 → h'.objs.size = s.heap.objs.size + 2 →
      (∀ b o, s.heap.get? b = some o → h'.get? b = some o) → Q (.ref (s.heap.objs.size + 1)) { s with heap := h' }) :
    wpAny (model prog w) A (call (.type "enumerate") [.ref l]) Q E s := by
  refine callType_new F.called_enumerate (by decide) (F.typeCall_enumerate_1 _) (F.newCall_enumerate_1 _) (fun obj => F.args_object_init_2 obj _) F.entry_enumerate_new
    (meets_enumT l items) ⟨hL, ?_⟩
  have hz : (s.heap.push { cls := .type "tuple_iterator", data := .fields #[.ref l, .int 0 0] }).objs.size = s.heap.objs.size + 1 := Heap.size_push ..
  show _ ∧ _
  rw [hz]
  have he : IsEnum ((s.heap.push { cls := .type "tuple_iterator", data := .fields #[.ref l, .int 0 0] }).push
      { cls := .type "enumerate", data := .fields #[.none, .bool false, .ref s.heap.objs.size, rawInt 0, .none, .none] }) (s.heap.objs.size + 1) s.heap.objs.size 0 .none := by
    have := Heap.get?_push_size (s.heap.push { cls := .type "tuple_iterator", data := .fields #[.ref l, .int 0 0] })
      (o := { cls := .type "enumerate", data := .fields #[.none, .bool false, .ref s.heap.objs.size, rawInt 0, .none, .none] }) rfl
    rw [hz] at this; exact this
  refine ⟨⟨_, he, rfl⟩, h _ he ⟨_, Heap.get?_push_of_some _ (Heap.get?_push_size _ rfl), rfl, rfl⟩ (by rw [Heap.size_push, hz]) fun b o x => Heap.get?_push_of_some _ (Heap.get?_push_of_some _ x)⟩
end
def IteT (K : PySem.W.Frag) (a : Addr) : It :=
  ⟨fun i H => ∃ (xs : List V) (x : V), SqT K H a xs ∧ xs[i]? = some x, fun i H v H' => ∃ T x, v = .ref T ∧ H T = none ∧ H' = upd H T (.tup [.int (i : Nat), x]) ∧ ∀ xs, SqT K H a xs → xs[i]? = some x, fun i H => ∃ xs : List V, SqT K H a xs ∧ xs.length ≤ i⟩
theorem turn_enumT {P : Program} {w : World} {K : PySem.W.Frag} {elts : List Expr} {kk : Nat} {tpos : Pos} (a e it : Addr) :
    Turn P w K (.Tuple elts kk tpos) (IteT K a) [e, it] e (fun i h => (∃ old, IsEnum h e it ((i : Nat) : Int) old) ∧ h.IsTupleIter it a i ∧ e ≠ it) where
  mem := by simp
  obj := fun i h st b hb => by
    obtain ⟨⟨old, he⟩, ⟨o, ho, hc, hd⟩, _⟩ := st
    have e' : b = e ∨ b = it := by simpa using hb
    rcases e' with z | z
    · rw [z]; exact ⟨_, he, fun v q => nomatch q⟩
    · rw [z]; exact ⟨o, ho, fun v q => by rw [hd] at q; cases q⟩
  keep := fun i h h' st k => let ⟨⟨old, he⟩, hi, hne⟩ := st; ⟨⟨old, k e (by simp) _ he⟩, hi.at fun o q => k it (by simp) o q, hne⟩
  item := by
    intro X hP hw hK hc i pins s σ H E I hf st hg
    subst hP hw hK
    obtain ⟨⟨old, he⟩, hit, hne⟩ := st
    obtain ⟨xs, x, hq, hx⟩ := hg
    obtain ⟨its, rv, p, hz⟩ := I.tuple hq
    obtain ⟨u, hu, ru⟩ := rv.get hx
    have p' : s.heap.IsTuple a its.toArray := p
    have hel : e < s.heap.objs.size := Heap.lt_size he
    have hil : it < s.heap.objs.size := by obtain ⟨_, q, _⟩ := hit; exact Heap.lt_size q
    have hai : a ≠ it := fun z => by
      obtain ⟨o1, q1, c1, _⟩ := hit
      obtain ⟨o2, q2, c2, _⟩ := p'
      rw [z, q1] at q2; cases q2
      rw [c1] at c2; exact absurd (Value.type.inj c2) (by decide)
    have hea : e ≠ a := fun z => by
      obtain ⟨o2, q2, c2, _⟩ := p'
      have he' : s.heap.get? e = some _ := he
      rw [z, q2] at he'; cases he'
      exact absurd (Value.type.inj c2) (by decide)
    have hsz : i < its.toArray.size := by
      have := (List.getElem?_eq_some_iff.mp hu).1
      simpa using this
    refine wpAny_pyNext_enum_itemD (PySem.Draws.tuple (A := X.A.in1) (I.ok.hd hc) it a hai its.toArray) he ⟨hit, p'⟩ hsz hne (by simp [hne, hea]) fun x' h' tk' hPx ho hit' hT hsz' hk => ?_
    have hPx : its[i]? = some x' := by simpa using hPx
    rw [hu] at hPx
    obtain rfl := Option.some.inj hPx
    refine ⟨_, rfl, wpAny_letOwnedTupleGo_enum (s := { s with heap := h', toks := tk' + 1 }) ho fun h'' he' sb => ?_⟩
    have hT2 : h''.get? s.heap.objs.size = some { cls := .type "tuple", data := .seq #[.int i tk', u] } := (sb.2 _ (Nat.ne_of_gt hel)).trans hT
    have new : ObjOk X.prog X.w (upd H s.heap.objs.size (.tup [.int (i : Nat), x])) h'' s.heap.objs.size (.tup [.int (i : Nat), x]) :=
      ⟨by show 2 ≤ sizeLine; decide, [.int i tk', u], .cons ⟨_, rfl⟩ (.cons ru .nil), ⟨_, hT2, rfl, _, rfl⟩⟩
    have I1 : Inv X pins σ (upd H s.heap.objs.size (.tup [.int (i : Nat), x])) { s with heap := h'', toks := tk' + 1 } :=
      I.turnedNew (ch := [e, it]) (fun b ob hb q => (sb.2 b (fun z => hb (by simp [z]))).trans (hk b ob (fun z => hb (by simp [z])) (fun z => hb (by simp [z])) q)) hf (Nat.le_refl _) new
    refine ⟨.ref s.heap.objs.size, _, I1, rfl, ⟨_, x, rfl, I.hok.fresh (Nat.le_refl _), rfl, fun ys hy => by rw [I.tuple_inj hy hq]; exact hx⟩, ⟨⟨u, ?_⟩, hit'.1.at fun o q => (sb.2 it (Ne.symm hne)).trans q, hne⟩, fun b hb => ?_⟩
    · have e1 : ((i + 1 : Nat) : Int) = (i : Int) + 1 := by omega
      rw [e1]; exact he'
    · have hb' : b < s.heap.objs.size := by
        have e' : b = e ∨ b = it := by simpa using hb
        rcases e' with z | z
        · rw [z]; exact hel
        · rw [z]; exact hil
      rw [upd_ne (Nat.ne_of_lt hb')]
      exact (hf b hb).1
  done := by
    intro X hP hw hK hc i pins s σ H E I hf st hg
    subst hP hw hK
    obtain ⟨⟨old, he⟩, hit, hne⟩ := st
    obtain ⟨xs, hq, hx⟩ := hg
    obtain ⟨its, rv, p, hz⟩ := I.tuple hq
    have p' : s.heap.IsTuple a its.toArray := p
    obtain ⟨f0, f1, f2, f3, f4, f5⟩ := hf it (by simp)
    have hl := rv.length
    have hT : s.TypeIs (.ref e) "enumerate" := ⟨_, he, rfl⟩
    unfold pyNext
    refine wpAny_bind (wpAny_attempt (wpAny_callSpecial?_slot (name := Str.ofString "__next__") hT F.slot_enumerate_next
      (wpAny_call_entry F.slot_enumerate_next hT F.entry_enumerate_next ?_ (F.args_enumerate_next_1 _))))
    show wpAny _ _ (field (.ref e) 2 >>= _) _ _ _
    refine wpAny_bind (wpAny_field he rfl (x := .ref it) rfl ?_)
    refine wpAny_bind (wpAny_nextOf_tuple_end (I.ok.hd hc) hit p' (by simp; omega) fun h' x he' hx' => ?_)
    obtain ⟨o, ho, hc'⟩ := hx'
    refine wpAny_bind (wpAny_isInstance (T := "StopIteration") (b := true) ⟨o, ho, hc'⟩ isSubtype_stop ?_)
    exact wpAny_pure ⟨rfl, I.turned (t' := s.toks) (fun b o hb q => he' b o hb q) f0 f1 f3 f4 f5⟩
  self := fun A i s Q E st h => let ⟨⟨_, he⟩, _⟩ := st; wpAny_pyIter_enum he h
def iEnumT (K : PySem.W.Frag) (ta : TA) : TI := fun σ H R => ta σ H fun vs H1 => ∃ a xs, vs = [.ref a] ∧ SqT K H1 a xs ∧ R (IteT K a) H1
theorem pi_enumT {X : Cx} {e : Expr} {ta : TA} {p pos tpos : Pos} {elts : List Expr} {kk : Nat} (hg : Gl X "enumerate") (hm : X.mg "enumerate" = none) (ha : PA X [e] ta) (hs : starEach [e] X.env = [(false, eval e X.env)] := by rfl) :
    PI X (.Tuple elts kk tpos) (.Call (.Name "enumerate" p) [e] [] pos) (iEnumT X.K ta) := by
  refine ⟨fun pins s σ H R I h => ?_⟩
  refine Call_ (ld_blt I hg hm boot_enumerate (PyProof.Rows.callWith_type1 (thn (ha.run pos pins s σ H _ I h) fun us s1 ⟨vs, H1, I1, r1, q1⟩ => ?_) hs rfl))
  obtain ⟨a, xs, ex, hq, q⟩ := q1
  subst ex
  cases r1 with
  | cons r rr =>
    cases rr
    cases r
    obtain ⟨its, rv, p', hz⟩ := I1.tuple hq
    refine call_enumT (show s1.heap.IsTuple a its.toArray from p') fun h' he hit hsz hk => wpAny_pyIter_enum he ?_
    have I2 : Inv X pins σ H1 { s1 with heap := h' } := I1.kept (t' := s1.toks) hk
    refine ⟨s1.heap.objs.size + 1, [s1.heap.objs.size + 1, s1.heap.objs.size], _, _, H1, rfl, I2, turn_enumT a (s1.heap.objs.size + 1) s1.heap.objs.size, ⟨⟨.none, he⟩, hit, Nat.succ_ne_self _⟩, fun b hb => ?_, q⟩
    have e' : b = s1.heap.objs.size + 1 ∨ b = s1.heap.objs.size := by simpa using hb
    have hle : s1.heap.objs.size ≤ b := by
      rcases e' with z | z
      · rw [z]; exact Nat.le_add_right _ _
      · rw [z]; exact Nat.le_refl _
    exact I1.fpOk hle (I1.hok.fresh hle)
end L3G
namespace L3
open PySem L2
open Evl (Ex ex_rd ex_l ex_t sq_of st_of fresh_back)
/-- (0, x), (1, y), .. -/
def enumI {α : Type} : Nat → List α → List (Int × α)
  | _, [] => []
  | n, x :: xs => ((n : Int), x) :: enumI (n + 1) xs
theorem enumI_len {α : Type} : ∀ (n : Nat) (xs : List α), (enumI n xs).length = xs.length
  | _, [] => rfl
  | n, _ :: xs => congrArg (· + 1) (enumI_len (n + 1) xs)
theorem enumI_get {α : Type} : ∀ {n i : Nat} {xs : List α} {q : Int × α}, (enumI n xs)[i]? = some q → q.1 = ((n + i : Nat) : Int) ∧ xs[i]? = some q.2
  | _, _, [], _, h => by simp [enumI] at h
  | n, 0, x :: xs, q, h => by
    obtain rfl : ((n : Int), x) = q := by simpa [enumI] using h
    exact ⟨rfl, rfl⟩
  | n, i + 1, x :: xs, q, h => by
    obtain ⟨h1, h2⟩ := enumI_get (n := n + 1) (i := i) (xs := xs) (q := q) (by simpa [enumI] using h)
    refine ⟨h1.trans ?_, h2⟩
    congr 1
    omega
section
variable {K : Fg} {M : Fr} {σ : St} {B : Hp} {L L1 L2 L' : List Cell} {α β γ δ : Type} {r : Rep α} {te : TE}
theorem ei_enumT {xs : List α} (h : EV K M te σ B L (rTup r) xs L') : EI K M (L3G.iEnumT K (tCons te tNil)) σ B L (rT2 rInt r) (enumI 0 xs) L' := fun B1 H e w R q => h B1 H e w _ fun v B2 H2 e2 w2 hv => by
  obtain ⟨p, vs, rfl, hs, hp⟩ := hv
  refine ⟨p, vs, rfl, ex_t w2.b hs, q _ B2 H2 e2 w2 ⟨fun i a B' L' H' e' w' hi => ?_, fun B' L' H' e' w' => ⟨vs, ex_t (e'.trans w'.b) hs, by rw [enumI_len, paired_len hp]; exact Nat.le_refl _⟩⟩⟩
  obtain ⟨h1, h2⟩ := enumI_get hi
  obtain ⟨x, hx, hr⟩ := paired_get hp h2
  refine ⟨⟨vs, x, ex_t (e'.trans w'.b) hs, hx⟩, fun y H3 hy => ?_⟩
  obtain ⟨T, z, rfl, hT, rfl, hy⟩ := hy
  have := hy vs (ex_t (e'.trans w'.b) hs)
  rw [hx] at this
  cases this
  have eN := Ex.new (o := HO.tup [.int (i : Nat), x]) (fresh_back w'.b hT)
  exact ⟨upd B' T _, eN, w'.ext hT, ⟨T, _, _, rfl, st_of upd_same, by rw [h1]; show V.int _ = V.int _; congr 1; simp, r.mono (e'.trans eN) hr⟩⟩
theorem ei_enumL {xs : List α} (h : EV K M te σ B L (rLst r) xs L') : EI K M (iEnum K (tCons te tNil)) σ B L (rT2 rInt r) (enumI 0 xs) L' := fun B1 H e w R q => h B1 H e w _ fun v B2 H2 e2 w2 hv => by
  obtain ⟨p, vs, rfl, hs, hp⟩ := rl_sc hv
  refine ⟨p, vs, rfl, ex_l w2.b hs, q _ B2 H2 e2 w2 ⟨fun i a B' L' H' e' w' hi => ?_, fun B' L' H' e' w' => ⟨vs, ex_l (e'.trans w'.b) hs, by rw [enumI_len, paired_len hp]; exact Nat.le_refl _⟩⟩⟩
  obtain ⟨h1, h2⟩ := enumI_get hi
  obtain ⟨x, hx, hr⟩ := paired_get hp h2
  refine ⟨⟨vs, x, ex_l (e'.trans w'.b) hs, hx⟩, fun y H3 hy => ?_⟩
  obtain ⟨T, z, rfl, hT, rfl, hy⟩ := hy
  have := hy vs (ex_l (e'.trans w'.b) hs)
  rw [hx] at this
  cases this
  have eN := Ex.new (o := HO.tup [.int (i : Nat), x]) (fresh_back w'.b hT)
  exact ⟨upd B' T _, eN, w'.ext hT, ⟨T, _, _, rfl, st_of upd_same, by rw [h1]; show V.int _ = V.int _; congr 1; simp, r.mono (e'.trans eN) hr⟩⟩
end
end L3

/-! a tuple backwards -/
namespace L3G
open PySem PySem.Spec PyProof.Rows L2 HT
section
variable {prog : Program} {w : World} {A : Around} {E : Value → Shared → Prop} {s : Shared}
theorem adjust_back (n : Nat) : Builtin.Slice.sliceAdjust none none (-1) (n : Int) = ((n : Int) - 1, -1) := by
  unfold Builtin.Slice.sliceAdjust
  simp
theorem places_back (n : Nat) : Builtin.Slice.slicePlaces ((n : Int) - 1) (-1) (-1) = n := by
  unfold Builtin.Slice.slicePlaces
  simp
  omega
theorem fm_some {α β : Type} {f : α → Option β} {g : α → β} : ∀ {l : List α}, (∀ m ∈ l, f m = some (g m)) → l.filterMap f = l.map g
  | [], _ => rfl
  | x :: l, h => by
    rw [List.filterMap_cons, h x List.mem_cons_self, List.map_cons, fm_some fun m hm => h m (List.mem_cons_of_mem _ hm)]
theorem pick_back (xs : Array Value) : ((List.range xs.size).filterMap fun (m : Nat) => xs[(((xs.size : Int) - 1) + (m : Int) * (-1)).toNat]?).toArray = xs.toList.reverse.toArray := by
  congr 1
  have e : ∀ m ∈ List.range xs.size, xs[(((xs.size : Int) - 1) + (m : Int) * (-1)).toNat]? = some ((xs.toList.reverse).getD m .none) := fun m hm => by
    have hm := List.mem_range.mp hm
    have e1 : (((xs.size : Int) - 1) + (m : Int) * (-1)).toNat = xs.size - 1 - m := by omega
    rw [e1, List.getD_eq_getElem?_getD, List.getElem?_reverse (by simpa using hm), Array.length_toList, Array.getElem?_toList]
    cases q : xs[xs.size - 1 - m]? with
    | none => have := Array.getElem?_eq_none_iff.mp q; omega
    | some v => rfl
  rw [fm_some e]
  refine List.ext_getElem? fun i => ?_
  rw [List.getElem?_map]
  by_cases hi : i < xs.size
  · rw [List.getElem?_range hi]
    have hl : i < xs.toList.reverse.length := by simpa using hi
    simp only [Option.map_some]
    rw [List.getD_eq_getElem?_getD, List.getElem?_eq_getElem hl]
    rfl
  · rw [List.getElem?_eq_none (by simpa using hi), List.getElem?_eq_none (by simpa using hi)]
    rfl
theorem sliceApplied_back {sl : Addr} {n : Nat} {vs : Value} {Q : Int × Int × Nat → Shared → Prop} (hs : s.heap.IsSliceOf sl .none .none vs) (pv : IsPart vs (some (-1)))
    (h : Q ((n : Int) - 1, -1, n) s) : wpAny (model prog w) A (Builtin.Slice.sliceApplied (.ref sl) (pure (n : Int))) Q E s := by
  obtain ⟨os, hos, hcs, hds⟩ := id hs
  unfold Builtin.Slice.sliceApplied Builtin.Slice.sliceFields
  refine wpAny_bind (wpAny_bind (wpAny_field hos hds (x := .none) rfl (wpAny_bind (wpAny_field hos hds (x := .none) rfl (wpAny_bind (wpAny_field hos hds (x := vs) rfl (wpAny_pure ?_)))))))
  refine wpAny_bind (slicePart_ pv ?_)
  show wpAny _ _ (if ((-1 : Int) == 0) = true then _ else _) _ _ s
  rw [if_neg (by decide)]
  refine wpAny_bind (slicePart_ (o := none) .none (wpAny_bind (slicePart_ (o := none) .none (wpAny_bind (wpAny_pure ?_)))))
  show wpAny _ _ (match Builtin.Slice.sliceAdjust none none (-1) (n : Int) with | (lo, hi) => pure (lo, (-1 : Int), Builtin.Slice.slicePlaces lo hi (-1))) _ _ s
  rw [adjust_back]
  show wpAny _ _ (pure ((n : Int) - 1, (-1 : Int), Builtin.Slice.slicePlaces ((n : Int) - 1) (-1) (-1))) _ _ s
  rw [places_back]
  exact wpAny_pure h
theorem getItem_tuple_back {t sl : Addr} {items : Array Value} {vs : Value} {Q : Value → Shared → Prop} (ht : IsTup s.heap t items) (hs : s.heap.IsSliceOf sl .none .none vs) (pv : IsPart vs (some (-1)))
    (h : Q (.ref s.heap.objs.size) { s with heap := s.heap.push { cls := .type "tuple", data := .seq items.toList.reverse.toArray } })
    (hsz : items.size ≤ sizeLine) : wpAny (model prog w) A (getItem (.ref t) (.ref sl)) Q E s := by
  have htake : sizeOk (.seq items.toList.reverse.toArray) := by
    show items.toList.reverse.toArray.size ≤ sizeLine
    rw [List.size_toArray, List.length_reverse, Array.length_toList]
    exact hsz
  obtain ⟨os, hos, hcs, hds⟩ := id hs
  have hTs : s.TypeIs (.ref sl) "slice" := ⟨os, hos, hcs⟩
  unfold getItem
  try with_reducible refine wpAny_holding ?_
  first | refine wpAny_bind (wpAny_pure ?_) | skip
  refine wpAny_bind (wpAny_sequenceKey ht.typeIs (by decide) ?_)
  refine wpAny_bind (wpAny_callSpecial?_slot (name := Str.ofString "__getitem__") ht.typeIs PyProof.Rows.slot_tuple_getitem
    (wpAny_call_entry PyProof.Rows.slot_tuple_getitem ht.typeIs PyProof.Rows.entry_tuple_getitem ?_ (PyProof.Rows.args_tuple_getitem _ _)))
  show wpAny _ _ (Builtin.Tuple.tupleItemsOf (.ref t) >>= _) _ _ s
  refine wpAny_bind (tupleItemsOf_ ht ?_)
  refine wpAny_bind (wpAny_typeOf hTs ?_)
  rw [if_pos (by decide)]
  refine wpAny_bind (sliceApplied_back hs pv ?_)
  have hno : ¬ ((((items.size : Int) - 1) == 0 && (-1 : Int) == 1 && items.size == items.size) = true) := by
    intro q
    rw [Bool.and_eq_true, Bool.and_eq_true] at q
    exact absurd q.1.2 (by decide)
  show wpAny _ _ (if (((items.size : Int) - 1) == 0 && (-1 : Int) == 1 && items.size == items.size) = true then _ else _) _ _ s
  rw [if_neg hno, pick_back]
  first
    | exact wpAny_bind (m := Builtin.Tuple.tupleExact _) (wpAny_newObj_type (wpAny_pure ⟨_, rfl, wpAny_pure h⟩) htake)
    | exact wpAny_bind (m := Builtin.Tuple.tupleExact _) (wpAny_newObj_type (wpAny_bind (wpAny_pure (wpAny_pure ⟨_, rfl, wpAny_pure h⟩))) htake)
    | exact wpAny_bind (wpAny_bind (m := Builtin.Tuple.tupleExact _) (wpAny_newObj_type (wpAny_pure (wpAny_pure ⟨_, rfl, wpAny_pure h⟩)) htake))
    | exact wpAny_bind (wpAny_bind (m := Builtin.Tuple.tupleExact _) (wpAny_newObj_type (wpAny_pure ⟨_, rfl, wpAny_pure h⟩) htake))
end
def tRevT (K : PySem.W.Frag) (te : TE) : TE := fun σ H Q => te σ H fun x H1 => ∃ a xs, x = .ref a ∧ SqT K H1 a xs ∧ ∀ p, H1 p = none → Q (.ref p) (upd H1 p (.tup xs.reverse))
theorem pe_revT {X : Cx} {e : Expr} {te : TE} {k : Nat} {p1 p2 p3 pos : Pos} (he : PE X e te) : PE X (.Subscript e (.Slice none none (some (.UnaryOp .USub (.Constant (.int 1) k p1) p2)) p3) pos) (tRevT X.K te) := by
  refine ⟨fun pins s σ H Q I h => ?_⟩
  refine Subscript_ (thn (he.run pins s σ H _ I h) fun v s1 ⟨x, H1, I1, r1, q1⟩ => ?_)
  obtain ⟨a, xs, ex, hx, q⟩ := q1
  subst ex
  cases r1
  have hst : PO X (some (.UnaryOp .USub (.Constant (.int 1) k p1) p2)) (tPart (tUn (rU fun i => .int (-i)) (tC (.int 1)))) := po_some (pe_un un_neg pe_int)
  refine wpAny_Slice ?_
  rw [evalPart_none]
  refine wpAny_pure ?_
  refine wpAny_pure ?_
  refine thn (hst.run pins s1 σ H1 (fun o H4 => o = some (-1) ∧ H4 = H1) I1 ⟨1, rfl, -1, rfl, rfl, rfl⟩) fun vs s4 ⟨o, H4, I4, ps, eo, e4⟩ => ?_
  subst eo e4
  have I5 : Inv X pins σ H4 { s4 with heap := s4.heap.push { cls := .type "slice", data := .fields #[.none, .none, vs] } } := I4.kept (t' := s4.toks) fun b ob q => Heap.get?_push_of_some _ q
  obtain ⟨its, r, ht, hz⟩ := I5.tuple hx
  have hlen := r.length
  show wpAny (model X.prog X.w) X.A (subscriptTail e (.Slice none none (some (.UnaryOp .USub (.Constant (.int 1) k p1) p2)) p3) (.ref a) (.ref s4.heap.objs.size)) (EP X pins σ Q) X.xe { s4 with heap := s4.heap.push { cls := .type "slice", data := .fields #[.none, .none, vs] } }
  refine tail_any (ops := [.ref a, .ref s4.heap.objs.size]) ht.typeIs (PyProof.Rows.slot_tuple_getitem.lookup) ?_ (by with_unfolding_all rfl)
  refine getItem_tuple_back ht (Heap.IsSliceOf.new _ .none .none vs) ps ?_ (by rw [List.size_toArray]; omega)
  refine ⟨.ref _, _, I5.laid (t' := s4.toks) (o := .tup xs.reverse) (fun b ob q => Heap.get?_push_of_some _ q) (Nat.le_refl _) ?_, rfl, q _ (I5.hok.fresh (Nat.le_refl _))⟩
  exact ⟨by rw [List.length_reverse]; exact hz, _, r.reverse, IsTup.new _ _⟩
end L3G
namespace L3
open PySem L2
open Evl (Ex ex_rd ex_l ex_t sq_of st_of fresh_back)

/-! ### comprehensions -/
def compM {S α β : Type} (f : S → α → Option (Option β × S)) : S → List α → Option (List β × S)
  | s, [] => some ([], s)
  | s, x :: xs => match f s x with
    | some (o, s') => (match compM f s' xs with
      | some (ys, s2) => some (o.toList ++ ys, s2)
      | none => none)
    | none => none
section
variable {K : Fg} {M : Fr} {σ : St} {B : Hp} {L L1 L2 L' : List Cell} {α β γ δ : Type} {r : Rep α} {s : Rep β} {t : Rep γ} {ta tb tc te : TE} {tt tu : TT} {tA : TA} {i j k : Int} {b c : Bool} {wi : TI} {g : TG}
theorem compM_len {S : Type} {f : S → α → Option (Option β × S)} : ∀ {xs : List α} {s0 s1 : S} {ys : List β}, compM f s0 xs = some (ys, s1) → ys.length ≤ xs.length
  | [], _, _, _, h => by obtain ⟨rfl, _⟩ := Prod.mk.inj (Option.some.inj h); exact Nat.le_refl _
  | x :: xs, s0, s1, ys, h => by
    unfold compM at h
    cases e : f s0 x with
    | none => rw [e] at h; cases h
    | some q =>
      obtain ⟨o, s'⟩ := q
      rw [e] at h
      dsimp only at h
      cases e2 : compM f s' xs with
      | none => rw [e2] at h; cases h
      | some q2 =>
        obtain ⟨zs, s2⟩ := q2
        rw [e2] at h
        obtain ⟨rfl, _⟩ := Prod.mk.inj (Option.some.inj h)
        have := compM_len e2
        cases o <;> simp <;> omega
theorem lc_yes {PY : VK} {PN : Hp → Prop} {H : Hp} (h : te σ H PY) : tYes σ H fun b H3 => if b = true then te σ H3 PY else PN H3 := by
  show (if true = true then te σ H PY else PN H)
  rw [if_pos rfl]
  exact h
theorem lc_if {b : Bool} {X Y : Prop} (h1 : b = true → X) (h2 : b = false → Y) : if b = true then X else Y := by
  cases b with
  | true => rw [if_pos rfl]; exact h1 rfl
  | false => rw [if_neg Bool.false_ne_true]; exact h2 rfl
theorem el_lc {S : Type} {vs : List Nat} {σ' : St} {xs : List α} {ys : List β} {s0 s1 : S} (s : Rep β) (hi : EI K M wi σ B L r xs L1) (f : S → α → Option (Option β × S)) (Lf : S → List Cell) (hL : Lf s0 = L1) (hm : compM f s0 xs = some (ys, s1)) (hr : room xs.length = some ()) (hw : wipe σ vs = σ')
    (hs : ∀ st x o st' v D acc B' H', f st x = some (o, st') → Ex B B' → Own K B' M (⟨D, cLst s, acc⟩ :: Lf st) H' → r.is K B' v x → ∀ (PY : VK) (PN : Hp → Prop),
      (∀ y B2 H2 b, o = some b → Ex B' B2 → Own K B2 M (⟨D, cLst s, acc⟩ :: Lf st') H2 → s.is K B2 y b → PY y H2) → (∀ B2 H2, o = none → Ex B' B2 → Own K B2 M (⟨D, cLst s, acc⟩ :: Lf st') H2 → PN H2) →
      g v σ' H' fun σ2 H2 => wipe σ2 vs = σ' ∧ tt σ2 H2 fun b H3 => if b = true then te σ2 H3 PY else PN H3) :
    EVL K M (tLc wi g tt te vs) σ B L s ys (Lf s1) := fun B1 H e w Q q => by
  refine hi B1 H e w _ fun J B2 H2 e2 w2 wk => ?_
  intro D hD
  subst hL
  subst hw
  have w3 : Own K B2 M (⟨D, cLst s, []⟩ :: Lf s0) (upd H2 D (.lst [])) := w2.new hD ⟨[], rfl, .nil⟩
  refine ⟨fun i m H' => m = xs.length - i ∧ i ≤ xs.length ∧ ∃ st acc B', Ex B2 B' ∧ Own K B' M (⟨D, cLst s, acc⟩ :: Lf st) H' ∧ acc.length ≤ i ∧ ∃ zs, compM f st (xs.drop i) = some (zs, s1) ∧ acc ++ zs = ys,
    ⟨_, rfl, Nat.zero_le _, s0, [], B2, Ex.refl _, w3, Nat.zero_le _, ys, hm, rfl⟩, ?_⟩
  rintro i m H' ⟨rfl, hil, st, acc, B', eb, w', hacc, zs, hz, hzs⟩
  by_cases hl : i = xs.length
  · subst hl
    rw [List.drop_length] at hz
    obtain ⟨rfl, rfl⟩ := Prod.mk.inj (Option.some.inj hz)
    rw [List.append_nil] at hzs
    subst hzs
    exact .inl ⟨wk.stop B' _ H' eb w', q D B' H' (e2.trans eb) w'⟩
  · have hlt : i < xs.length := by omega
    rw [List.drop_eq_getElem_cons hlt] at hz
    have hx : xs[i]? = some xs[i] := List.getElem?_eq_getElem hlt
    obtain ⟨g1, g2⟩ := wk.go i xs[i] B' _ H' eb w' hx
    unfold compM at hz
    cases hf : f st xs[i] with
    | none => rw [hf] at hz; cases hz
    | some q2 =>
      obtain ⟨o, st'⟩ := q2
      rw [hf] at hz
      dsimp only at hz
      cases hc : compM f st' (xs.drop (i + 1)) with
      | none => rw [hc] at hz; cases hz
      | some q3 =>
        obtain ⟨zs', s2⟩ := q3
        rw [hc] at hz
        obtain ⟨rfl, rfl⟩ := Prod.mk.inj (Option.some.inj hz)
        refine .inr ⟨g1, fun H5 => i + 1 ≤ xs.length ∧ ∃ st acc B', Ex B2 B' ∧ Own K B' M (⟨D, cLst s, acc⟩ :: Lf st) H5 ∧ acc.length ≤ i + 1 ∧ ∃ zs, compM f st (xs.drop (i + 1)) = some (zs, s2) ∧ acc ++ zs = ys, fun H5 h5 => ⟨xs.length - (i + 1), by omega, rfl, h5⟩, fun x H4 hy => ?_⟩
        obtain ⟨B4, e4, w4, hrx⟩ := g2 x H4 hy
        have hb := (e.trans e2).trans (eb.trans e4)
        refine hs st xs[i] o st' x D acc B4 H4 hf hb w4 hrx (fun y H6 => ∃ acc', H6 D = some (.lst acc') ∧ acc'.length < sizeLine ∧ (fun H5 => i + 1 ≤ xs.length ∧ ∃ st acc B', Ex B2 B' ∧ Own K B' M (⟨D, cLst s, acc⟩ :: Lf st) H5 ∧ acc.length ≤ i + 1 ∧ ∃ zs, compM f st (xs.drop (i + 1)) = some (zs, s2) ∧ acc ++ zs = ys) (upd H6 D (.lst (acc' ++ [y])))) _ (fun y B5 H5 b' ho e5 w5 hyb => ?_) fun B5 H5 ho e5 w5 => ?_
        · subst ho
          obtain ⟨⟨o', a1, vs', a2, a3⟩, _⟩ := w5.at (i := 0) rfl
          have a1 : H5 D = some o' := a1
          refine ⟨vs', by rw [a1, a2], ?_, hlt, st', acc ++ [b'], B5, (eb.trans e4).trans e5, w5.set (i := 0) rfl (c' := cLst s) ⟨_, rfl, paired_app a3 (.cons hyb .nil)⟩, by simp; omega, zs', hc, by simpa using hzs⟩
          have hq := room_some hr
          have := paired_len a3
          have : vs'.length = acc.length := this
          omega
        · subst ho
          exact ⟨hlt, st', acc, B5, (eb.trans e4).trans e5, w5, by omega, zs', hc, by simpa using hzs⟩
/-! ### tuple(..), list(..) -/
theorem ev_tupOfL {xs : List α} (h : EV K M te σ B L (rLst r) xs L') : EV K M (tCB (fun xs H Q => ∃ p ys, xs = [.ref p] ∧ ((SqL K H p ys ∧ ∀ l, H l = none → Q (.ref l) (upd H l (.tup ys))) ∨ (SqT K H p ys ∧ Q (.ref p) H))) (tCons te tNil)) σ B L (rTup r) xs L' := fun B1 H e w Q q =>
  h B1 H e w _ fun v B2 H2 e2 w2 hv => by
    obtain ⟨p, vs, rfl, hs, hp⟩ := rl_sc hv
    refine ⟨p, vs, rfl, .inl ⟨ex_l w2.b hs, fun l hl => ?_⟩⟩
    have eN := Ex.new (o := HO.tup vs) (fresh_back w2.b hl)
    exact q _ (upd B2 l _) _ (e2.trans eN) (w2.ext hl) ⟨l, vs, rfl, st_of upd_same, paired_mono eN hp⟩
theorem ev_tupOfT {xs : List α} (h : EV K M te σ B L (rTup r) xs L') : EV K M (tCB (fun xs H Q => ∃ p ys, xs = [.ref p] ∧ ((SqL K H p ys ∧ ∀ l, H l = none → Q (.ref l) (upd H l (.tup ys))) ∨ (SqT K H p ys ∧ Q (.ref p) H))) (tCons te tNil)) σ B L (rTup r) xs L' := fun B1 H e w Q q =>
  h B1 H e w _ fun v B2 H2 e2 w2 hv => by
    obtain ⟨p, vs, rfl, hs, hp⟩ := hv
    exact ⟨p, vs, rfl, .inr ⟨ex_t w2.b hs, q _ B2 H2 e2 w2 ⟨p, vs, rfl, hs, hp⟩⟩⟩
theorem el_listOf {xs : List α} (h : EV K M te σ B L (rSeq r) xs L') : EVL K M (tCB (fun xs H Q => ∃ p ys, xs = [.ref p] ∧ (SqL K H p ys ∨ SqT K H p ys) ∧ ∀ l, H l = none → Q (.ref l) (upd H l (.lst ys))) (tCons te tNil)) σ B L r xs L' := fun B1 H e w Q q =>
  h B1 H e w _ fun v B2 H2 e2 w2 hv => by
    obtain ⟨p, vs, rfl, hs, hp⟩ := hv
    exact ⟨p, vs, rfl, hs.imp (ex_l w2.b) (ex_t w2.b), fun l hl => q l B2 _ e2 (w2.new hl ⟨vs, rfl, hp⟩)⟩
theorem el_listOfC {n : Nat} {p : Addr} {xs : List α} (h : EV K M te σ B L rRef p L') (hc : L'[n]? = some ⟨p, cLst r, xs⟩) : EVL K M (tCB (fun xs H Q => ∃ p ys, xs = [.ref p] ∧ (SqL K H p ys ∨ SqT K H p ys) ∧ ∀ l, H l = none → Q (.ref l) (upd H l (.lst ys))) (tCons te tNil)) σ B L r xs L' := fun B1 H e w Q q =>
  h B1 H e w _ fun v B2 H2 e2 w2 hv => by
    have hv : v = .ref p := hv
    subst hv
    obtain ⟨⟨o, h1, vs, h2, hp⟩, _⟩ := w2.at hc
    have h1 : H2 p = some o := h1
    exact ⟨p, vs, rfl, .inl (sq_of (by rw [h1, h2])), fun l hl => q l B2 _ e2 (w2.new hl ⟨vs, rfl, hp⟩)⟩
theorem ev_tupOfC {n : Nat} {p : Addr} {xs : List α} (h : EV K M te σ B L rRef p L') (hc : L'[n]? = some ⟨p, cLst r, xs⟩) : EV K M (tCB (fun xs H Q => ∃ p ys, xs = [.ref p] ∧ ((SqL K H p ys ∧ ∀ l, H l = none → Q (.ref l) (upd H l (.tup ys))) ∨ (SqT K H p ys ∧ Q (.ref p) H))) (tCons te tNil)) σ B L (rTup r) xs L' := fun B1 H e w Q q =>
  h B1 H e w _ fun v B2 H2 e2 w2 hv => by
    have hv : v = .ref p := hv
    subst hv
    obtain ⟨⟨o, h1, vs, h2, hp⟩, _⟩ := w2.at hc
    have h1 : H2 p = some o := h1
    refine ⟨p, vs, rfl, .inl ⟨sq_of (by rw [h1, h2]), fun l hl => ?_⟩⟩
    have eN := Ex.new (o := HO.tup vs) (fresh_back w2.b hl)
    exact q _ (upd B2 l _) _ (e2.trans eN) (w2.ext hl) ⟨l, vs, rfl, st_of upd_same, paired_mono eN hp⟩
/-! ### slices -/
def cutL (xs : List α) (lo hi : Option Int) : List α := (xs.drop (HT.sIx xs.length 0 lo)).take (HT.sIx xs.length xs.length hi - HT.sIx xs.length 0 lo)
theorem paired_cut {F : V → α → Prop} {xs : List V} {as : List α} (h : Paired F xs as) (lo hi : Option Int) : Paired F (cutV xs lo hi) (cutL as lo hi) := by
  unfold cutV cutL
  rw [paired_len h]
  exact paired_take _ (paired_drop _ h)
def EO (K : Fg) (M : Fr) (t : TO) (σ : St) (B : Hp) (L : List Cell) (o : Option Int) (L' : List Cell) : Prop :=
  ∀ B1 H, Ex B B1 → Own K B1 M L H → ∀ Q : Option Int → Hp → Prop, (∀ B2 H2, Ex B1 B2 → Own K B2 M L' H2 → Q o H2) → t σ H Q
theorem eo_none : EO K M tNoPart σ B L none L := fun B1 H e w Q q => q B1 H (Ex.refl _) w
theorem eo_some (h : EV K M te σ B L rInt i L') : EO K M (tPart te) σ B L (some i) L' := fun B1 H e w Q q => h B1 H e w _ fun v B2 H2 e2 w2 hv => ⟨i, hv, q B2 H2 e2 w2⟩
theorem cut_all {xs : List α} {lo hi : Option Int} (h1 : HT.sIx xs.length 0 lo = 0) (h2 : HT.sIx xs.length xs.length hi = xs.length) : cutL xs lo hi = xs := by
  unfold cutL
  rw [h1, h2]
  simp
theorem ev_slT {xs : List α} {tl th : TO} {lo hi : Option Int} (h : EV K M te σ B L (rTup r) xs L1) (hl : EO K M tl σ B L1 lo L2) (hh : EO K M th σ B L2 hi L') : EV K M (tSl (rSlA K) te tl th) σ B L (rTup r) (cutL xs lo hi) L' := fun B1 H e w Q q =>
  h B1 H e w _ fun v B2 H2 e2 w2 hv => hl B2 H2 (e.trans e2) w2 _ fun B3 H3 e3 w3 => hh B3 H3 ((e.trans e2).trans e3) w3 _ fun B4 H4 e4 w4 => by
    obtain ⟨p, vs, rfl, hs, hp⟩ := hv
    have e34 := e3.trans e4
    have hp4 := paired_mono e34 hp
    refine ⟨p, vs, rfl, ex_t w4.b (ex_t e34 hs), fun ⟨h1, h2⟩ => ?_, fun _ l hl => ?_⟩
    · refine q _ B4 H4 (e2.trans e34) w4 ⟨p, vs, rfl, ex_t e34 hs, ?_⟩
      rw [paired_len hp] at h1 h2
      rw [cut_all h1 h2]
      exact hp4
    · have eN := Ex.new (o := HO.tup (cutV vs lo hi)) (fresh_back w4.b hl)
      exact q _ (upd B4 l _) _ ((e2.trans e34).trans eN) (w4.ext hl) ⟨l, _, rfl, st_of upd_same, paired_mono eN (paired_cut hp4 lo hi)⟩
theorem el_slL {xs : List α} {tl th : TO} {lo hi : Option Int} (h : EV K M te σ B L (rLst r) xs L1) (hl : EO K M tl σ B L1 lo L2) (hh : EO K M th σ B L2 hi L') : EVL K M (tSl (rSlL K) te tl th) σ B L r (cutL xs lo hi) L' := fun B1 H e w Q q =>
  h B1 H e w _ fun v B2 H2 e2 w2 hv => hl B2 H2 (e.trans e2) w2 _ fun B3 H3 e3 w3 => hh B3 H3 ((e.trans e2).trans e3) w3 _ fun B4 H4 e4 w4 => by
    obtain ⟨p, vs, rfl, hs, hp⟩ := rl_sc hv
    have e34 := e3.trans e4
    exact ⟨p, vs, rfl, ex_l w4.b (ex_l e34 hs), fun l hl => q l B4 _ (e2.trans e34) (w4.new hl ⟨_, rfl, paired_cut (paired_mono e34 hp) lo hi⟩)⟩
theorem el_revL {xs : List α} (h : EV K M te σ B L (rLst r) xs L') : EVL K M (tRevL K te) σ B L r xs.reverse L' := fun B1 H e w Q q =>
  h B1 H e w _ fun v B2 H2 e2 w2 hv => by
    obtain ⟨p, vs, rfl, hs, hp⟩ := rl_sc hv
    exact ⟨p, vs, rfl, ex_l w2.b hs, fun l hl => q l B2 _ e2 (w2.new hl ⟨_, rfl, paired_rev hp⟩)⟩
theorem el_revC {n : Nat} {p : Addr} {xs : List α} (h : EV K M te σ B L rRef p L') (hc : L'[n]? = some ⟨p, cLst r, xs⟩) : EVL K M (tRevL K te) σ B L r xs.reverse L' := fun B1 H e w Q q =>
  h B1 H e w _ fun v B2 H2 e2 w2 hv => by
    have hv : v = .ref p := hv
    subst hv
    obtain ⟨⟨o, h1, vs, h2, hp⟩, _⟩ := w2.at hc
    have h1 : H2 p = some o := h1
    exact ⟨p, vs, rfl, sq_of (by rw [h1, h2]), fun l hl => q l B2 _ e2 (w2.new hl ⟨_, rfl, paired_rev hp⟩)⟩
theorem ev_revT {xs : List α} (h : EV K M te σ B L (rTup r) xs L') : EV K M (L3G.tRevT K te) σ B L (rTup r) xs.reverse L' := fun B1 H e w Q q =>
  h B1 H e w _ fun v B2 H2 e2 w2 hv => by
    obtain ⟨p, vs, rfl, hs, hp⟩ := hv
    refine ⟨p, vs, rfl, ex_t w2.b hs, fun l hl => ?_⟩
    have eN := Ex.new (o := HO.tup vs.reverse) (fresh_back w2.b hl)
    exact q _ (upd B2 l _) _ (e2.trans eN) (w2.ext hl) ⟨l, _, rfl, st_of upd_same, paired_mono eN (paired_rev hp)⟩
/-! ### tuples: +, * -/
def catT (xs ys : List α) : Option (List α) := if xs.length + ys.length ≤ 1000000 then some (xs ++ ys) else none
theorem ev_catT {xs ys zs : List α} (h : EV K M ta σ B L (rTup r) xs L1) (h' : EV K M tb σ B L1 (rTup r) ys L2) (hc : catT xs ys = some zs) : EV K M (tOp (rCatA K) ta tb) σ B L (rTup r) zs L2 := fun B1 H e w Q q =>
  h B1 H e w _ fun v B2 H2 e2 w2 hv => h' B2 H2 (e.trans e2) w2 _ fun u B3 H3 e3 w3 hu => by
    obtain ⟨p, vs, rfl, hs, hp⟩ := hv
    obtain ⟨p', us, rfl, hs', hp'⟩ := hu
    unfold catT at hc
    split at hc
    · rename_i hl
      obtain rfl := Option.some.inj hc
      have hp3 := paired_mono e3 hp
      have l1 := paired_len hp
      have l2 := paired_len hp'
      refine ⟨p, p', vs, us, rfl, rfl, ex_t w3.b (ex_t e3 hs), ex_t w3.b hs', Nat.le_trans (by omega) (show 1000000 ≤ sizeLine by decide), fun hz => ?_, fun _ hz => ?_, fun _ _ l hl => ?_⟩
      · subst hz
        have : xs = [] := List.length_eq_zero_iff.mp l1.symm
        subst this
        exact q _ B3 H3 (e2.trans e3) w3 ⟨p', us, rfl, hs', hp'⟩
      · subst hz
        have : ys = [] := List.length_eq_zero_iff.mp l2.symm
        subst this
        exact q _ B3 H3 (e2.trans e3) w3 ⟨p, vs, rfl, ex_t e3 hs, by rw [List.append_nil]; exact hp3⟩
      · have eN := Ex.new (o := HO.tup (vs ++ us)) (fresh_back w3.b hl)
        exact q _ (upd B3 l _) _ ((e2.trans e3).trans eN) (w3.ext hl) ⟨l, _, rfl, st_of upd_same, paired_mono eN (paired_app hp3 hp')⟩
    · cases hc
def repT (xs : List α) (k : Int) : Option (List α) := if xs ≠ [] ∧ 2 ≤ k ∧ k ≤ 1000 ∧ xs.length ≤ 1000 then some (List.replicate k.toNat xs).flatten else none
theorem paired_rep {F : V → α → Prop} {xs : List V} {as : List α} (h : Paired F xs as) : ∀ n : Nat, Paired F (List.replicate n xs).flatten (List.replicate n as).flatten
  | 0 => .nil
  | n + 1 => by
    rw [List.replicate_succ, List.replicate_succ, List.flatten_cons, List.flatten_cons]
    exact paired_app h (paired_rep h n)
theorem ev_repT {xs zs : List α} (h : EV K M ta σ B L (rTup r) xs L1) (h' : EV K M tb σ B L1 rInt k L2) (hc : repT xs k = some zs) : EV K M (tOp (rRepT K) ta tb) σ B L (rTup r) zs L2 := fun B1 H e w Q q =>
  h B1 H e w _ fun v B2 H2 e2 w2 hv => h' B2 H2 (e.trans e2) w2 _ fun u B3 H3 e3 w3 hu => by
    obtain ⟨p, vs, rfl, hs, hp⟩ := hv
    unfold repT at hc
    split at hc
    · rename_i hl
      obtain ⟨l0, l1, l2, l3⟩ := hl
      obtain rfl := Option.some.inj hc
      have hp3 := paired_mono e3 hp
      have ll := paired_len hp
      refine ⟨p, k, vs, rfl, hu, ex_t w3.b (ex_t e3 hs), fun hz => l0 (by subst hz; exact List.length_eq_zero_iff.mp ll.symm), l1, l2, by omega, fun l hl => ?_⟩
      have eN := Ex.new (o := HO.tup (List.replicate k.toNat vs).flatten) (fresh_back w3.b hl)
      exact q _ (upd B3 l _) _ ((e2.trans e3).trans eN) (w3.ext hl) ⟨l, _, rfl, st_of upd_same, paired_mono eN (paired_rep hp3 _)⟩
    · cases hc
/-! ### typed values as data -/
def DQ (r : Rep α) (f : α → PyData) : Prop := ∀ K B v a, r.is K B v a → Dp K B v (f a)
theorem dq_int : DQ rInt PyData.int := dr_int.dp
theorem dq_bool : DQ rBool PyData.bool := dr_bool.dp
theorem dq_non : DQ rNon dNon := dr_non.dp
theorem dq_str : DQ rStr PyData.str := fun _ _ _ a h => by have h : _ = V.str a := h; subst h; exact .str a
theorem dq_dat : DQ rDat id := fun _ _ _ _ h => h
theorem dq_tup {f : α → PyData} (d : DQ r f) : DQ (rTup r) (dTup f) := fun K B v a ⟨p, xs, h1, h2, h3⟩ => by subst h1; exact .tup h2 (dpAll_of (d K B) h3)
theorem dq_lst {f : α → PyData} (d : DQ r f) : DQ (rLst r) (dLst f) := fun K B v a ⟨p, xs, h1, h2, h3⟩ => by subst h1; exact .lst (sq_of h2) (dpAll_of (d K B) h3)
theorem dq_T2 {f : α → PyData} {g : β → PyData} (d : DQ r f) (e : DQ s g) : DQ (rT2 r s) (dT2 f g) := fun K B v a ⟨p, x, y, h1, h2, h3, h4⟩ => by subst h1; exact .tup h2 (.cons (d _ _ _ _ h3) (.cons (e _ _ _ _ h4) .nil))
theorem dq_T3 {f : α → PyData} {g : β → PyData} {h : γ → PyData} (d : DQ r f) (e : DQ s g) (c : DQ t h) : DQ (rT3 r s t) (dT3 f g h) := fun K B v a ⟨p, x, y, z, h1, h2, h3, h4, h5⟩ => by subst h1; exact .tup h2 (.cons (d _ _ _ _ h3) (.cons (e _ _ _ _ h4) (.cons (c _ _ _ _ h5) .nil)))
theorem dq_opt {f : α → PyData} (d : DQ r f) : DQ (rOpt r) (dOpt f) := fun K B v a h => by
  cases a with
  | none => have h : v = .non := h; subst h; exact .non
  | some a => exact d _ _ _ _ h
theorem ev_dq {f : α → PyData} {a : α} (h : EV K M te σ B L r a L') (D : DQ r f) : EV K M te σ B L rDat (f a) L' := ev_as h fun _ _ h => D _ _ _ _ h
theorem ev_notND {d : PyData} (ha : EV K M ta σ B L rDat d L1) : EV K M (tNotN ta) σ B L rBool (!isNoneD d) L1 := fun B1 H e w Q q =>
  ha B1 H e w _ fun x B2 H2 e2 w2 hx => q _ B2 H2 e2 w2 (by
    show V.bl _ = V.bl _
    congr 1
    have hx : Dp K B2 x d := hx
    cases hx <;> rfl)
end
/-- a slot that may not be set yet -/
def slotIs {α : Type} (r : Rep α) (K : Fg) (B : Hp) (o : Option V) (x : Option α) : Prop := match x with
  | none => True
  | some a => ∃ v, o = some v ∧ r.is K B v a
theorem slot_mono {α : Type} {r : Rep α} {K : Fg} {B B' : Hp} {o : Option V} {x : Option α} (e : Ex B B') (h : slotIs r K B o x) : slotIs r K B' o x := by
  cases x with
  | none => trivial
  | some a => obtain ⟨v, h1, h2⟩ := h; exact ⟨v, h1, r.mono e h2⟩
theorem slot_get {α : Type} {r : Rep α} {K : Fg} {B : Hp} {o : Option V} {x : Option α} {a : α} (h : slotIs r K B o x) (e : x = some a) : ∃ v, o = some v ∧ r.is K B v a := by
  subst e; exact h
end L3

/-! () * k -/
namespace L3G
open PySem PySem.Spec PyProof.Rows L2
theorem tuple_mul0 (l : Addr) (n : Nat) (dd : Option Addr) (sl : Array (Option Value)) (x : Int) (u : Tok) (c0 : (decide (x < -(2 ^ 63)) || decide (x ≥ 2 ^ 63)) = false) :
    Meets (Builtin.«tuple.__mul__» ⟨[.ref l, .int x u], []⟩) (fun _ R s => s.heap.get? l = some { cls := .type "tuple", dict := dd, data := .seq #[] n, slots := sl } ∧
      R (.ok (.ret (Value.ref l))) s) :=
  .of_wp fun prog w A R s h => by
    obtain ⟨hp, g, d, tk, os⟩ := s
    obtain ⟨hl, h⟩ := h
    have f1 := AutoSeq1.idx_int
    wp_walk using wpAny_loadPart' hl
    repeat (first
      | (refine wpAny_ite_false (decide_eq_false (by rw [c0]; exact Bool.false_ne_true)) ?_; wp_walk using wpAny_loadPart' hl)
      | (refine wpAny_ite_true (decide_eq_true (by rfl)) ?_; wp_walk using wpAny_loadPart' hl))
    exact ⟨_, rfl, h⟩
def rRepA (K : PySem.W.Frag) : R2 := fun x y H Q => rRepT K x y H Q ∨ ∃ l k, x = .ref l ∧ y = .int k ∧ SqT K H l [] ∧ 0 ≤ k ∧ k ≤ 1000 ∧ Q (.ref l) H
theorem op_repA {X : Cx} : OpR X (binaryOp .Mult) (rRepA X.K) := by
  intro pins s σ H x y v u Q I rx ry h
  rcases h with h | h
  · exact op_repT pins s σ H x y v u Q I rx ry h
  · obtain ⟨l, k, rfl, rfl, hT, h1, h2, q⟩ := h
    cases rx
    obtain ⟨t, rfl⟩ := ry
    obtain ⟨its, r, ⟨⟨cls, dd, data, sl⟩, ho, hc, n, hd⟩, hs⟩ := I.tuple hT
    simp only at hc hd
    subst hc hd
    cases r
    have c0 : (decide (k < -(2 ^ 63)) || decide (k ≥ 2 ^ 63)) = false := by
      rw [decide_eq_false (by omega), decide_eq_false (by omega)] <;> rfl
    refine wpAny_binaryOp_repeat_ref (T := "tuple") (U := "int") (by decide) ⟨_, ho, rfl⟩ (fun s' => typeIs_int s' k t) noFill_tuple_mul F.fills_int_mul F.slot_int_rmul repeat_tuple F.slot_int_index.lookup
      (call_meets F.slot_int_rmul (typeIs_int s k t) F.entry_int_rmul (F.args_int_rmul_2 _ _) (int_rmul_tuple k t l #[] n dd sl)
        ⟨ho, rfl, ⟨_, ho, rfl⟩, call_meets F.slot_tuple_mul ⟨_, ho, rfl⟩ F.entry_tuple_mul (F.args_tuple_mul_2 _ _) (tuple_mul0 l n dd sl k t c0) ⟨ho, ?_⟩⟩)
    exact ⟨.ref l, H, I, rfl, q⟩
end L3G
namespace L3
open PySem L2
open Evl (Ex ex_rd ex_l ex_t sq_of st_of fresh_back)
section
variable {K : Fg} {M : Fr} {σ : St} {B : Hp} {L L1 L2 L' : List Cell} {α : Type} {r : Rep α} {ta tb : TE} {k : Int}
def repA (xs : List α) (k : Int) : Option (List α) := if 2 ≤ k ∧ k ≤ 1000 ∧ xs.length ≤ 1000 then some (List.replicate k.toNat xs).flatten else none
theorem rep_nil : ∀ n : Nat, (List.replicate n ([] : List α)).flatten = []
  | 0 => rfl
  | n + 1 => by rw [List.replicate_succ, List.flatten_cons, rep_nil n]; rfl
theorem ev_repA {xs zs : List α} (h : EV K M ta σ B L (rTup r) xs L1) (h' : EV K M tb σ B L1 rInt k L2) (hc : repA xs k = some zs) : EV K M (tOp (L3G.rRepA K) ta tb) σ B L (rTup r) zs L2 := fun B1 H e w Q q =>
  h B1 H e w _ fun v B2 H2 e2 w2 hv => h' B2 H2 (e.trans e2) w2 _ fun u B3 H3 e3 w3 hu => by
    obtain ⟨p, vs, rfl, hs, hp⟩ := hv
    unfold repA at hc
    split at hc
    · rename_i hl
      obtain ⟨l1, l2, l3⟩ := hl
      obtain rfl := Option.some.inj hc
      have hp3 := paired_mono e3 hp
      have ll := paired_len hp
      by_cases hn : vs = []
      · subst hn
        have hx : xs = [] := List.length_eq_zero_iff.mp ll.symm
        subst hx
        refine .inr ⟨p, k, rfl, hu, ex_t w3.b (ex_t e3 hs), by omega, l2, ?_⟩
        rw [rep_nil] at q
        exact q _ B3 H3 (e2.trans e3) w3 ⟨p, [], rfl, ex_t e3 hs, .nil⟩
      · refine .inl ⟨p, k, vs, rfl, hu, ex_t w3.b (ex_t e3 hs), hn, l1, l2, by omega, fun l hl => ?_⟩
        have eN := Ex.new (o := HO.tup (List.replicate k.toNat vs).flatten) (fresh_back w3.b hl)
        exact q _ (upd B3 l _) _ ((e2.trans e3).trans eN) (w3.ext hl) ⟨l, _, rfl, st_of upd_same, paired_mono eN (paired_rep hp3 _)⟩
    · cases hc
end
end L3

/-! dicts of ints by ints; sorted(d.items()) -/
namespace L3G
open PySem PySem.Spec PyProof.Rows L2
abbrev encI (kvs : List (Int × Int)) : List (Key × V) := kvs.map fun q => (Sum.inl q.1, V.int q.2)
def rSortI : V → Hp → VK → Prop := fun x H Q => ∃ (d : Addr) (kvs : List (Int × Int)), x = .ref d ∧ H d = some (.dK (encI kvs)) ∧
  ∀ (H' : Hp) (p : Addr) (ts : List Addr) (ys : List (Int × Int)), (∀ b o, H b = some o → H' b = some o) → (∀ t ∈ ts, H t = none) → H' p = none → Paired (fun (t : Addr) (q : Int × Int) => H' t = some (.tup [.int q.1, .int q.2])) ts ys →
    ys.Perm kvs → ys.Pairwise (fun a b => SrtO.lexB b a = false) → Q (.ref p) (upd H' p (.lst (ts.map V.ref)))
def tSortI (te : TE) : TE := fun σ H Q => te σ H fun x H1 => rSortI x H1 Q
def ofH (H : Hp) (v : Value) : Int × Int := match v with
  | .ref a => (match H a with
    | some (.tup [.int x, .int y]) => (x, y)
    | _ => (0, 0))
  | _ => (0, 0)
section
variable {X : Cx} {e : Expr} {te : TE} {p apos cpos pos : Pos}
theorem tups_laid {pins : List (Addr × Obj)} {σ : L2.St} {H : Hp} {s : Shared} {h' : Heap} {tk lo : Nat} {kvs : List (Key × V)} {vs : List (Key × Value)} {as : List Addr} (I : Inv X pins σ H s) (hlo : s.heap.objs.size ≤ lo) (kv : KV kvs vs)
    (hk : ∀ b o, s.heap.get? b = some o → h'.get? b = some o) (hl : as.length = vs.length) (hG : PySem.W.KdxG (mixKind X.prog X.w) vs lo h' as) :
    ∃ H' : Hp, (∀ b o, H b = some o → H' b = some o) ∧ (∀ t ∈ as, H t = none) ∧ Paired (fun (t : Addr) (q : Key × V) => H' t = some (.tup [kV q.1, q.2])) as kvs ∧ Inv X pins σ H' { s with heap := h', toks := tk } := by
  have lk : kvs.length = vs.length := Paired.length kv
  have nd : as.Nodup := List.Pairwise.imp (fun {a b} (h : a < b) => Nat.ne_of_lt h) hG.rise
  have ge : ∀ t ∈ as, s.heap.objs.size ≤ t := fun t ht => Nat.le_trans hlo (Nat.le_of_lt (hG.above t ht))
  have new : ∀ t ∈ as, H t = none := fun t ht => I.hok.fresh (ge t ht)
  have atP := LiI.putT_at as kvs H (by omega) nd
  have off : ∀ b, b ∉ as → LiI.putT H as kvs b = H b := fun b h1 => LiI.putT_off as kvs _ h1
  have low : ∀ b o, s.heap.get? b = some o → b ∉ as := fun b o e z => absurd (Heap.lt_size e) (Nat.not_lt.mpr (ge b z))
  have kp : ∀ b u, H b = some u → (LiI.putT H as kvs) b = some u := fun b u e => by
    rw [off b (fun z => by rw [new b z] at e; cases e)]
    exact e
  refine ⟨LiI.putT H as kvs, kp, new, atP, ?_⟩
  refine I.call' (ch := []) rfl ⟨fun b o q _ _ _ => hk b o q, fun b o q _ _ _ => ⟨o.slots, hk b o q⟩, fun b o q n _ => ?_, fun b o q _ => ⟨o, hk b o q⟩, fun b xs q => kp b _ q, fun b o u q => kp b _ q, fun b ps q => ⟨#[], by rw [kp b _ q]; simp⟩⟩ (fun b u q => ?_) I.bare fun b z => by simp at z
  · rw [off b (low b o q)]
    exact n
  · by_cases hb : b ∈ as
    · obtain ⟨j, pk, e1, e2, e3⟩ := LiI.paired_ix atP hb
      rw [e3] at q
      cases q
      obtain ⟨key, k, x, f1, f2, f3⟩ := hG.pairs j b e1
      obtain ⟨qv, g1, g2, g3⟩ := LiI.paired_get kv e2
      rw [f1] at g1
      cases g1
      have rk : RelV (kV pk.1) key := by
        rw [g2]
        exact relV_key (show keyIs k key = true from f2)
      exact ⟨by show 2 ≤ sizeLine; decide, [key, x], .cons rk (.cons g3 .nil), ⟨_, f3, rfl, _, rfl⟩⟩
    · rw [off b hb] at q
      exact (I.hok b u q).stay (fun d v _ y => hk d v y) (fun d y => kp d _ y) fun d xs y => kp d _ y
theorem ofH_eq {H : Hp} {a : Addr} {q : Int × Int} (h : H a = some (.tup [.int q.1, .int q.2])) : ofH H (.ref a) = q := by
  show (match H a with | some (.tup [.int x, .int y]) => (x, y) | _ => (0, 0)) = q
  rw [h]
theorem ofH_is {H : Hp} : ∀ {as : List Addr} {kvs : List (Int × Int)}, Paired (fun (t : Addr) (q : Key × V) => H t = some (.tup [kV q.1, q.2])) as (encI kvs) → (as.map Value.ref).map (ofH H) = kvs
  | [], [], _ => rfl
  | [], _ :: _, h => by cases h
  | _ :: _, [], h => by cases h
  | a :: as, q :: kvs, h => by
    cases h with
    | cons h1 h2 =>
      rw [List.map_cons, List.map_cons, ofH_is h2]
      have h1 : H a = some (.tup [.int q.1, .int q.2]) := h1
      show ofH H (.ref a) :: kvs = _
      rw [ofH_eq h1]
theorem ofH_at {H : Hp} : ∀ {as : List Addr} {kvs : List (Int × Int)}, Paired (fun (t : Addr) (q : Key × V) => H t = some (.tup [kV q.1, q.2])) as (encI kvs) → ∀ {a}, a ∈ as → H a = some (.tup [.int (ofH H (.ref a)).1, .int (ofH H (.ref a)).2])
  | [], _, _, a, h => absurd h (by simp)
  | _ :: _, [], h, _, _ => by cases h
  | b :: as, q :: kvs, h, a, ha => by
    cases h with
    | cons h1 h2 =>
      rcases List.mem_cons.mp ha with e | ha
      · subst e
        have h1 : H a = some (.tup [.int q.1, .int q.2]) := h1
        have e : ofH H (.ref a) = q := ofH_eq h1
        rw [e]; exact h1
      · exact ofH_at h2 ha
theorem paired_self {H : Hp} : ∀ {ts : List Addr}, (∀ t ∈ ts, H t = some (.tup [.int (ofH H (.ref t)).1, .int (ofH H (.ref t)).2])) → Paired (fun (t : Addr) (q : Int × Int) => H t = some (.tup [.int q.1, .int q.2])) ts ((ts.map Value.ref).map (ofH H))
  | [], _ => .nil
  | t :: ts, h => .cons (h t List.mem_cons_self) (paired_self fun u hu => h u (List.mem_cons_of_mem _ hu))
theorem refs_of : ∀ {us : List Value}, (∀ u ∈ us, ∃ a, u = Value.ref a) → ∃ ts : List Addr, us = ts.map Value.ref
  | [], _ => ⟨[], rfl⟩
  | u :: us, h => by
    obtain ⟨a, rfl⟩ := h u List.mem_cons_self
    obtain ⟨ts, rfl⟩ := refs_of fun v hv => h v (List.mem_cons_of_mem _ hv)
    exact ⟨a :: ts, rfl⟩
/-- sorted(e.items()) -/
theorem pe_sortI (hc : X.calm = true) (he : PE X e te) (hg : Gl X "sorted") (hm : X.mg "sorted" = none) (hv : bootBuiltins "sorted" = some (.builtin "sorted")) (hbase : attributeBase e "items" X.env (eval e X.env) = eval e X.env := by rfl) (hline : (apos.endLine == cpos.line) = true := by rfl)
    (hs : starEach [.Call (.Attribute e "items" apos) [] [] cpos] X.env = (false, eval (.Call (.Attribute e "items" apos) [] [] cpos) X.env) :: starEach [] X.env := by rfl) :
    PE X (.Call (.Name "sorted" p) [.Call (.Attribute e "items" apos) [] [] cpos] [] pos) (tSortI te) := by
  refine ⟨fun pins s σ H Q I hq => ?_⟩
  refine wpAny_Call_Name_kw (ld_blt I hg hm hv ?_)
  refine PyProof.Rows.callWith_builtin1 ?_ hs (by rfl)
  rw [hs]
  show wpAny _ _ (spliced ((false, eval (.Call (.Attribute e "items" apos) [] [] cpos) X.env) :: backTo pos (starEach [] X.env))) _ _ s
  refine Calls.spliced_cons ?_
  refine wpAny_Call_method (T := "dict") (id := "dict.items") hbase rfl hline F.plainAttrs_dict F.slot_dict_items F.type_dict_items (thn (he.run pins s σ H _ I hq) fun u s1 ⟨x, H1, I1, rx, d, kvs, ex, hd, q⟩ => ?_)
  subst ex
  obtain rfl : u = Value.ref d := rx
  obtain ⟨hz, hs0, vs, kv, hdo⟩ := I1.hok d _ hd
  obtain ⟨ep, hat⟩ := hdo.dictAt
  have lk : (encI kvs).length = vs.length := Paired.length kv
  have I2 : Inv X pins σ H1 { s1 with heap := s1.heap.push { cls := .type "dict_items", data := .fields #[.ref d] } } := I1.kept (t' := s1.toks) fun b ob q => Heap.get?_push_of_some _ q
  refine ⟨hdo.typeIs, hdo.mapOf.noDict, ?_⟩
  show wpAny _ _ (callWith cpos (.builtin "dict.items") [.ref d] [] []) _ X.xe s1
  refine method_meetsIn F.slot_dict_items F.entry_dict_items rfl (PySem.evalArgs_none ⟨rfl, hdo.typeIs, F.args_dict_items_1 _, _, meets_dict_items (mixKind X.prog X.w) d hs0, ⟨vs, hdo⟩, ?_⟩)
  refine Calls.spliced_nil ?_
  refine Calls.call_function_entry kind_sorted plain_sorted entry_sorted (args_sorted1 _) ?_
  unfold Builtin.«sorted»
  refine wpAny_bind (m := checkCount "sorted" 1 1 _) (wpAny_pure ?_)
  have hh : X.A.in1.handled = none := I1.ok.hd hc
  refine wpAny_bind (PySem.W.kdx_collect (A := X.A.in1) (knd := mixKind X.prog X.w) (kvs := vs) (ep := ep) hh ⟨_, Heap.get?_push_size _ rfl, rfl, rfl⟩ (hat.push _) (by omega) fun h' tk as hk hl hG => ?_)
  obtain ⟨H', k1, k3, k6, J⟩ := tups_laid (tk := tk) I2 (Nat.le_refl _) kv hk hl hG
  have hz2 : (as.map Value.ref).length ≤ sizeLine := by rw [List.length_map, hl]; omega
  refine wpAny_bind (wpAny_newList ?_ hz2)
  have hoL : (h'.push (seqObj "list" (as.map Value.ref).toArray 0)).get? h'.objs.size = some (seqObj "list" (as.map Value.ref).toArray 0) := Heap.get?_push_size _ rfl
  have isP : ∀ v ∈ as.map Value.ref, Srt.IsPair h' v (ofH H' v).1 (ofH H' v).2 := fun v hv => by
    obtain ⟨t, ht, rfl⟩ := List.mem_map.mp hv
    have ha := ofH_at k6 ht
    obtain ⟨_, its2, r2, o, ho, hc, n, hd⟩ := J.hok _ _ ha
    obtain ⟨u1, u2, rfl, ri, rj⟩ := vals2 r2
    obtain ⟨t1, rfl⟩ := ri
    obtain ⟨t2, rfl⟩ := rj
    exact ⟨t, o, t1, t2, n, rfl, ho, hc, hd⟩
  refine wpAny_bind (wpAny_holding (wpAny_call_entry slot_list_sort ⟨_, hoL, rfl⟩ entry_list_sort (SrtO.list_sort_ord (n := 0) (SrtO.swo_lex (ofH H')) hoL hz2 (fun h2 => SrtO.pairs_sortableO (by omega) (fun v hm => (isP v hm).keeps fun b o e _ => Heap.get?_push_of_some _ e) fun o e => ?_) fun out hs hb => ⟨_, rfl, ?_⟩) (args_list_sort _)))
  · have e' : some o = some (seqObj "list" (as.map Value.ref).toArray 0) := e.symm.trans hoL
    cases e'
    intro c
    exact absurd (Value.type.inj c) (by decide)
  · refine wpAny_pure ⟨_, rfl, ?_⟩
    obtain ⟨ts, rfl⟩ := refs_of (us := out) fun u hu => by
      obtain ⟨t, _, e⟩ := List.mem_map.mp (hb.perm.mem_iff.mp hu)
      exact ⟨t, e.symm⟩
    have mem : ∀ t ∈ ts, t ∈ as := fun t ht => by
      obtain ⟨t', h1, h2⟩ := List.mem_map.mp (hb.perm.mem_iff.mp (List.mem_map.mpr ⟨t, ht, rfl⟩))
      cases h2
      exact h1
    have hl2 := hb.perm.length_eq
    have e1 := ofH_is k6
    obtain ⟨n, hn⟩ := sortedHeap_at (out := (ts.map Value.ref).toArray) hoL
    have old : ∀ b o, h'.get? b = some o → (sortedHeap (h'.push (seqObj "list" (as.map Value.ref).toArray 0)) h'.objs.size (as.map Value.ref) (ts.map Value.ref).toArray).get? b = some o := fun b o e => by
      have := Heap.lt_size e
      rw [sortedHeap_old (Nat.ne_of_lt this) (by rw [size_push']; exact Nat.lt_succ_of_lt this)]
      exact Heap.get?_push_of_some _ e
    refine ⟨.ref h'.objs.size, _, J.laid (a := h'.objs.size) (o := .lst (ts.map V.ref)) (t' := tk) old (Nat.le_refl _) ?_, rfl, q H' h'.objs.size ts ((ts.map Value.ref).map (ofH H')) k1 (fun t ht => k3 t (mem t ht)) (J.hok.fresh (Nat.le_refl _)) (paired_self fun t ht => ofH_at k6 (mem t ht)) ?_ ?_⟩
    · refine ⟨by rw [List.length_map]; rw [List.length_map] at hl2; rw [hl2]; exact hz2, ts.map Value.ref, n, LiI.vals_refs ts, hn⟩
    · rw [← e1]
      exact hb.perm.map _
    · exact SrtO.srtd_map (lt := SrtO.lexB) hs
end
end L3G
namespace L3
open PySem L2
open Evl (Ex ex_rd ex_l ex_t sq_of st_of fresh_back)

/-! ### dicts of ints by ints -/
def putI : List (Int × Int) → Int → Int → List (Int × Int)
  | [], k, v => [(k, v)]
  | q :: kvs, k, v => if q.1 = k then (q.1, v) :: kvs.map (fun q => if q.1 = k then (q.1, v) else q) else q :: putI kvs k v
def leI (a b : Int × Int) : Bool := !SrtO.lexB b a
def sortI (l : List (Int × Int)) : List (Int × Int) := l.mergeSort leI
def cDk : CRep (List (Int × Int)) := ⟨fun _ _ o a => o = .dK (L3G.encI a), fun _ h => h⟩
theorem putI_cons_ne {q : Int × Int} {kvs : List (Int × Int)} {k v : Int} (h : q.1 ≠ k) : putI (q :: kvs) k v = q :: putI kvs k v := by
  show (if q.1 = k then _ else _) = _
  rw [if_neg h]
theorem enc_map (k v : Int) : ∀ kvs : List (Int × Int), (L3G.encI kvs).map (fun kv => if kv.1 = (Sum.inl k : Key) then (kv.1, V.int v) else kv) = L3G.encI (kvs.map fun q => if q.1 = k then (q.1, v) else q)
  | [] => rfl
  | q :: kvs => by
    have ih := enc_map k v kvs
    by_cases h : q.1 = k
    · show (if (Sum.inl q.1 : Key) = Sum.inl k then _ else _) :: (L3G.encI kvs).map _ = L3G.encI ((if q.1 = k then (q.1, v) else q) :: _)
      rw [ih, if_pos (by rw [h]), if_pos h]; rfl
    · show (if (Sum.inl q.1 : Key) = Sum.inl k then _ else _) :: (L3G.encI kvs).map _ = L3G.encI ((if q.1 = k then (q.1, v) else q) :: _)
      rw [ih, if_neg (fun z => h (Sum.inl.inj z)), if_neg h]; rfl
theorem enc_put (k v : Int) : ∀ kvs : List (Int × Int), putK (L3G.encI kvs) (Sum.inl k) (V.int v) = L3G.encI (putI kvs k v)
  | [] => rfl
  | q :: kvs => by
    by_cases h : q.1 = k
    · have e1 : ((L3G.encI (q :: kvs)).any fun kv => decide (kv.1 = (Sum.inl k : Key))) = true := by
        show (decide ((Sum.inl q.1 : Key) = Sum.inl k) || _) = true
        rw [h, decide_eq_true rfl, Bool.true_or]
      unfold putK
      rw [if_pos e1, enc_map]
      unfold putI
      rw [if_pos h, List.map_cons, if_pos h]
    · have ne : ¬ (Sum.inl q.1 : Key) = Sum.inl k := fun z => h (Sum.inl.inj z)
      have ih := enc_put k v kvs
      rw [putI_cons_ne h]
      unfold putK at ih ⊢
      have e0 : ((L3G.encI (q :: kvs)).any fun kv => decide (kv.1 = (Sum.inl k : Key))) = ((L3G.encI kvs).any fun kv => decide (kv.1 = (Sum.inl k : Key))) := by
        show (decide ((Sum.inl q.1 : Key) = Sum.inl k) || _) = _
        rw [decide_eq_false ne, Bool.false_or]
      rw [e0]
      by_cases ha : ((L3G.encI kvs).any fun kv => decide (kv.1 = (Sum.inl k : Key))) = true
      · rw [if_pos ha] at ih ⊢
        show (if (Sum.inl q.1 : Key) = Sum.inl k then _ else _) :: (L3G.encI kvs).map _ = _
        rw [if_neg ne, ih]
        rfl
      · rw [if_neg ha] at ih ⊢
        show _ :: (L3G.encI kvs ++ _) = _
        rw [ih]
        rfl
theorem sortI_eq {ys l : List (Int × Int)} (hp : ys.Perm l) (hs : ys.Pairwise (fun a b => SrtO.lexB b a = false)) : ys = sortI l := by
  refine List.Perm.eq_of_pairwise (le := fun a b => SrtO.lexB b a = false) (fun a b _ _ h1 h2 => ?_) hs ?_ (hp.trans (List.mergeSort_perm l leI).symm)
  · have a1 := SrtO.lexB_no.mp h1
    have a2 := SrtO.lexB_no.mp h2
    exact Prod.ext (by omega) (by omega)
  · refine (List.pairwise_mergeSort (le := leI) (fun a b c h1 h2 => ?_) (fun a b => ?_) l).imp fun {a b} h => ?_
    · unfold leI at *
      rw [Bool.not_eq_true'] at *
      have a1 := SrtO.lexB_no.mp h1
      have a2 := SrtO.lexB_no.mp h2
      refine SrtO.lexB_no.mpr ?_
      omega
    · unfold leI
      cases e : SrtO.lexB b a with
      | false => rfl
      | true =>
        have a1 := SrtO.lexB_iff.mp e
        have a2 : SrtO.lexB a b = false := SrtO.lexB_no.mpr (by omega)
        rw [a2]; rfl
    · unfold leI at h
      rwa [Bool.not_eq_true'] at h
theorem sortI_perm (l : List (Int × Int)) : (sortI l).Perm l := List.mergeSort_perm l leI
def rSetD : V → V → V → Hp → (Hp → Prop) → Prop := fun o i v H Q => ∃ a H4, o = .ref a ∧ DPut H a i v H4 ∧ Q H4
theorem set_dict {X : Cx} (hu : X.A.units + 1 < cLine) : PSet X rSetD := by
  intro pins s σ H o i v ov iv u Q I ro ri rv h
  obtain ⟨a, H4, rfl, g, q⟩ := h
  cases ro
  exact d_setItem hu I g ri rv fun s4 I4 => ⟨H4, I4, q⟩
section
variable {K : Fg} {M : Fr} {σ : St} {B H H' : Hp} {L L1 L2 L' : List Cell} {α β γ δ : Type} {r : Rep α} {s : Rep β} {ta tb tc te : TE} {tt tu : TT} {tA : TA} {i j k : Int} {D : Ends} {tz : TS}
theorem Own.grow (w : Own K B M L H) (k : ∀ b o, H b = some o → H' b = some o) : Own K B M L H' :=
  ⟨fun b u e => k b u (w.b b u e), fun b u e => k b u (w.m b u e), w.bm, fun x hx => by
    obtain ⟨⟨o, h1, h2⟩, h3⟩ := w.l x hx
    exact ⟨⟨o, k _ _ h1, h2⟩, h3⟩, w.nd, fun P hP => by
    obtain ⟨⟨ps, h1, h2⟩, h3⟩ := w.t P hP
    exact ⟨⟨ps, k _ _ h1, h2⟩, h3⟩⟩
/-- new things that stay -/
theorem Own.join {ts : List Addr} (w : Own K B M L H) (k : ∀ b o, H b = some o → H' b = some o) (new : ∀ t ∈ ts, H t = none) : Ex B (fun a => if a ∈ ts then H' a else B a) ∧ Own K (fun a => if a ∈ ts then H' a else B a) M L H' := by
  have off : ∀ {b u}, B b = some u → b ∉ ts := fun {b u} e z => by
    have := w.b b u e
    rw [new b z] at this
    cases this
  have e0 : Ex B (fun a => if a ∈ ts then H' a else B a) := fun b u e => by
    show (if b ∈ ts then H' b else B b) = some u
    rw [if_neg (off e)]; exact e
  refine ⟨e0, fun b u e => ?_, fun b u e => k b u (w.m b u e), fun b => ?_, fun x hx => ?_, w.nd, fun P hP => ?_⟩
  · have e : (if b ∈ ts then H' b else B b) = some u := e
    by_cases hb : b ∈ ts
    · rw [if_pos hb] at e; exact e
    · rw [if_neg hb] at e; exact k b u (w.b b u e)
  · by_cases hb : b ∈ ts
    · right
      exact fresh_back w.m (new b hb)
    · rcases w.bm b with h | h
      · left
        show (if b ∈ ts then H' b else B b) = none
        rw [if_neg hb]; exact h
      · exact .inr h
  · obtain ⟨⟨o, h1, h2⟩, h3, h4⟩ := w.l x hx
    refine ⟨⟨o, k _ _ h1, x.c.mono e0 h2⟩, ?_, h4⟩
    show (if x.p ∈ ts then H' x.p else B x.p) = none
    rw [if_neg (fun z => by rw [new _ z] at h1; cases h1)]; exact h3
  · obtain ⟨⟨ps, h1, h2⟩, h3, h4⟩ := w.t P hP
    refine ⟨⟨ps, k _ _ h1, h2⟩, ?_, h4⟩
    show (if P ∈ ts then H' P else B P) = none
    rw [if_neg (fun z => by rw [new _ z] at h1; cases h1)]; exact h3
theorem q_asgD {n : Nat} (w : Own K B M L H) (q : ∀ p H', Own K B M (⟨p, cDk, []⟩ :: L) H' → tz D (σ.set n (some (.ref p))) H') : tSeq (tAsg tDNewK (gName n)) tz D σ H :=
  fun p hp => q p _ (w.new hp rfl)
theorem q_setD {n m : Nat} {p : Addr} {as : List (Int × Int)} (w : Own K B M L H) (h : EV K M te σ B L rInt j L1) (hs : σ[m]? = some (some (.ref p))) (hb : EV K M tb σ B L1 rInt i L2) (hc : L2[n]? = some ⟨p, cDk, as⟩) (hr : room as.length = some ())
    (q : ∀ B' H', Ex B B' → Own K B' M (L2.set n ⟨p, cDk, putI as i j⟩) H' → tz D σ H') : tSeq (tAsg te (gSub (tVar m) tb rSetD)) tz D σ H :=
  h B H (Ex.refl _) w _ fun v B1 H1 e1 w1 hv => ⟨_, hs, hb B1 H1 e1 w1 _ fun y B2 H2 e2 w2 hy => by
    obtain ⟨⟨o', g1, g2⟩, _⟩ := w2.at hc
    have g1 : H2 p = some o' := g1
    have g2 : o' = .dK (L3G.encI as) := g2
    have hv : v = .int j := hv
    have hy : y = kV (Sum.inl i) := hy
    subst hv hy
    refine ⟨p, _, rfl, DPut.k (kvs := L3G.encI as) (by rw [g1, g2]) (by rw [List.length_map]; exact room_some hr), q B2 _ (e1.trans e2) (w2.set hc ?_)⟩
    show _ = HO.dK (L3G.encI (putI as i j))
    rw [← enc_put]⟩
theorem el_sortI {n m : Nat} {p : Addr} {as : List (Int × Int)} (hs : σ[m]? = some (some (.ref p))) (hc : L[n]? = some ⟨p, cDk, as⟩) : EVL K M (L3G.tSortI (tVar m)) σ B L (rT2 rInt rInt) (sortI as) L := fun B1 H e w Q q => by
  obtain ⟨⟨o', g1, g2⟩, _⟩ := w.at hc
  have g1 : H p = some o' := g1
  have g2 : o' = .dK (L3G.encI as) := g2
  refine ⟨_, hs, p, as, rfl, by rw [g1, g2], fun H' l ts ys k new hl hp pm st => ?_⟩
  obtain ⟨e2, w2⟩ := w.join k new
  have ey := sortI_eq pm st
  subst ey
  refine q l _ _ e2 (w2.new hl ⟨ts.map V.ref, rfl, ?_⟩)
  have go : ∀ (ts' : List Addr) (ys : List (Int × Int)), (∀ t ∈ ts', t ∈ ts) → Paired (fun (t : Addr) (q : Int × Int) => H' t = some (.tup [.int q.1, .int q.2])) ts' ys → Paired ((rT2 rInt rInt).is K fun a => if a ∈ ts then H' a else B1 a) (ts'.map V.ref) ys := fun ts' => by
    induction ts' with
    | nil => intro ys _ h; cases h; exact .nil
    | cons t ts' ih =>
      intro ys hm h
      cases h with
      | cons h1 h2 =>
        refine .cons ⟨t, _, _, rfl, st_of ?_, rfl, rfl⟩ (ih _ (fun u hu => hm u (List.mem_cons_of_mem _ hu)) h2)
        show (if t ∈ ts then H' t else B1 t) = _
        rw [if_pos (hm t List.mem_cons_self)]
        exact h1
  exact go ts _ (fun _ h => h) hp
theorem ints_of {K : Fg} {B : Hp} : ∀ {vs : List V} {xs : List Int}, Paired (rInt.is K B) vs xs → vs = xs.map V.int
  | _, _, .nil => rfl
  | _, _, .cons h t => by
    have h : _ = V.int _ := h
    rw [h, ints_of t]; rfl
theorem ev_sumL {xs : List Int} (h : EV K M te σ B L (rLst rInt) xs L') : EV K M (tCB (rSum K) (tCons te tNil)) σ B L rInt xs.sum L' := fun B1 H e w Q q =>
  h B1 H e w _ fun v B2 H2 e2 w2 hv => by
    obtain ⟨p, vs, rfl, hs, hp⟩ := rl_sc hv
    exact ⟨p, xs, rfl, by rw [← ints_of hp]; exact ex_l w2.b hs, q _ B2 H2 e2 w2 rfl⟩
end
end L3

namespace L3
open PySem L2
open Evl (Ex ex_rd ex_l ex_t sq_of st_of fresh_back)
/-! ### [..] * k -/
section
variable {K : Fg} {M : Fr} {σ : St} {B H H' : Hp} {L L1 L2 L' : List Cell} {α β γ δ : Type} {r : Rep α} {s : Rep β} {ta tb tc te : TE} {i j k : Int}
def repL (xs : List α) (k : Int) : Option (List α) := if -(2 ^ 62) ≤ k ∧ k < 2 ^ 62 ∧ xs.length * k.toNat ≤ sizeLine then some (List.replicate k.toNat xs).flatten else none
theorem el_rep {xs zs : List α} (h : EVL K M ta σ B L r xs L1) (h' : ∀ p, EV K M tb σ B (⟨p, cLst r, xs⟩ :: L1) rInt k (⟨p, cLst r, xs⟩ :: L2)) (hc : repL xs k = some zs) : EVL K M (tOp rRep ta tb) σ B L r zs L2 := fun B1 H e w Q q =>
  h B1 H e w _ fun p B2 H2 e2 w2 => h' p B2 H2 (e.trans e2) w2 _ fun u B3 H3 e3 w3 hu => by
    unfold repL at hc
    split at hc
    · rename_i hl
      obtain ⟨l1, l2, l3⟩ := hl
      obtain rfl := Option.some.inj hc
      obtain ⟨⟨o, g1, vs, g2, hp⟩, _⟩ := w3.at (i := 0) rfl
      have g1 : H3 p = some o := g1
      have ll := paired_len hp
      have ll : vs.length = xs.length := ll
      refine ⟨p, k, vs, rfl, hu, by rw [g1, g2], by omega, by omega, by rw [ll]; exact l3, fun l hl => ?_⟩
      exact q l B3 _ (e2.trans e3) (w3.tail.new hl ⟨_, rfl, paired_rep hp _⟩)
    · cases hc
theorem nn_rT2 {B : Hp} (v : V) (x : α × β) (h : (rT2 r s).is K B v x) : v ≠ .non := by
  obtain ⟨p, _, _, rfl, _⟩ := h
  exact fun z => by cases z
theorem nn_rTup {B : Hp} (v : V) (x : List α) (h : (rTup r).is K B v x) : v ≠ .non := by
  obtain ⟨p, _, rfl, _⟩ := h
  exact fun z => by cases z
theorem nn_rLst {B : Hp} (v : V) (x : List α) (h : (rLst r).is K B v x) : v ≠ .non := by
  obtain ⟨p, _, rfl, _⟩ := h
  exact fun z => by cases z
abbrev rTupOf (K : Fg) : List V → Hp → VK → Prop := fun xs H Q => ∃ p ys, xs = [.ref p] ∧ ((SqL K H p ys ∧ ∀ l, H l = none → Q (.ref l) (upd H l (.tup ys))) ∨ (SqT K H p ys ∧ Q (.ref p) H))
abbrev rListOf (K : Fg) : List V → Hp → VK → Prop := fun xs H Q => ∃ p ys, xs = [.ref p] ∧ (SqL K H p ys ∨ SqT K H p ys) ∧ ∀ l, H l = none → Q (.ref l) (upd H l (.lst ys))
/-! ### a def at an address -/
structure ClA (P : Program) (w : World) (K : Fg) (mg : Str → Option Value) (base : Heap) (k : Nat) (f : Addr) (sp : Sp) (dvs : List V) : Prop where
  ex : ∃ (fd : FuncData) (ps : List Str) (ds : List Value), FnOk P w K mg base CX0 k f fd ps sp ∧ PySem.W.keepIn K (.ref f) = true ∧ Binds K fd ps ds ∧ Vals dvs ds
theorem Cl.at {P : Program} {w : World} {mg : Str → Option Value} {base : Heap} {k : Nat} {x : Str} {sp : Sp} {dvs : List V} (c : Cl P w K mg base k x sp dvs) : ∃ f, mg x = some (.ref f) ∧ PySem.W.keepIn K (.ref f) = true ∧ ClA P w K mg base k f sp dvs := by
  obtain ⟨f, fd, ps, ds, F, hm, kp, b, d⟩ := c.ex
  exact ⟨f, hm, kp, fd, ps, ds, F, kp, b, d⟩
theorem pe_cL {X : Cx} {k j i : Nat} {f : Addr} {x : Str} {sp : Sp} {dvs : List V} {p pos : Pos} {e : Expr} {es : List Expr} {t : TA} (c : ClA X.prog X.w X.K X.mg X.base k f sp dvs) (hr : Room j X.A) (hk : k ≤ j) (hN : X.N[i]? = some x) (hv : Vis X.env.scope x) (ha : PA X (e :: es) t)
    (hdb : (x == ("__debug__" : Str)) = false := by decide) (hcd : (x == ("__classdict__" : Str)) = false := by decide) (he : starEach (e :: es) X.env = (false, eval e X.env) :: starEach es X.env := by rfl) (hpl : (backTo pos (starEach es X.env)).any (·.1) = false := by rfl) :
    PE X (.Call (.Name x p) (e :: es) [] pos) (tCallL i f sp dvs E0 t) := by
  obtain ⟨fd, ps, ds, F, kp, b, d⟩ := c.ex
  exact pe_callL F (hr.mono hk) hN hv kp b d pass0 ha hdb hcd he hpl
theorem ev_callL {i : Nat} {f : Addr} {sp : Sp} {dvs : List V} {E : XK} {tA : TA} {a : α} (hs : σ[i]? = some (some (.ref f))) (h : EV K M (tCall sp dvs E tA) σ B L r a L') : EV K M (tCallL i f sp dvs E tA) σ B L r a L' :=
  fun B1 H e w Q q => ⟨hs, h B1 H e w Q q⟩
/-- list(range(..)) -/
def rgO (a b : Int) : Option (List Int) := if -(2 ^ 62) ≤ a ∧ a < 2 ^ 62 ∧ -(2 ^ 62) ≤ b ∧ b < 2 ^ 62 ∧ (b - a).toNat ≤ 2 ^ 24 then some (rng a b) else none
theorem rg_paired {K : Fg} {B : Hp} (a b : Int) : Paired (rInt.is K B) (rgV a b) (rng a b) := by
  unfold rgV rng
  exact paired_map (F := rInt.is K B) (f := fun (i : Nat) => V.int (a + (i : Int))) (g := fun (k : Nat) => a + (k : Int)) (fun _ => rfl) _
theorem el_listRg1 {xs : List Int} (h : EV K M ta σ B L rInt k L') (hc : rgO 0 k = some xs) : EVL K M (tLstRg (tRg1 ta)) σ B L rInt xs L' := fun B1 H e w Q q =>
  h B1 H e w _ fun v B2 H2 e2 w2 hv => by
    unfold rgO at hc
    split at hc
    · rename_i ok
      obtain rfl := Option.some.inj hc
      exact ⟨k, hv, ok, fun l hl => q l B2 _ e2 (w2.new hl ⟨_, rfl, rg_paired 0 k⟩)⟩
    · cases hc
theorem el_listRg2 {xs : List Int} (h : EV K M ta σ B L rInt j L1) (h' : EV K M tb σ B L1 rInt k L') (hc : rgO j k = some xs) : EVL K M (tLstRg (tRg2 ta tb)) σ B L rInt xs L' := fun B1 H e w Q q =>
  h B1 H e w _ fun v B2 H2 e2 w2 hv => h' B2 H2 (e.trans e2) w2 _ fun u B3 H3 e3 w3 hu => by
    unfold rgO at hc
    split at hc
    · rename_i ok
      obtain rfl := Option.some.inj hc
      exact ⟨j, k, hv, hu, ok, fun l hl => q l B3 _ (e2.trans e3) (w3.new hl ⟨_, rfl, rg_paired j k⟩)⟩
    · cases hc
/-- a store as a part of a target -/
theorem g_setC {n m l : Nat} {p : Addr} {as : List α} {a : α} {v : V} {G : St → Hp → Prop} (w : Own K B M L H) (hv : r.is K B v a) (hs : σ[m]? = some (some (.ref p))) (hb : EV K M tb σ B L rInt i L2) (hc : L2[n]? = some ⟨p, cLst r, as⟩) (hi : ixO as.length i = some l)
    (q : ∀ B' H', Ex B B' → Own K B' M (L2.set n ⟨p, cLst r, as.set l a⟩) H' → G σ H') : gSub (tVar m) tb rSetL v σ H G :=
  ⟨_, hs, hb B H (Ex.refl _) w _ fun y B2 H2 e2 w2 hy => by
    obtain ⟨⟨o', g1, xs, g2, g3⟩, _⟩ := w2.at hc
    have g1 : H2 p = some o' := g1
    exact ⟨p, xs, i, l, rfl, hy, by rw [g1, g2], by rw [paired_len g3]; exact hi, q B2 _ e2 (w2.set hc ⟨_, rfl, paired_set (r.mono e2 hv) l g3⟩)⟩⟩
/-! ### k in xs, of ints -/
theorem flat_ints : ∀ xs : List Int, (xs.map V.int).all flatV = true
  | [] => rfl
  | x :: xs => by rw [List.map_cons, List.all_cons, flat_ints xs]; rfl
theorem inV_ints (k : Int) : ∀ xs : List Int, inV (.int k) (xs.map V.int) = decide (k ∈ xs)
  | [] => rfl
  | x :: xs => by
    have ih := inV_ints k xs
    unfold inV at ih ⊢
    rw [List.map_cons, List.any_cons, ih]
    have e : eqV (.int x) (.int k) = decide (x = k) := rfl
    rw [e]
    clear ih e
    by_cases h : x = k
    · subst h
      rw [decide_eq_true rfl, Bool.true_or, decide_eq_true (List.mem_cons_self)]
    · rw [decide_eq_false h, Bool.false_or]
      by_cases h2 : k ∈ xs
      · rw [decide_eq_true h2, decide_eq_true (List.mem_cons_of_mem _ h2)]
      · rw [decide_eq_false h2, decide_eq_false fun z => (List.mem_cons.mp z).elim (fun q => h q.symm) h2]
theorem sq_ints {B H : Hp} {v : V} {xs : List Int} (e : Ex B H) (h : (rSeq rInt).is K B v xs) : ∃ p, v = .ref p ∧ (SqL K H p (xs.map V.int) ∨ SqT K H p (xs.map V.int)) := by
  obtain ⟨p, vs, h1, h2, h3⟩ := h
  have ev := ints_of h3
  subst ev
  exact ⟨p, h1, h2.imp (ex_l e) (ex_t e)⟩
theorem ev_inI {xs : List Int} (h : EV K M ta σ B L rInt k L1) (h' : EV K M tb σ B L1 (rSeq rInt) xs L2) : EV K M (tOp (rIn K false) ta tb) σ B L rBool (decide (k ∈ xs)) L2 := fun B1 H e w Q q =>
  h B1 H e w _ fun v B2 H2 e2 w2 hv => h' B2 H2 (e.trans e2) w2 _ fun u B3 H3 e3 w3 hu => by
    have hv : v = .int k := hv
    subst hv
    obtain ⟨p, rfl, hs⟩ := sq_ints w3.b hu
    refine ⟨p, _, rfl, hs, rfl, flat_ints xs, ?_⟩
    rw [inV_ints]
    exact q _ B3 H3 (e2.trans e3) w3 rfl
theorem ev_niI {xs : List Int} (h : EV K M ta σ B L rInt k L1) (h' : EV K M tb σ B L1 (rSeq rInt) xs L2) : EV K M (tOp (rIn K true) ta tb) σ B L rBool (!decide (k ∈ xs)) L2 := fun B1 H e w Q q =>
  h B1 H e w _ fun v B2 H2 e2 w2 hv => h' B2 H2 (e.trans e2) w2 _ fun u B3 H3 e3 w3 hu => by
    have hv : v = .int k := hv
    subst hv
    obtain ⟨p, rfl, hs⟩ := sq_ints w3.b hu
    refine ⟨p, _, rfl, hs, rfl, flat_ints xs, ?_⟩
    rw [inV_ints]
    exact q _ B3 H3 (e2.trans e3) w3 rfl
theorem cell_ints {n : Nat} {p : Addr} {xs : List Int} (w : Own K B M L H) (hc : L[n]? = some ⟨p, cLst rInt, xs⟩) : SqL K H p (xs.map V.int) := by
  obtain ⟨⟨o, h1, vs, h2, h3⟩, _⟩ := w.at hc
  have h1 : H p = some o := h1
  have ev := ints_of h3
  subst ev
  exact sq_of (by rw [h1, h2])
theorem ev_inC {n : Nat} {p : Addr} {xs : List Int} (h : EV K M ta σ B L rInt k L1) (h' : EV K M tb σ B L1 rRef p L2) (hc : L2[n]? = some ⟨p, cLst rInt, xs⟩) : EV K M (tOp (rIn K false) ta tb) σ B L rBool (decide (k ∈ xs)) L2 := fun B1 H e w Q q =>
  h B1 H e w _ fun v B2 H2 e2 w2 hv => h' B2 H2 (e.trans e2) w2 _ fun u B3 H3 e3 w3 hu => by
    have hv : v = .int k := hv
    have hu : u = .ref p := hu
    subst hv hu
    refine ⟨p, _, rfl, .inl (cell_ints w3 hc), rfl, flat_ints xs, ?_⟩
    rw [inV_ints]
    exact q _ B3 H3 (e2.trans e3) w3 rfl
theorem ev_niC {n : Nat} {p : Addr} {xs : List Int} (h : EV K M ta σ B L rInt k L1) (h' : EV K M tb σ B L1 rRef p L2) (hc : L2[n]? = some ⟨p, cLst rInt, xs⟩) : EV K M (tOp (rIn K true) ta tb) σ B L rBool (!decide (k ∈ xs)) L2 := fun B1 H e w Q q =>
  h B1 H e w _ fun v B2 H2 e2 w2 hv => h' B2 H2 (e.trans e2) w2 _ fun u B3 H3 e3 w3 hu => by
    have hv : v = .int k := hv
    have hu : u = .ref p := hu
    subst hv hu
    refine ⟨p, _, rfl, .inl (cell_ints w3 hc), rfl, flat_ints xs, ?_⟩
    rw [inV_ints]
    exact q _ B3 H3 (e2.trans e3) w3 rfl
/-- a list of ours that stays from now on -/
theorem ev_frzC {te : TE} {n : Nat} {p : Addr} {xs : List α} (h : EV K M te σ B L rRef p L') (hc : L'[n]? = some ⟨p, cLst r, xs⟩) : EV K M te σ B L (rLst r) xs (L'.eraseIdx n) := fun B1 H e w Q q =>
  h B1 H e w _ fun v B2 H2 e2 w2 hv => by
    have hv : v = .ref p := hv
    subst hv
    obtain ⟨o, h1, ⟨vs, h2, hp⟩, hB, w3⟩ := w2.freeze hc
    have h1 : H2 p = some o := h1
    have eN := Ex.new (o := o) hB
    refine q _ _ H2 (e2.trans eN) w3 ⟨p, vs, rfl, upd_same.trans (congrArg some h2), paired_mono eN hp⟩
/-- a value that may be None, where it is none -/
theorem ev_get {te : TE} {o : Option α} {a : α} (h : EV K M te σ B L (rOpt r) o L') (e : o = some a) : EV K M te σ B L r a L' := by
  subst e
  exact h
end
/-! ### a global that is a pair of ints -/
def pairAt (K : Fg) (a : Addr) (i j : Int) : Bool := match K.lookup a with
  | some o => decide (o.cls = .type "tuple") && (match o.data with
    | .seq its _ => (match its.toList with
      | [.int x _, .int y _] => decide (x = i) && decide (y = j)
      | _ => false)
    | _ => false)
  | none => false
theorem pairAt_ok {K : Fg} {a : Addr} {i j : Int} (h : pairAt K a i j = true) (B : Hp) : (rT2 rInt rInt).is K B (.ref a) (i, j) := by
  unfold pairAt at h
  split at h
  · rename_i o ho
    rw [Bool.and_eq_true] at h
    obtain ⟨hc, h⟩ := h
    split at h
    · rename_i its n hd
      split at h
      · rename_i x tx y ty hi
        rw [Bool.and_eq_true] at h
        have e1 := of_decide_eq_true h.1
        have e2 := of_decide_eq_true h.2
        subst e1 e2
        refine ⟨a, .int x, .int y, rfl, .inr ⟨o, its, n, ho, of_decide_eq_true hc, hd, ?_, ?_⟩, rfl, rfl⟩
        · rw [← Array.length_toList, hi]; show 2 ≤ sizeLine; decide
        · rw [hi]; exact .cons ⟨_, rfl⟩ (.cons ⟨_, rfl⟩ .nil)
      · cases h
    · cases h
  · cases h
def pairG (K : Fg) (x : Str) (i j : Int) : Bool := match PySem.W.nsIn K mainGlobals x with
  | some (some (.ref a)) => pairAt K a i j
  | _ => false
theorem pairG_ok {K : Fg} {h : Heap} {mg : Str → Option Value} {x : Str} {i j : Int} (X : K.In h) (G : h.Ns mainGlobals mg) (e : pairG K x i j = true) : GV K mg x (rT2 rInt rInt) (i, j) := by
  unfold pairG at e
  split at e
  · rename_i a ha
    exact ⟨.ref a, .ref a, PySem.W.mg_of X G ha, rfl, pairAt_ok e⟩
  · cases e
end L3

namespace L3
open PySem L2
open Evl (Ex ex_rd ex_l ex_t sq_of st_of fresh_back)
/-! ### while -/
def iterM {S R : Type} (f : S → Option (Stp S R)) : Nat → S → Option (S ⊕ R)
  | 0, _ => none
  | n + 1, s => match f s with
    | some (.nx s') => iterM f n s'
    | some (.bk s') => some (.inl s')
    | some (.rt r) => some (.inr r)
    | none => none
open Classical in
noncomputable def whileR {S R : Type} (f : S → Option (Stp S R)) (s : S) : Option (S ⊕ R) :=
  if h : ∃ n o, iterM f n s = some o then some (choose (choose_spec h)) else none
theorem whileR_some {S R : Type} {f : S → Option (Stp S R)} {s : S} {o : S ⊕ R} (h : whileR f s = some o) : ∃ n, iterM f n s = some o := by
  unfold whileR at h
  split at h
  · rename_i h'
    rw [← h]
    exact ⟨_, Classical.choose_spec (Classical.choose_spec h')⟩
  · cases h
theorem iterM_up {S R : Type} {f : S → Option (Stp S R)} : ∀ {n m : Nat} {s : S} {o : S ⊕ R}, iterM f n s = some o → n ≤ m → iterM f m s = some o
  | 0, _, _, _, h, _ => by cases h
  | n + 1, 0, _, _, _, h => by omega
  | n + 1, m + 1, s, o, h, l => by
    unfold iterM at h ⊢
    cases hf : f s with
    | none => rw [hf] at h; cases h
    | some t =>
      rw [hf] at h
      cases t with
      | nx s' => exact iterM_up (n := n) h (by omega)
      | bk s' => exact h
      | rt r => exact h
theorem whileR_of {S R : Type} {f : S → Option (Stp S R)} {s : S} {o : S ⊕ R} {n : Nat} (h : iterM f n s = some o) : whileR f s = some o := by
  unfold whileR
  have e : ∃ n o, iterM f n s = some o := ⟨n, o, h⟩
  rw [dif_pos e]
  obtain ⟨m, hm⟩ : ∃ m, iterM f m s = some (Classical.choose (Classical.choose_spec e)) := ⟨_, Classical.choose_spec (Classical.choose_spec e)⟩
  have h1 := iterM_up h (Nat.le_max_left n m)
  have h2 := iterM_up hm (Nat.le_max_right n m)
  rw [h1] at h2
  exact h2.symm
noncomputable def whileB {S : Type} (f : S → Option (Stp S Empty)) (s : S) : Option S := (whileR f s).map fun o => match o with
  | .inl s => s
  | .inr r => nomatch r
section
variable {K : Fg} {M : Fr} {σ : St} {B B' H H' : Hp} {L L1 L2 L' : List Cell} {α β γ δ : Type} {r : Rep α} {s : Rep β} {t : Rep γ} {ta tb tc te : TE} {tt tu : TT} {tA : TA} {i j k : Int} {b c : Bool} {D : Ends} {tz t1 t2 : TS}
theorem q_wt {Q : Bool → Hp → Prop} (w : Own K B M L H) (h : ET K M tt σ B L b L') (h1 : b = true → ∀ B' H', Ex B B' → Own K B' M L' H' → Q true H') (h2 : b = false → ∀ B' H', Ex B B' → Own K B' M L' H' → Q false H') : tt σ H Q :=
  h B H (Ex.refl _) w _ fun B' H' e w' => by
    cases b with
    | true => exact h1 rfl B' H' e w'
    | false => exact h2 rfl B' H' e w'
theorem q_whileR {S R : Type} {tb : TS} (w : Own K B M L H) (f : S → Option (Stp S R)) (P : S → Hp → St → Prop) (Lf : S → List Cell) (s0 : S) {o : S ⊕ R} (hm : whileR f s0 = some o)
    (h0 : ∀ B', Ex B B' → P s0 B' σ) (hL : Lf s0 = L)
    (hs : ∀ s st B0 B' H' σ', f s = some st → Ex B B0 → P s B0 σ' → Ex B0 B' → Own K B' M (Lf s) H' → (∀ q, st = .rt q → o = .inr q) → ∀ (N : St → Hp → Prop) (BK : St → Hp → Prop),
      (∀ s3 B3 H3 σ3, st = .nx s3 → Ex B' B3 → Own K B3 M (Lf s3) H3 → P s3 B3 σ3 → N σ3 H3) → (∀ s3 B3 H3 σ3, st = .bk s3 → Ex B' B3 → Own K B3 M (Lf s3) H3 → P s3 B3 σ3 → BK σ3 H3) →
      ∀ Q : Bool → Hp → Prop, (∀ H1, tb { D with nx := N, ct := N, bk := BK } σ' H1 → Q true H1) → (∀ H1, BK σ' H1 → Q false H1) → tt σ' H' Q)
    (hd : ∀ s B' H' σ', o = .inl s → Ex B B' → Own K B' M (Lf s) H' → P s B' σ' → tz D σ' H') : tSeq (tWhile tt tb) tz D σ H := by
  obtain ⟨n, hn⟩ := whileR_some hm
  refine ⟨fun m σ' H' => ∃ s B', Ex B B' ∧ Own K B' M (Lf s) H' ∧ P s B' σ' ∧ iterM f m s = some o, ⟨n, s0, B, Ex.refl _, by rw [hL]; exact w, h0 B (Ex.refl _), hn⟩, ?_⟩
  rintro m σ' H' ⟨s, B', e', w', hP, hl⟩
  cases m with
  | zero => cases hl
  | succ m =>
    unfold iterM at hl
    cases hst : f s with
    | none => rw [hst] at hl; cases hl
    | some st =>
      rw [hst] at hl
      refine hs s st B' B' H' σ' hst e' hP (Ex.refl _) w' (fun q e => by rw [e] at hl; exact (Option.some.inj hl).symm) (fun σ3 H3 => ∃ s3 B3, st = .nx s3 ∧ Ex B B3 ∧ Own K B3 M (Lf s3) H3 ∧ P s3 B3 σ3) (tz D)
        (fun s3 B3 H3 σ3 e3 e4 w3 p3 => ⟨s3, B3, e3, e'.trans e4, w3, p3⟩) (fun s3 B3 H3 σ3 e3 e4 w3 p3 => by
          rw [e3] at hl
          exact hd s3 B3 H3 σ3 (Option.some.inj hl).symm (e'.trans e4) w3 p3) _ (fun H1 hb => ?_) (fun H1 hb => ?_)
      · refine (if_pos rfl).mpr ⟨_, ?_, hb⟩
        rintro σ3 H3 ⟨s3, B3, e3, a1, a2, a3⟩
        subst e3
        exact ⟨m, Nat.lt_succ_self m, s3, B3, a1, a2, a3, hl⟩
      · exact (if_neg Bool.false_ne_true).mpr hb
theorem q_whileB {S : Type} {tb : TS} (w : Own K B M L H) (f : S → Option (Stp S Empty)) (P : S → Hp → St → Prop) (Lf : S → List Cell) (s0 : S) {s1 : S} (hm : whileB f s0 = some s1)
    (h0 : ∀ B', Ex B B' → P s0 B' σ) (hL : Lf s0 = L)
    (hs : ∀ s st B0 B' H' σ', f s = some st → Ex B B0 → P s B0 σ' → Ex B0 B' → Own K B' M (Lf s) H' → ∀ (N : St → Hp → Prop) (BK : St → Hp → Prop),
      (∀ s3 B3 H3 σ3, st = .nx s3 → Ex B' B3 → Own K B3 M (Lf s3) H3 → P s3 B3 σ3 → N σ3 H3) → (∀ s3 B3 H3 σ3, st = .bk s3 → Ex B' B3 → Own K B3 M (Lf s3) H3 → P s3 B3 σ3 → BK σ3 H3) →
      ∀ Q : Bool → Hp → Prop, (∀ H1, tb { D with nx := N, ct := N, bk := BK } σ' H1 → Q true H1) → (∀ H1, BK σ' H1 → Q false H1) → tt σ' H' Q)
    (hd : ∀ B' H' σ', Ex B B' → Own K B' M (Lf s1) H' → P s1 B' σ' → tz D σ' H') : tSeq (tWhile tt tb) tz D σ H := by
  unfold whileB at hm
  cases h : whileR f s0 with
  | none => rw [h] at hm; cases hm
  | some o =>
    rw [h] at hm
    refine q_whileR w f P Lf s0 h h0 hL (fun s st B0 B' H' σ' a1 a2 a3 a4 a5 _ => hs s st B0 B' H' σ' a1 a2 a3 a4 a5) fun s B' H' σ' a1 => ?_
    subst a1
    have e : s = s1 := Option.some.inj hm
    subst e
    exact hd B' H' σ'
/-! ### calls that read lists of ours -/
def nTup : HO → Prop
  | .lst _ => True
  | .dK _ => True
  | _ => False
structure NT {α : Type} (c : CRep α) : Prop where
  nt : ∀ {K : Fg} {B : Hp} {o : HO} {a : α}, c.is K B o a → nTup o
theorem nt_lst {r : Rep α} : NT (cLst r) := ⟨fun ⟨xs, h, _⟩ => by subst h; trivial⟩
theorem nt_l2 {r : Rep α} {s : Rep β} : NT (cL2 r s) := ⟨fun ⟨x, y, h, _⟩ => by subst h; trivial⟩
theorem nt_dk : NT cDk := ⟨fun h => by
  have h : _ = HO.dK _ := h
  subst h; trivial⟩
def NTs (L : List Cell) : Prop := ∀ x ∈ L, NT x.c
theorem nts_nil : NTs [] := fun _ h => absurd h (by simp)
theorem nts_cons {x : Cell} (h : NT x.c) (h' : NTs L) : NTs (x :: L) := fun y hy => (List.mem_cons.mp hy).elim (fun e => e ▸ h) (h' y)
/-- without some addresses -/
def era (B : Hp) (ps : List Addr) : Hp := fun a => if a ∈ ps then none else B a
/-- with lists of ours -/
def frz (B : Hp) (L : List Cell) (H : Hp) : Hp := fun a => if a ∈ L.map (·.p) then H a else B a
structure TO {α : Type} (r : Rep α) : Prop where
  to : ∀ {K : Fg} {B : Hp} {ps : List Addr} {v : V} {a : α}, (∀ p ∈ ps, ∃ o, B p = some o ∧ nTup o) → r.is K B v a → r.is K (era B ps) v a
theorem era_t {ps : List Addr} {p : Addr} {xs : List V} (h : ∀ p ∈ ps, ∃ o, B p = some o ∧ nTup o) (hs : SqT K B p xs) : SqT K (era B ps) p xs := by
  have out : ∀ o, B p = some o → ¬ nTup o → era B ps p = some o := fun o e n => by
    unfold era
    rw [if_neg fun hp => ?_]
    · exact e
    · obtain ⟨u, e1, e2⟩ := h p hp
      rw [e] at e1
      cases e1
      exact n e2
  rcases hs with (e | ⟨o, e⟩) | e
  · exact .inl (.inl (out _ e id))
  · exact .inl (.inr ⟨o, out _ e id⟩)
  · exact .inr e
theorem to_int : TO rInt := ⟨fun _ h => h⟩
theorem to_bool : TO rBool := ⟨fun _ h => h⟩
theorem to_str : TO rStr := ⟨fun _ h => h⟩
theorem to_non : TO rNon := ⟨fun _ h => h⟩
theorem to_opt {r : Rep α} (h : TO r) : TO (rOpt r) := ⟨fun {K B ps v a} q e => by
  cases a with
  | none => exact e
  | some a => exact h.to q e⟩
theorem to_T2 {r : Rep α} {s : Rep β} (h : TO r) (g : TO s) : TO (rT2 r s) := ⟨fun q ⟨p, x, y, e1, e2, e3, e4⟩ => ⟨p, x, y, e1, era_t q e2, h.to q e3, g.to q e4⟩⟩
theorem to_T3 {r : Rep α} {s : Rep β} {t : Rep γ} (h : TO r) (g : TO s) (f : TO t) : TO (rT3 r s t) := ⟨fun q ⟨p, x, y, z, e1, e2, e3, e4, e5⟩ => ⟨p, x, y, z, e1, era_t q e2, h.to q e3, g.to q e4, f.to q e5⟩⟩
theorem paired_to {F G : V → α → Prop} (h : ∀ v a, F v a → G v a) {xs : List V} {as : List α} (e : Paired F xs as) : Paired G xs as := paired_imp h e
theorem to_tup {r : Rep α} (h : TO r) : TO (rTup r) := ⟨fun q ⟨p, xs, e1, e2, e3⟩ => ⟨p, xs, e1, era_t q e2, paired_to (fun _ _ => h.to q) e3⟩⟩
def AF (K : Fg) (M : Fr) (L : List Cell) (as as' : List Arg) : Prop := ∀ B H vs, Own K B M L H → ArgsIs K B vs as → ArgsIs K (frz B L H) vs as'
theorem ex_frz (w : Own K B M L H) : Ex B (frz B L H) := fun a u e => by
  unfold frz
  split
  · exact w.b a u e
  · exact e
theorem af_nil : AF K M L [] [] := fun B H vs w h => by
  match vs, h with
  | [], _ => trivial
theorem af_same {a : Arg} {as as' : List Arg} (h : AF K M L as as') : AF K M L (a :: as) (a :: as') := fun B H vs w g => by
  match vs, g with
  | _ :: _, ⟨g1, g2⟩ => exact ⟨a.r.mono (ex_frz w) g1, h B H _ w g2⟩
theorem af_cell {n : Nat} {p : Addr} {r : Rep α} {xs : List α} {as as' : List Arg} (hc : L[n]? = some ⟨p, cLst r, xs⟩) (h : AF K M L as as') : AF K M L (⟨rRef, p⟩ :: as) (⟨rLst r, xs⟩ :: as') := fun B H vs w g => by
  match vs, g with
  | v :: _, ⟨g1, g2⟩ =>
    obtain ⟨⟨o, h1, ys, h2, h3⟩, _⟩ := w.at hc
    have h1 : H p = some o := h1
    have g1 : v = .ref p := g1
    refine ⟨⟨p, ys, g1, ?_, paired_mono (ex_frz w) h3⟩, h B H _ w g2⟩
    unfold frz
    rw [if_pos (List.mem_map.mpr ⟨_, List.mem_of_getElem? hc, rfl⟩), h1, h2]
theorem Own.frzAll (w : Own K B M L H) : Own K (frz B L H) M [] H := by
  refine ⟨fun a u e => ?_, w.m, fun a => ?_, fun _ h => absurd h (by simp), by simp, fun P hP => ?_⟩
  · unfold frz at e
    split at e
    · exact e
    · exact w.b a u e
  · unfold frz
    split
    · rename_i h
      obtain ⟨x, hx, rfl⟩ := List.mem_map.mp h
      exact .inr (w.l x hx).2.2
    · exact w.bm a
  · obtain ⟨t1, t2, t3, t4⟩ := w.t P hP
    exact ⟨t1, by unfold frz; rw [if_neg t4]; exact t2, t3, by simp⟩
theorem Own.unfrz {B3 H3 : Hp} (w : Own K B M L H) (e : Ex (frz B L H) B3) (w3 : Own K B3 M [] H3) : Ex B (era B3 (L.map (·.p))) ∧ Own K (era B3 (L.map (·.p))) M L H3 := by
  have hex : Ex B (era B3 (L.map (·.p))) := fun a u h => by
    have hn : a ∉ L.map (·.p) := fun hm => by
      obtain ⟨x, hx, rfl⟩ := List.mem_map.mp hm
      rw [(w.l x hx).2.1] at h
      cases h
    unfold era
    rw [if_neg hn]
    exact e a u (ex_frz w a u h)
  refine ⟨hex, fun a u h => ?_, w3.m, fun a => ?_, fun x hx => ?_, w.nd, fun P hP => ?_⟩
  · unfold era at h
    split at h
    · cases h
    · exact w3.b a u h
  · unfold era
    split
    · exact .inl rfl
    · exact w3.bm a
  · obtain ⟨⟨o, h1, h2⟩, h3, h4⟩ := w.l x hx
    have hm : x.p ∈ L.map (·.p) := List.mem_map.mpr ⟨x, hx, rfl⟩
    refine ⟨⟨o, w3.b _ _ (e _ _ ?_), x.c.mono hex h2⟩, by unfold era; rw [if_pos hm], h4⟩
    unfold frz
    rw [if_pos hm, h1]
  · obtain ⟨t1, t2, t3, _⟩ := w3.t P hP
    obtain ⟨_, _, _, t4⟩ := w.t P hP
    exact ⟨t1, by unfold era; rw [if_neg t4]; exact t2, t3, t4⟩
theorem ev_callF {C : List Arg → List Cell → Arg → List Cell → Prop} {E : XK} {as as' : List Arg} {a : α} (ha : EA K M tA σ B L as L1) (hf : AF K M L1 as as') (hn : NTs L1) (hr : TO r) (h : C as' [] ⟨r, a⟩ []) : EV K M (tCall (spV K M.T C) [] E tA) σ B L r a L1 := fun B1 H e w Q q =>
  ha B1 H e w _ fun vs B2 H2 e2 w2 hv => by
    show spV K M.T C (vs ++ []) H2 Q E
    rw [List.append_nil]
    refine ⟨frz B2 L1 H2, M, [], as', ⟨r, a⟩, [], rfl, w2.frzAll, hf B2 H2 vs w2 hv, h, fun v B' H' e3 w3 hr3 => ?_⟩
    obtain ⟨e4, w4⟩ := w2.unfrz e3 w3
    refine q v _ H' (e2.trans e4) w4 (hr.to (fun p hp => ?_) hr3)
    obtain ⟨x, hx, rfl⟩ := List.mem_map.mp hp
    obtain ⟨⟨o, h1, h2⟩, _⟩ := w2.l x hx
    refine ⟨o, e3 _ _ ?_, (hn x hx).nt h2⟩
    unfold frz
    rw [if_pos hp, h1]
/-- a list of ours stays from now on -/
theorem frz_step {n : Nat} {p : Addr} {xs : List α} (w : Own K B M L H) (hc : L[n]? = some ⟨p, cLst r, xs⟩) : ∃ B', Ex B B' ∧ Own K B' M (L.eraseIdx n) H ∧ (rLst r).is K B' (.ref p) xs := by
  obtain ⟨o, h1, ⟨vs, h2, h3⟩, h4, w'⟩ := w.freeze hc
  have h4 : B p = none := h4
  refine ⟨_, Ex.new h4, w', p, vs, rfl, ?_, paired_mono (Ex.new h4) h3⟩
  show upd B p o p = _
  rw [upd_same, h2]
end
/-! ### defs that return a new list -/
def spN (K : Fg) (T : List Addr) {α : Type} (r : Rep α) (C : List Arg → List Cell → List α → List Cell → Prop) : Sp := fun vs H Q _ => ∃ B M L as xs L', M.T = T ∧ Own K B M L H ∧ ArgsIs K B vs as ∧ C as L xs L' ∧
  ∀ p B' H', Ex B B' → Own K B' M (⟨p, cLst r, xs⟩ :: L') H' → Q (.ref p) H'
section
variable {K : Fg} {M : Fr} {σ : St} {B B' H H' : Hp} {L L1 L2 L' : List Cell} {α β γ δ : Type} {r : Rep α} {s : Rep β} {t : Rep γ} {ta tb tc te : TE} {tt tu : TT} {tA : TA} {i j k : Int} {b c : Bool} {D : Ends} {tz t1 t2 : TS}
theorem Own.pick {n d : Nat} {x : Cell} (w : Own K B M L H) (hc : L[n]? = some x) (h : n < d) : Own K B M (x :: L.drop d) H := by
  have hx : x ∈ L.take d := by
    refine List.mem_of_getElem? (i := n) ?_
    rw [List.getElem?_take, if_pos h]; exact hc
  have sub : (x :: L.drop d).Sublist L := by
    have := (List.singleton_sublist.mpr hx).append (List.Sublist.refl (L.drop d))
    rwa [List.take_append_drop] at this
  exact w.perm (fun y hy => sub.subset hy) (w.nd.sublist (sub.map _))
theorem back_new {L2 : List Cell} {B1 B3 H1 H3 : Hp} {x : Cell} (w : Own K B1 M L2 H1) (e : Ex B1 B3) (w3 : Own K B3 (absorb M L2 H1) [x] H3) : Own K B3 M (x :: L2) H3 := by
  have hx := w3.l x (List.mem_singleton.mpr rfl)
  refine w.back (L := L2) (L1' := [x]) (L2 := L2) (fun _ h => h) w.nd e w3 fun y hy => ?_
  rw [List.mem_singleton.mp hy]
  intro hm
  obtain ⟨z, hz, ez⟩ := List.mem_map.mp hm
  have h1 := hx.2.2
  obtain ⟨⟨o, g1, _⟩, _⟩ := w.l z hz
  have e2 : absorb M L2 H1 z.p = H1 z.p := absorb_in hz
  rw [ez] at e2
  rw [e2] at h1
  rw [← ez, g1] at h1
  cases h1
theorem el_call {C : List Arg → List Cell → List α → List Cell → Prop} {E : XK} {as : List Arg} {xs : List α} (ha : EA K M tA σ B L as L1) (h : C as [] xs []) : EVL K M (tCall (spN K M.T r C) [] E tA) σ B L r xs L1 := fun B1 H e w Q q =>
  ha B1 H e w _ fun vs B2 H2 e2 w2 hv => by
    show spN K M.T r C (vs ++ []) H2 Q E
    rw [List.append_nil]
    refine ⟨B2, absorb M L1 H2, [], as, xs, [], rfl, w2.lend (L1 := []) (L2 := L1) (fun _ h => absurd h (by simp)) (fun _ h => h) (by simp) (fun _ h => absurd h (by simp)), hv, h, fun p B' H' e3 w3 => ?_⟩
    exact q p B' H' (e2.trans e3) (back_new w2 e3 w3)
theorem el_callF {C : List Arg → List Cell → List α → List Cell → Prop} {E : XK} {as as' : List Arg} {xs : List α} (ha : EA K M tA σ B L as L1) (hf : AF K M L1 as as') (hn : NTs L1) (hr : TO r) (h : C as' [] xs []) : EVL K M (tCall (spN K M.T r C) [] E tA) σ B L r xs L1 := fun B1 H e w Q q =>
  ha B1 H e w _ fun vs B2 H2 e2 w2 hv => by
    show spN K M.T r C (vs ++ []) H2 Q E
    rw [List.append_nil]
    refine ⟨frz B2 L1 H2, M, [], as', xs, [], rfl, w2.frzAll, hf B2 H2 vs w2 hv, h, fun p B' H' e3 w3 => ?_⟩
    have hx := w3.l _ (List.mem_singleton.mpr rfl)
    obtain ⟨e4, w4⟩ := w2.unfrz e3 w3.tail
    have nt : ∀ q ∈ L1.map (·.p), ∃ o, B' q = some o ∧ nTup o := fun q hq => by
      obtain ⟨x, hx, rfl⟩ := List.mem_map.mp hq
      obtain ⟨⟨o, h1, h2⟩, _⟩ := w2.l x hx
      refine ⟨o, e3 _ _ ?_, (hn x hx).nt h2⟩
      unfold frz
      rw [if_pos hq, h1]
    obtain ⟨⟨o, g1, ys, g2, g3⟩, gB, gM⟩ := hx
    have pn : p ∉ L1.map (·.p) := fun hp => by
      obtain ⟨o, e5, _⟩ := nt p hp
      have gB : B' p = none := gB
      rw [e5] at gB
      cases gB
    refine q p _ H' (e2.trans e4) ⟨w4.b, w4.m, w4.bm, fun x hx => ?_, ?_, fun P hP => ?_⟩
    · rcases List.mem_cons.mp hx with rfl | hx
      · refine ⟨⟨o, g1, ys, g2, paired_imp (fun v a => hr.to nt) g3⟩, ?_, gM⟩
        show era B' _ p = none
        unfold era
        rw [if_neg pn]
        exact gB
      · exact w4.l x hx
    · rw [List.map_cons, List.nodup_cons]
      exact ⟨pn, w4.nd⟩
    · obtain ⟨t1, t2, t3, t4⟩ := w4.t P hP
      obtain ⟨_, _, _, t5⟩ := w3.t P hP
      refine ⟨t1, t2, t3, fun z => ?_⟩
      rcases List.mem_cons.mp z with e | z
      · exact t5 (by rw [e]; simp)
      · exact t4 z
theorem q_retCN {n m : Nat} {p : Addr} {as : List α} (w : Own K B M L H) (hs : σ[m]? = some (some (.ref p))) (hc : L[n]? = some ⟨p, cLst r, as⟩) (q : D.rt (.ref p) H) : tSeq (tRet (tVar m)) tz D σ H := ⟨_, hs, q⟩
theorem q_retL {as : List α} (w : Own K B M L H) (h : EVL K M te σ B L r as L') (q : ∀ p B' H', Ex B B' → Own K B' M (⟨p, cLst r, as⟩ :: L') H' → D.rt (.ref p) H') : tSeq (tRet te) tz D σ H := h B H (Ex.refl _) w _ q
end
/-! ### lists: + -/
section
variable {K : Fg} {M : Fr} {σ : St} {B B' H H' : Hp} {L L1 L2 L' : List Cell} {α β γ δ : Type} {r : Rep α} {s : Rep β} {t : Rep γ} {ta tb tc te : TE} {tt tu : TT} {tA : TA} {i j k : Int} {b c : Bool} {D : Ends} {tz t1 t2 : TS}
theorem el_cat {xs ys zs : List α} (h : EV K M ta σ B L (rLst r) xs L1) (h' : EV K M tb σ B L1 (rLst r) ys L2) (hc : catT xs ys = some zs) : EVL K M (tOp rCat ta tb) σ B L r zs L2 := fun B1 H e w Q q =>
  h B1 H e w _ fun v B2 H2 e2 w2 hv => h' B2 H2 (e.trans e2) w2 _ fun u B3 H3 e3 w3 hu => by
    obtain ⟨p, vs, rfl, hs, hp⟩ := hv
    obtain ⟨p', us, rfl, hs', hp'⟩ := hu
    unfold catT at hc
    split at hc
    · rename_i hl
      obtain rfl := Option.some.inj hc
      have hp3 := paired_mono e3 hp
      have l1 := paired_len hp
      have l2 := paired_len hp'
      exact ⟨p, p', vs, us, rfl, rfl, w3.b _ _ (e3 _ _ hs), w3.b _ _ hs', Nat.le_trans (by omega) (show 1000000 ≤ sizeLine by decide), fun l hl => q l B3 _ (e2.trans e3) (w3.new hl ⟨_, rfl, paired_app hp3 hp'⟩)⟩
    · cases hc
end
/-! ### while: it ends -/
section
variable {S R : Type}
theorem y_while (f : S → Option (Stp S R)) (I : S → Prop) (μ : S → Nat) (E : S ⊕ R → Prop) {s : S} (h0 : I s)
    (hs : ∀ s, I s → Yes (f s) fun t => match t with | .nx s' => I s' ∧ μ s' < μ s | .bk s' => E (.inl s') | .rt r => E (.inr r)) : Yes (whileR f s) E := by
  have key : ∀ (n : Nat) (s : S), μ s < n → I s → ∃ o, iterM f n s = some o ∧ E o := by
    intro n
    induction n with
    | zero => intro s h; omega
    | succ n ih =>
      intro s h hI
      obtain ⟨t, h1, h2⟩ := hs s hI
      unfold iterM
      rw [h1]
      cases t with
      | nx s' => exact ih s' (by have := h2.2; omega) h2.1
      | bk s' => exact ⟨_, rfl, h2⟩
      | rt r => exact ⟨_, rfl, h2⟩
  obtain ⟨o, h1, h2⟩ := key _ s (Nat.lt_succ_self _) h0
  exact ⟨o, whileR_of h1, h2⟩
theorem y_whileB (f : S → Option (Stp S Empty)) (I : S → Prop) (μ : S → Nat) (E : S → Prop) {s : S} (h0 : I s)
    (hs : ∀ s, I s → Yes (f s) fun t => match t with | .nx s' => I s' ∧ μ s' < μ s | .bk s' => E s' | .rt r => False) : Yes (whileB f s) E := by
  obtain ⟨o, h1, h2⟩ := y_while f I μ (fun o => match o with | .inl s => E s | .inr r => False) h0 fun s hI => (hs s hI).mono fun t ht => by cases t <;> exact ht
  unfold whileB
  rw [h1]
  cases o with
  | inl s => exact ⟨s, rfl, h2⟩
  | inr r => exact h2.elim
end
end L3

namespace L3
open PySem L2
open Evl (Ex ex_rd ex_l ex_t sq_of st_of fresh_back)
/-! ### sorted ints -/
def sortL (xs : List Int) : List Int := xs.mergeSort fun a b => decide (a ≤ b)
theorem sortL_perm (xs : List Int) : (sortL xs).Perm xs := List.mergeSort_perm xs _
theorem sortL_le (xs : List Int) : (sortL xs).Pairwise (· ≤ ·) := by
  refine (List.pairwise_mergeSort (le := fun a b : Int => decide (a ≤ b)) (fun a b c h1 h2 => ?_) (fun a b => ?_) xs).imp fun {a b} h => of_decide_eq_true h
  · simp at *; omega
  · simp; omega
theorem sortL_eq {ys xs : List Int} (hp : ys.Perm xs) (hs : ys.Pairwise (· ≤ ·)) : ys = sortL xs :=
  List.Perm.eq_of_pairwise (le := fun a b : Int => a ≤ b) (fun a b _ _ h1 h2 => Int.le_antisymm h1 h2) hs (sortL_le xs) (hp.trans (sortL_perm xs).symm)
theorem paired_intsY {K : Fg} {B : Hp} : ∀ ns : List Int, Paired (rInt.is K B) (ns.map V.int) ns
  | [] => .nil
  | _ :: l => .cons rfl (paired_intsY l)
section
variable {K : Fg} {M : Fr} {σ : St} {B B' H H' : Hp} {L L1 L2 L' : List Cell} {α β γ δ : Type} {r : Rep α} {s : Rep β} {t : Rep γ} {ta tb tc te : TE} {tt tu : TT} {tA : TA} {i j k : Int} {b c : Bool} {D : Ends} {tz t1 t2 : TS}
theorem el_sorted {xs : List Int} (h : EV K M te σ B L (rScr rInt) xs L') : EVL K M (tCB (rSortedI K) (tCons te tNil)) σ B L rInt (sortL xs) L' := fun B1 H e w Q q =>
  h B1 H e w _ fun v B2 H2 e2 w2 hv => by
    obtain ⟨p, vs, rfl, hs, hp⟩ := hv
    have ev := ints_of hp
    subst ev
    refine ⟨p, xs, rfl, ex_l w2.b hs, fun ns l hp2 hs2 hl => ?_⟩
    rw [sortL_eq hp2 hs2]
    exact q l B2 _ e2 (w2.new hl ⟨_, rfl, paired_intsY _⟩)
/-! ### a, b, .. = a list -/
def un2 : List α → Option (α × α)
  | [a, b] => some (a, b)
  | _ => none
def un3 : List α → Option (α × α × α)
  | [a, b, c] => some (a, b, c)
  | _ => none
def un4 : List α → Option (α × α × α × α)
  | [a, b, c, d] => some (a, b, c, d)
  | _ => none
variable {Qs : St → Hp → Prop}
theorem g_U2 {as : List α} {a : α × α} {v : V} {gs : TGs} (h : (rLst r).is K B v as) (w : Own K B M L H) (e : un2 as = some a) (q : ∀ x y, r.is K B x a.1 → r.is K B y a.2 → gs [x, y] σ H Qs) : gUnl K 2 gs v σ H Qs := by
  obtain ⟨p, vs, rfl, hs, hp⟩ := h
  match as, e, vs, hp, hs with
  | [a, b], e, [x, y], .cons h1 (.cons h2 .nil), hs =>
    cases e
    exact ⟨p, _, rfl, sq_of (w.b _ _ hs), rfl, q x y h1 h2⟩
theorem g_U3 {as : List α} {a : α × α × α} {v : V} {gs : TGs} (h : (rLst r).is K B v as) (w : Own K B M L H) (e : un3 as = some a) (q : ∀ x y z, r.is K B x a.1 → r.is K B y a.2.1 → r.is K B z a.2.2 → gs [x, y, z] σ H Qs) : gUnl K 3 gs v σ H Qs := by
  obtain ⟨p, vs, rfl, hs, hp⟩ := h
  match as, e, vs, hp, hs with
  | [a, b, c], e, [x, y, z], .cons h1 (.cons h2 (.cons h3 .nil)), hs =>
    cases e
    exact ⟨p, _, rfl, sq_of (w.b _ _ hs), rfl, q x y z h1 h2 h3⟩
theorem g_U4 {as : List α} {a : α × α × α × α} {v : V} {gs : TGs} (h : (rLst r).is K B v as) (w : Own K B M L H) (e : un4 as = some a) (q : ∀ x y z u, r.is K B x a.1 → r.is K B y a.2.1 → r.is K B z a.2.2.1 → r.is K B u a.2.2.2 → gs [x, y, z, u] σ H Qs) : gUnl K 4 gs v σ H Qs := by
  obtain ⟨p, vs, rfl, hs, hp⟩ := h
  match as, e, vs, hp, hs with
  | [a, b, c, d], e, [x, y, z, u], .cons h1 (.cons h2 (.cons h3 (.cons h4 .nil))), hs =>
    cases e
    exact ⟨p, _, rfl, sq_of (w.b _ _ hs), rfl, q x y z u h1 h2 h3 h4⟩
end
end L3

namespace L3G
open PySem L2
variable {X : Cx}
/-! ### is True, is False -/
def rIsB : R2 := fun x y H Q => ∃ a b, x = .bl a ∧ y = .bl b ∧ Q (.bl (decide (a = b))) H
def rNotB : R2 := fun x y H Q => ∃ a b, x = .bl a ∧ y = .bl b ∧ Q (.bl (!decide (a = b))) H
theorem op_isB : OpR X (compareOp .Is) rIsB := by
  intro pins s σ H x y v u Q I rx ry h
  obtain ⟨a, b, rfl, rfl, q⟩ := h
  cases (show v = Value.bool a from rx)
  cases (show u = Value.bool b from ry)
  exact wpAny_is_plain rfl (fin_bl I q (by cases a <;> cases b <;> rfl))
theorem op_isnB : OpR X (compareOp .IsNot) rNotB := by
  intro pins s σ H x y v u Q I rx ry h
  obtain ⟨a, b, rfl, rfl, q⟩ := h
  cases (show v = Value.bool a from rx)
  cases (show u = Value.bool b from ry)
  exact wpAny_isNot_plain rfl (fin_bl I q (by cases a <;> cases b <;> rfl))
end L3G
namespace L3
open PySem L2
open Evl (Ex ex_rd ex_l ex_t sq_of st_of fresh_back)
/-! ### any new thing that may change -/
def ENC (K : Fg) (M : Fr) {α : Type} (te : TE) (σ : St) (B : Hp) (L : List Cell) (c : CRep α) (a : α) (L' : List Cell) : Prop :=
  ∀ B1 H, Ex B B1 → Own K B1 M L H → ∀ Q : VK, (∀ p B2 H2, Ex B1 B2 → Own K B2 M (⟨p, c, a⟩ :: L') H2 → Q (.ref p) H2) → te σ H Q
def spC (K : Fg) (T : List Addr) {α : Type} (c : CRep α) (C : List Arg → List Cell → α → List Cell → Prop) : Sp := fun vs H Q _ => ∃ B M L as x L', M.T = T ∧ Own K B M L H ∧ ArgsIs K B vs as ∧ C as L x L' ∧
  ∀ p B' H', Ex B B' → Own K B' M (⟨p, c, x⟩ :: L') H' → Q (.ref p) H'
/-- a dict of a list and an int -/
def cBox : CRep (List Int × Int) := ⟨fun K B o a => ∃ q, o = .dK [(Sum.inr "row", .ref q), (Sum.inr "at", .int a.2)] ∧ (rLst rInt).is K B (.ref q) a.1, fun e ⟨q, h1, h2⟩ => ⟨q, h1, (rLst rInt).mono e h2⟩⟩
section
variable {K : Fg} {M : Fr} {σ : St} {B B' H H' : Hp} {L L1 L2 L' : List Cell} {α β γ δ : Type} {r : Rep α} {s : Rep β} {t : Rep γ} {ta tb tc te : TE} {tt tu : TT} {tA : TA} {i j k : Int} {b c : Bool} {D : Ends} {tz t1 t2 : TS}
theorem nt_box : NT cBox := ⟨fun ⟨q, h, _⟩ => by subst h; trivial⟩
theorem ec_call {cr : CRep α} {C : List Arg → List Cell → α → List Cell → Prop} {E : XK} {as : List Arg} {x : α} (ha : EA K M tA σ B L as L1) (h : C as [] x []) : ENC K M (tCall (spC K M.T cr C) [] E tA) σ B L cr x L1 := fun B1 H e w Q q =>
  ha B1 H e w _ fun vs B2 H2 e2 w2 hv => by
    show spC K M.T cr C (vs ++ []) H2 Q E
    rw [List.append_nil]
    refine ⟨B2, absorb M L1 H2, [], as, x, [], rfl, w2.lend (L1 := []) (L2 := L1) (fun _ h => absurd h (by simp)) (fun _ h => h) (by simp) (fun _ h => absurd h (by simp)), hv, h, fun p B' H' e3 w3 => ?_⟩
    exact q p B' H' (e2.trans e3) (back_new w2 e3 w3)
theorem q_asgC {n : Nat} {cr : CRep α} {a : α} (w : Own K B M L H) (h : ENC K M te σ B L cr a L') (q : ∀ p B' H', Ex B B' → Own K B' M (⟨p, cr, a⟩ :: L') H' → tz D (σ.set n (some (.ref p))) H') : tSeq (tAsg te (gName n)) tz D σ H := h B H (Ex.refl _) w _ q
theorem q_retNC {cr : CRep α} {a : α} (w : Own K B M L H) (h : ENC K M te σ B L cr a L') (q : ∀ p B' H', Ex B B' → Own K B' M (⟨p, cr, a⟩ :: L') H' → D.rt (.ref p) H') : tSeq (tRet te) tz D σ H := h B H (Ex.refl _) w _ q
theorem ec_box {tx ty : TE} {xs : List Int} (hx : ∀ p, EV K M tx σ B (⟨p, cDk, []⟩ :: L) (rLst rInt) xs (⟨p, cDk, []⟩ :: L1)) (hy : ∀ p, EV K M ty σ B (⟨p, cDk, []⟩ :: L1) rInt i (⟨p, cDk, []⟩ :: L')) : ENC K M (tDisp [(tC (.str "row"), tx), (tC (.str "at"), ty)]) σ B L cBox (xs, i) L' := fun B1 H e w Q q p hp => by
  have w1 : Own K B1 M (⟨p, cDk, []⟩ :: L) (upd H p (.dK [])) := w.new hp rfl
  refine hx p B1 _ e w1 _ fun u B2 H2 e2 w2 hu => hy p B2 H2 (e.trans e2) w2 _ fun v B3 H3 e3 w3 hv => ?_
  have hv : v = .int i := hv
  obtain ⟨l, vs, rfl, hl⟩ := (rLst rInt).mono e3 hu
  obtain ⟨⟨o, h1, h2⟩, _⟩ := w3.at (i := 0) rfl
  have h1 : H3 p = some o := h1
  have h2 : o = .dK [] := h2
  refine ⟨by rw [h1, h2], [(Sum.inr "row", .ref l), (Sum.inr "at", v)], rfl, by show 2 ≤ 15; decide, ?_⟩
  refine q p B3 _ (e2.trans e3) ?_
  have := w3.set (i := 0) (o := .dK (mergeK [] [(Sum.inr "row", V.ref l), (Sum.inr "at", v)])) rfl (c' := cBox) (a' := (xs, i)) ⟨l, by rw [hv]; rfl, l, vs, rfl, hl⟩
  exact this
theorem ev_boxAt {n m : Nat} {p : Addr} {x : List Int × Int} (hs : σ[m]? = some (some (.ref p))) (hc : L[n]? = some ⟨p, cBox, x⟩) : EV K M (tDGet (tVar m) (tC (.str "at"))) σ B L rInt x.2 L := fun B1 H e w Q q => by
  obtain ⟨⟨o, h1, l, h2, h3⟩, _⟩ := w.at hc
  have h1 : H p = some o := h1
  subst h2
  exact ⟨_, hs, p, .int x.2, rfl, DGet.k (k := Sum.inr "at") h1, q _ B1 H (Ex.refl _) w rfl⟩
theorem ev_boxRow {n m : Nat} {p : Addr} {x : List Int × Int} (hs : σ[m]? = some (some (.ref p))) (hc : L[n]? = some ⟨p, cBox, x⟩) : EV K M (tDGet (tVar m) (tC (.str "row"))) σ B L (rLst rInt) x.1 L := fun B1 H e w Q q => by
  obtain ⟨⟨o, h1, l, h2, h3⟩, _⟩ := w.at hc
  have h1 : H p = some o := h1
  subst h2
  exact ⟨_, hs, p, .ref l, rfl, DGet.k (k := Sum.inr "row") h1, q _ B1 H (Ex.refl _) w h3⟩
theorem q_boxAt {n m : Nat} {p : Addr} {x : List Int × Int} (w : Own K B M L H) (h : EV K M te σ B L rInt i L1) (hs : σ[m]? = some (some (.ref p))) (hc : L1[n]? = some ⟨p, cBox, x⟩)
    (q : ∀ B' H', Ex B B' → Own K B' M (L1.set n ⟨p, cBox, (x.1, i)⟩) H' → tz D σ H') : tSeq (tAsg te (gSub (tVar m) (tC (.str "at")) rSetD)) tz D σ H :=
  h B H (Ex.refl _) w _ fun v B1 H1 e1 w1 hv => ⟨_, hs, by
    obtain ⟨⟨o, h1, l, h2, h3⟩, _⟩ := w1.at hc
    have h1 : H1 p = some o := h1
    have hv : v = .int i := hv
    subst h2 hv
    refine ⟨p, _, rfl, DPut.k (k := Sum.inr "at") h1 (by show 2 < sizeLine; decide), q B1 _ e1 ?_⟩
    exact w1.set (c' := cBox) (a' := (x.1, i)) hc ⟨l, rfl, h3⟩⟩
/-! ### is True; texts in a tuple -/
theorem ev_isB {x y : Bool} (ha : EV K M ta σ B L rBool x L1) (hb : EV K M tb σ B L1 rBool y L2) : EV K M (tOp L3G.rIsB ta tb) σ B L rBool (decide (x = y)) L2 :=
  ev_op ha hb fun _ _ _ _ _ _ hx hy q => ⟨x, y, hx, hy, q _ rfl⟩
theorem ev_isnB {x y : Bool} (ha : EV K M ta σ B L rBool x L1) (hb : EV K M tb σ B L1 rBool y L2) : EV K M (tOp L3G.rNotB ta tb) σ B L rBool (!decide (x = y)) L2 :=
  ev_op ha hb fun _ _ _ _ _ _ hx hy q => ⟨x, y, hx, hy, q _ rfl⟩
theorem strs_of : ∀ {vs : List V} {xs : List Str}, Paired (rStr.is K B) vs xs → vs = xs.map V.str
  | _, _, .nil => rfl
  | _, _, .cons h t => by
    have h : _ = V.str _ := h
    rw [h, strs_of t]; rfl
theorem flat_strs : ∀ xs : List Str, (xs.map V.str).all flatV = true
  | [] => rfl
  | x :: xs => by rw [List.map_cons, List.all_cons, flat_strs xs]; rfl
theorem inV_strs (k : Str) : ∀ xs : List Str, inV (.str k) (xs.map V.str) = decide (k ∈ xs)
  | [] => rfl
  | x :: xs => by
    have ih := inV_strs k xs
    unfold inV at ih ⊢
    rw [List.map_cons, List.any_cons, ih]
    have e : eqV (.str x) (.str k) = decide (x = k) := by
      show (x == k) = _
      rw [Bool.eq_iff_iff, beq_iff_eq, decide_eq_true_iff]
    rw [e]
    clear ih e
    by_cases h : x = k
    · subst h
      rw [decide_eq_true rfl, Bool.true_or, decide_eq_true (List.mem_cons_self)]
    · rw [decide_eq_false h, Bool.false_or]
      by_cases h2 : k ∈ xs
      · rw [decide_eq_true h2, decide_eq_true (List.mem_cons_of_mem _ h2)]
      · rw [decide_eq_false h2, decide_eq_false fun z => (List.mem_cons.mp z).elim (fun q => h q.symm) h2]
theorem sq_strs {v : V} {xs : List Str} (e : Ex B H) (h : (rSeq rStr).is K B v xs) : ∃ p, v = .ref p ∧ (SqL K H p (xs.map V.str) ∨ SqT K H p (xs.map V.str)) := by
  obtain ⟨p, vs, h1, h2, h3⟩ := h
  have ev := strs_of h3
  subst ev
  exact ⟨p, h1, h2.imp (ex_l e) (ex_t e)⟩
theorem ev_inS {z : Str} {xs : List Str} (h : EV K M ta σ B L rStr z L1) (h' : EV K M tb σ B L1 (rSeq rStr) xs L2) : EV K M (tOp (rIn K false) ta tb) σ B L rBool (decide (z ∈ xs)) L2 := fun B1 H e w Q q =>
  h B1 H e w _ fun v B2 H2 e2 w2 hv => h' B2 H2 (e.trans e2) w2 _ fun u B3 H3 e3 w3 hu => by
    have hv : v = .str z := hv
    subst hv
    obtain ⟨p, rfl, hs⟩ := sq_strs w3.b hu
    refine ⟨p, _, rfl, hs, rfl, flat_strs xs, ?_⟩
    rw [inV_strs]
    exact q _ B3 H3 (e2.trans e3) w3 rfl
theorem ev_niS {z : Str} {xs : List Str} (h : EV K M ta σ B L rStr z L1) (h' : EV K M tb σ B L1 (rSeq rStr) xs L2) : EV K M (tOp (rIn K true) ta tb) σ B L rBool (!decide (z ∈ xs)) L2 := fun B1 H e w Q q =>
  h B1 H e w _ fun v B2 H2 e2 w2 hv => h' B2 H2 (e.trans e2) w2 _ fun u B3 H3 e3 w3 hu => by
    have hv : v = .str z := hv
    subst hv
    obtain ⟨p, rfl, hs⟩ := sq_strs w3.b hu
    refine ⟨p, _, rfl, hs, rfl, flat_strs xs, ?_⟩
    rw [inV_strs]
    exact q _ B3 H3 (e2.trans e3) w3 rfl
/-! ### data that is known to be of a kind -/
def asS : PyData → Option Str
  | .str x => some x
  | _ => none
def asI : PyData → Option Int
  | .int i => some i
  | _ => none
def asB : PyData → Option Bool
  | .bool b => some b
  | _ => none
def asT : PyData → Option (List PyData)
  | .tuple ds => some ds
  | _ => none
def asIs : List PyData → Option (List Int)
  | [] => some []
  | .int i :: ds => (asIs ds).map (i :: ·)
  | _ :: _ => none
def asQ : PyData → Option (Int × Int)
  | .tuple [.int i, .int j] => some (i, j)
  | _ => none
variable {d : PyData}
theorem ev_asS {z : Str} (h : EV K M te σ B L rDat d L') (e : asS d = some z) : EV K M te σ B L rStr z L' := ev_as h fun _ _ h => by
  have h : Dp _ _ _ d := h
  cases h <;> cases e
  rfl
theorem ev_asI (h : EV K M te σ B L rDat d L') (e : asI d = some i) : EV K M te σ B L rInt i L' := ev_as h fun _ _ h => by
  have h : Dp _ _ _ d := h
  cases h <;> cases e
  rfl
theorem ev_asB (h : EV K M te σ B L rDat d L') (e : asB d = some b) : EV K M te σ B L rBool b L' := ev_as h fun _ _ h => by
  have h : Dp _ _ _ d := h
  cases h <;> cases e
  rfl
theorem ev_asT {ds : List PyData} (h : EV K M te σ B L rDat d L') (e : asT d = some ds) : EV K M te σ B L (rTup rDat) ds L' := ev_as h fun _ _ h => by
  have h : Dp _ _ _ d := h
  cases h with
  | tup hs hd => cases e; exact ⟨_, _, rfl, hs, dpAll_paired hd⟩
  | _ => cases e
theorem asIs_paired : ∀ {vs : List V} {ds : List PyData} {is : List Int}, Paired (rDat.is K B) vs ds → asIs ds = some is → Paired (rInt.is K B) vs is
  | _, _, _, .nil, e => by cases e; exact .nil
  | v :: vs, d :: ds, is, .cons h t, e => by
    have h : Dp K B v d := h
    cases d <;> try (cases e)
    rename_i i
    unfold asIs at e
    cases hi : asIs ds with
    | none => rw [hi] at e; cases e
    | some js =>
      rw [hi] at e
      cases e
      cases h
      exact .cons rfl (asIs_paired t hi)
theorem ev_asIs {ds : List PyData} {is : List Int} (h : EV K M te σ B L (rTup rDat) ds L') (e : asIs ds = some is) : EV K M te σ B L (rTup rInt) is L' := ev_as h fun _ _ ⟨p, vs, h1, h2, h3⟩ => ⟨p, vs, h1, h2, asIs_paired h3 e⟩
theorem dpQ {v : V} {q : Int × Int} (h : Dp K B v d) (e : asQ d = some q) : (rT2 rInt rInt).is K B v q := by
  unfold asQ at e
  split at e
  · cases e
    cases h with
    | tup hs hd =>
      cases hd with
      | cons h1 h2 =>
        cases h2 with
        | cons h2 h3 =>
          cases h3
          cases h1
          cases h2
          exact ⟨_, _, _, rfl, hs, rfl, rfl⟩
  · cases e
theorem ev_asQ {q : Int × Int} (h : EV K M te σ B L rDat d L') (e : asQ d = some q) : EV K M te σ B L (rT2 rInt rInt) q L' := ev_as h fun _ _ h => dpQ h e
/-- len of a pair -/
theorem ev_lenT2 {a : α × β} (ha : EV K M ta σ B L (rT2 r s) a L1) : EV K M (tCB (rLen K) (tCons ta tNil)) σ B L rInt 2 L1 :=
  ev_cb1 ha fun B1 H1 x Q w hx q => by
    obtain ⟨p, u, v, rfl, hs, h1, h2⟩ := hx
    exact ⟨p, _, rfl, .inr (ex_t w.b hs), q _ rfl⟩
end
/-! ### a list of two kinds -/
def rL2 {α β : Type} (r : Rep α) (s : Rep β) : Rep (α × β) := ⟨fun K B v a => ∃ p x y, v = .ref p ∧ B p = some (.lst [x, y]) ∧ r.is K B x a.1 ∧ s.is K B y a.2,
  fun e ⟨p, x, y, h1, h2, h3, h4⟩ => ⟨p, x, y, h1, e _ _ h2, r.mono e h3, s.mono e h4⟩⟩
def dL2 {α β : Type} (f : α → PyData) (g : β → PyData) (a : α × β) : PyData := .list [f a.1, g a.2]
section
variable {K : Fg} {M : Fr} {σ : St} {B B' H H' : Hp} {L L1 L2 L' : List Cell} {α β γ δ : Type} {r : Rep α} {s : Rep β} {t : Rep γ} {ta tb tc te : TE} {tA : TA} {f : α → PyData} {g : β → PyData} {n m : Nat}
theorem ev_L2 {a : α} {b : β} (h : EA K M tA σ B L [⟨r, a⟩, ⟨s, b⟩] L') : EV K M (tLst tA) σ B L (rL2 r s) (a, b) L' := fun B1 H e w Q q =>
  h B1 H e w _ fun vs B2 H2 e2 w2 hv => by
    match vs, hv with
    | [x0, x1], ⟨h1, h2, _⟩ =>
      refine ⟨by show 2 ≤ sizeLine; decide, fun p hp => ?_⟩
      have eN := Ex.new (o := HO.lst [x0, x1]) (fresh_back w2.b hp)
      exact q _ (upd B2 p _) _ (e2.trans eN) (w2.ext hp) ⟨p, _, _, rfl, upd_same, r.mono eN h1, s.mono eN h2⟩
theorem ev_L2fst {a : α × β} (ha : EV K M ta σ B L (rL2 r s) a L1) : EV K M (tOp (rIx K) ta (tC (.int 0))) σ B L r a.1 L1 := fun B1 H e w Q q =>
  ha B1 H e w _ fun x B2 H2 e2 w2 hx => by
    obtain ⟨p, x0, x1, rfl, hs, h0, h1⟩ := hx
    exact .inl ⟨p, _, 0, x0, rfl, rfl, sq_of (w2.b _ _ hs), rfl, q _ B2 H2 e2 w2 h0⟩
theorem ev_L2snd {a : α × β} (ha : EV K M ta σ B L (rL2 r s) a L1) : EV K M (tOp (rIx K) ta (tC (.int 1))) σ B L s a.2 L1 := fun B1 H e w Q q =>
  ha B1 H e w _ fun x B2 H2 e2 w2 hx => by
    obtain ⟨p, x0, x1, rfl, hs, h0, h1⟩ := hx
    exact .inl ⟨p, _, 1, x1, rfl, rfl, sq_of (w2.b _ _ hs), rfl, q _ B2 H2 e2 w2 h1⟩
theorem dr_L2 (d : DR r f n) (e : DR s g m) : DR (rL2 r s) (dL2 f g) (max n m + 1) := ⟨fun K B v a ⟨p, x, y, h1, h2, h3, h4⟩ => by subst h1; exact .lst (sq_of h2) (.cons (d.dp _ _ _ _ h3) (.cons (e.dp _ _ _ _ h4) .nil)),
  fun a => by simp [dL2, PyData.canLay0, PyData.canLayAll0, d.lay, e.lay], fun a => by have := d.dep a.1; have := e.dep a.2; simp only [dL2, PyData.depth, PyData.depthAll]; omega,
  fun a b => by simp only [dL2, PyData.eqv, PyData.eqvAll, Bool.and_true, Bool.and_eq_true, d.eqv, e.eqv]; exact ⟨fun ⟨x, y⟩ => Prod.ext x y, fun e => by rw [e]; exact ⟨rfl, rfl⟩⟩,
  fun a b q => by unfold dL2 at q; injection q with q; injection q with q1 q2; injection q2 with q2 _; exact Prod.ext (d.inj _ _ q1) (e.inj _ _ q2)⟩
theorem dq_L2 (d : DQ r f) (e : DQ s g) : DQ (rL2 r s) (dL2 f g) := fun K B v a ⟨p, x, y, h1, h2, h3, h4⟩ => by subst h1; exact .lst (sq_of h2) (.cons (d _ _ _ _ h3) (.cons (e _ _ _ _ h4) .nil))
end
/-! ### a global dict of texts -/
def lookI : List (Str × Int) → Str → Option Int
  | [], _ => none
  | q :: l, z => if q.1 = z then some q.2 else lookI l z
def entB : List DictEntry → List (Str × Int) → Bool
  | [], [] => true
  | e :: es, q :: qs => (match e.key, e.val with
    | .str k _, .int i _ => decide (k = q.1) && decide (i = q.2)
    | _, _ => false) && entB es qs
  | _, _ => false
def tabG (K : Fg) (x : Str) (l : List (Str × Int)) : Bool := match PySem.W.nsIn K mainGlobals x with
  | some (some (.ref a)) => decide (a = He.ga K x) && (match K.lookup a with
    | some ⟨_, _, .dict es _, _⟩ => entB es.toList l
    | _ => false)
  | _ => false
structure GD (K : Fg) (w : World) (mg : Str → Option Value) (x : Str) (l : List (Str × Int)) : Prop where
  ex : ∃ a es n, mg x = some (.ref a) ∧ KDict K w a es n ∧ (∀ z, lookI l z = none → PySem.W.nsIn K a z = some none) ∧ ∀ z i, lookI l z = some i → ∃ t, PySem.W.nsIn K a z = some (some (.int i t))
theorem ent_find : ∀ {es : List DictEntry} {l : List (Str × Int)} (z : Str), entB es l = true → (lookI l z = none → es.find? (·.key.isStr z) = none ∧ es.any (·.refKey) = false) ∧ ∀ i, lookI l z = some i → ∃ e t, es.find? (·.key.isStr z) = some e ∧ e.val = .int i t
  | [], [], z, _ => ⟨fun _ => ⟨rfl, rfl⟩, fun i h => by cases h⟩
  | e :: es, q :: l, z, h => by
    unfold entB at h
    rw [Bool.and_eq_true] at h
    obtain ⟨h1, h2⟩ := h
    have ih := ent_find z h2
    obtain ⟨hh, ek, ev⟩ := e
    cases ek <;> try (cases h1)
    cases ev <;> try (cases h1)
    rename_i k tk i ti
    have h1 : (decide (k = q.1) && decide (i = q.2)) = true := h1
    rw [Bool.and_eq_true, decide_eq_true_iff, decide_eq_true_iff] at h1
    obtain ⟨rfl, rfl⟩ := h1
    unfold lookI
    have is : (Value.str q.1 tk).isStr z = decide (q.1 = z) := by
      rw [Bool.eq_iff_iff, decide_eq_true_iff]
      show (q.1 == z) = true ↔ _
      exact beq_iff_eq
    by_cases e : q.1 = z
    · rw [if_pos e]
      refine ⟨fun h => (by cases h), fun i h => ?_⟩
      cases h
      refine ⟨⟨hh, .str q.1 tk, .int q.2 ti⟩, ti, ?_, rfl⟩
      rw [List.find?_cons, is, decide_eq_true e]
    · rw [if_neg e]
      refine ⟨fun h => ?_, fun i h => ?_⟩
      · obtain ⟨a, b⟩ := ih.1 h
        refine ⟨?_, ?_⟩
        · rw [List.find?_cons, is, decide_eq_false e]; exact a
        · rw [List.any_cons, b]; rfl
      · obtain ⟨e', t, a, b⟩ := ih.2 i h
        refine ⟨e', t, ?_, b⟩
        rw [List.find?_cons, is, decide_eq_false e]; exact a
theorem tabG_ok {K : Fg} {w : World} {h : Heap} {mg : Str → Option Value} {x : Str} {l : List (Str × Int)} (X : K.In h) (G : h.Ns mainGlobals mg) (e : tabG K x l = true) (D : ∃ es n, KDict K w (He.ga K x) es n) : GD K w mg x l := by
  unfold tabG at e
  split at e
  · rename_i a ha
    rw [Bool.and_eq_true, decide_eq_true_iff] at e
    obtain ⟨ea, e⟩ := e
    obtain ⟨es, n, D⟩ := D
    rw [← ea] at D
    rw [D.at_] at e
    have e : entB es.toList l = true := e
    refine ⟨a, es, n, PySem.W.mg_of X G ha, D, fun z hz => ?_, fun z i hz => ?_⟩
    · obtain ⟨h1, h2⟩ := (ent_find z e).1 hz
      unfold PySem.W.nsIn
      rw [D.at_]
      show (match es.toList.find? (·.key.isStr z) with | some e => some (some e.val) | none => if es.toList.any (·.refKey) then none else some none) = _
      rw [h1, h2]; rfl
    · obtain ⟨e', t, h1, h2⟩ := (ent_find z e).2 i hz
      refine ⟨t, ?_⟩
      unfold PySem.W.nsIn
      rw [D.at_]
      show (match es.toList.find? (·.key.isStr z) with | some e => some (some e.val) | none => if es.toList.any (·.refKey) then none else some none) = _
      rw [h1, ← h2]
  · cases e
section
variable {K : Fg} {M : Fr} {σ : St} {B B' H H' : Hp} {L L1 L2 L' : List Cell} {α β γ δ : Type} {r : Rep α} {s : Rep β} {t : Rep γ} {ta tb tc te : TE} {tt tu : TT} {tA : TA} {i j k : Int} {b c : Bool} {D : Ends} {tz t1 t2 : TS}
abbrev rInG (K : Fg) (d : Addr) : R2 := fun x y H Q => ∃ (z : Str) (r : Option Value), x = .str z ∧ y = .ref d ∧ PySem.W.nsIn K d z = some r ∧ Q (.bl r.isSome) H
abbrev rNiG (K : Fg) (d : Addr) : R2 := fun x y H Q => ∃ (z : Str) (r : Option Value), x = .str z ∧ y = .ref d ∧ PySem.W.nsIn K d z = some r ∧ Q (.bl (!r.isSome)) H
theorem ev_inG {d : Addr} {z : Str} {l : List (Str × Int)} (h0 : ∀ z, lookI l z = none → PySem.W.nsIn K d z = some none) (h1 : ∀ z i, lookI l z = some i → ∃ t, PySem.W.nsIn K d z = some (some (.int i t))) (h : EV K M ta σ B L rStr z L1) (h' : EV K M tb σ B L1 rRef d L2) : EV K M (tOp (rInG K d) ta tb) σ B L rBool (lookI l z).isSome L2 :=
  ev_op h h' fun _ _ _ _ _ _ hx hy q => by
    cases e : lookI l z with
    | none => exact ⟨z, none, hx, hy, h0 z e, q _ (by rw [e]; rfl)⟩
    | some i =>
      obtain ⟨t, ht⟩ := h1 z i e
      exact ⟨z, _, hx, hy, ht, q _ (by rw [e]; rfl)⟩
theorem ev_niG {d : Addr} {z : Str} {l : List (Str × Int)} (h0 : ∀ z, lookI l z = none → PySem.W.nsIn K d z = some none) (h1 : ∀ z i, lookI l z = some i → ∃ t, PySem.W.nsIn K d z = some (some (.int i t))) (h : EV K M ta σ B L rStr z L1) (h' : EV K M tb σ B L1 rRef d L2) : EV K M (tOp (rNiG K d) ta tb) σ B L rBool (!(lookI l z).isSome) L2 :=
  ev_op h h' fun _ _ _ _ _ _ hx hy q => by
    cases e : lookI l z with
    | none => exact ⟨z, none, hx, hy, h0 z e, q _ (by rw [e]; rfl)⟩
    | some i =>
      obtain ⟨t, ht⟩ := h1 z i e
      exact ⟨z, _, hx, hy, ht, q _ (by rw [e]; rfl)⟩
theorem ev_ixG {w0 : World} {d : Addr} {es : Array DictEntry} {n : Nat} {z : Str} {l : List (Str × Int)} (D : KDict K w0 d es n) (h1 : ∀ z i, lookI l z = some i → ∃ t, PySem.W.nsIn K d z = some (some (.int i t))) (h : EV K M ta σ B L rRef d L1) (h' : EV K M tb σ B L1 rStr z L2) (e : lookI l z = some i) : EV K M (tOp (rIxD K w0) ta tb) σ B L rInt i L2 :=
  ev_op h h' fun _ _ _ _ _ _ hx hy q => by
    obtain ⟨t, ht⟩ := h1 z i e
    exact ⟨d, z, .int i, hx, hy, ⟨es, n, .int i t, D.at_, D.lit, ht, ⟨t, rfl⟩⟩, q _ rfl⟩
end
end L3

namespace L3G
open PySem PySem.Spec PyProof.Rows L2
variable {X : Cx}
/-- name = {k: v for ..} on one line, the name a local -/
theorem ps_setDc {i : Nat} {y : Str} {py : Pos} {kx vx tg iter : Expr} {ifs : List Expr} {scope : Scope} {own : List (Str × Nat)} {pos spos : Pos} {wi : TI} {g : TG} {tt : TT} {tk tv : TE} (hc : X.calm = true) (hN : X.N.Nodup) (hy : X.N[i]? = some y) (hyl : X.env.scope.names.lookup y = some .local)
    (hsw : swapsWith (.DictComp kx vx [⟨tg, iter, ifs, 0⟩] scope pos) (some (.Name y py)) spos.line X.env = pure true) (hi : PI X tg iter wi) (ok : BlkOk X.N X.env.scope scope own)
    (hg : ∀ (s : Shared) (H : Hp) (C : Addr) (cl : List (Str × Addr)) (fp : List Addr), PG (X.blk s H scope (compEnvC scope cl C X.env) fp) tg g) (ht : ∀ (s : Shared) (H : Hp) (C : Addr) (cl : List (Str × Addr)) (fp : List Addr), PTs (X.blk s H scope (compEnvC scope cl C X.env) fp) ifs tt)
    (hk : ∀ (s : Shared) (H : Hp) (C : Addr) (cl : List (Str × Addr)) (fp : List Addr), PE (X.blk s H scope (compEnvC scope cl C X.env) fp) kx tk)
    (he : ∀ (s : Shared) (H : Hp) (C : Addr) (cl : List (Str × Addr)) (fp : List Addr), PE (X.blk s H scope (compEnvC scope cl C X.env) fp) vx tv) (hs : ∀ x, foldedSetIterable iter X.env x = pure x := by intro _; rfl) :
    PS X (.Assign [.Name y py] (.DictComp kx vx [⟨tg, iter, ifs, 0⟩] scope pos) spos) (tAsg (tDc wi g tt tk tv (own.map (·.2))) (gName i)) := by
  refine ⟨fun pins s σ H D I h => ?_⟩
  rw [exec_Assign_Name_used _ _ _ _ hsw]
  refine wpAny_bind (wpAny_standAt (wpAny_bind ?_))
  show wpAny _ X.A (do let _ ← comprehension (.DictComp kx vx [⟨tg, iter, ifs, 0⟩] scope pos) scope X.env (firstIterPos [⟨tg, iter, ifs, 0⟩] pos) newDict false (eval iter X.env) (some (assign (.Name y py) X.env))) _ _ s
  have h : tDc wi g tt tk tv (own.map (·.2)) σ H (fun x H1 => gName i x σ H1 D.nx) := h
  refine wpAny_bind (thn (dc_core (Qf := fun _ s' => SP X pins D .next s') hc hN I hi ok hg ht hk he hs h fun L C s' m H' I' q hn f => ?_) fun _ s' hq => wpAny_pure (wpAny_pure hq))
  show wpAny _ _ (assign (.Name y py) X.env (.ref L)) _ _ _
  refine wpAny_assign_Name (store_ok2 (v := V.ref L) I' hN hy (.inl hyl) rfl (fun s2 I2 ⟨a, sb, ha⟩ => ?_) (.inr hyl))
  obtain ⟨f0, f1, f2, f3, f4, f5⟩ := f
  have haC : C ≠ a := by
    rcases ha with z | z
    · rw [z]; exact f1
    · exact fun e => f4 y a z e.symm
  refine ⟨m, hn.sameBut sb haC, fun h3 sb3 => ?_⟩
  exact ⟨_, H', I2.turned (t' := s2.toks) (fun b o hb e => (sb3.2 b hb).trans e) f0 f1 f3 f4 f5, q⟩
end L3G
namespace L3
open PySem L2
open Evl (Ex ex_rd ex_l ex_t sq_of st_of fresh_back)
/-! ### dicts of ints: made by a comprehension, read, asked -/
def getI : List (Int × Int) → Int → Option Int
  | [], _ => none
  | q :: l, k => if q.1 = k then some q.2 else getI l k
theorem valV_enc (k : Int) : ∀ kvs : List (Int × Int), valV (L3G.encI kvs) (Sum.inl k : Key) = (getI kvs k).map V.int
  | [] => rfl
  | q :: l => by
    have ih := valV_enc k l
    unfold valV L3G.encI at ih ⊢
    rw [List.map_cons, List.find?_cons]
    unfold getI
    by_cases h : q.1 = k
    · rw [if_pos h]
      have : (decide ((Sum.inl q.1 : Key) = Sum.inl k)) = true := decide_eq_true (by rw [h])
      rw [this]
      rfl
    · rw [if_neg h]
      have : (decide ((Sum.inl q.1 : Key) = Sum.inl k)) = false := decide_eq_false fun z => h (Sum.inl.inj z)
      rw [this]
      exact ih
def dcM {α : Type} (f : α → Option (Int × Int)) : List (Int × Int) → List α → Option (List (Int × Int))
  | kvs, [] => some kvs
  | kvs, x :: xs => match f x with
    | some q => dcM f (putI kvs q.1 q.2) xs
    | none => none
theorem putI_len (kvs : List (Int × Int)) (k v : Int) : (putI kvs k v).length ≤ kvs.length + 1 := by
  have h := L2.length_putK (L3G.encI kvs) (Sum.inl k : Key) (V.int v)
  rw [enc_put] at h
  simpa [L3G.encI] using h
section
variable {K : Fg} {M : Fr} {σ : St} {B : Hp} {L L1 L2 L' : List Cell} {α β γ δ : Type} {r : Rep α} {s : Rep β} {t : Rep γ} {ta tb tc te tk tv : TE} {tt tu : TT} {tA : TA} {i j k : Int} {b c : Bool} {wi : TI} {g : TG}
theorem ec_dc {vs : List Nat} {σ' : St} {xs : List α} {kvs : List (Int × Int)} (hi : EI K M wi σ B L r xs L1) (f : α → Option (Int × Int)) (hm : dcM f [] xs = some kvs) (hr : room xs.length = some ()) (hw : wipe σ vs = σ')
    (hs : ∀ x o v D acc B' H', f x = some o → Ex B B' → Own K B' M (⟨D, cDk, acc⟩ :: L1) H' → r.is K B' v x → ∀ (PY : V → V → Hp → Prop) (PN : Hp → Prop),
      (∀ y z B2 H2, Ex B' B2 → Own K B2 M (⟨D, cDk, acc⟩ :: L1) H2 → y = .int o.1 → z = .int o.2 → PY y z H2) →
      g v σ' H' fun σ2 H2 => wipe σ2 vs = σ' ∧ tYes σ2 H2 fun b H3 => if b = true then tk σ2 H3 fun y H4 => tv σ2 H4 fun z H5 => PY y z H5 else PN H3) :
    ENC K M (tDc wi g tYes tk tv vs) σ B L cDk kvs L1 := fun B1 H e w Q q => by
  refine hi B1 H e w _ fun J B2 H2 e2 w2 wk => ?_
  intro D hD
  subst hw
  have w3 : Own K B2 M (⟨D, cDk, []⟩ :: L1) (upd H2 D (.dK [])) := w2.new (c := cDk) hD rfl
  refine ⟨fun i m H' => m = xs.length - i ∧ i ≤ xs.length ∧ ∃ acc B', Ex B2 B' ∧ Own K B' M (⟨D, cDk, acc⟩ :: L1) H' ∧ acc.length ≤ i ∧ dcM f acc (xs.drop i) = some kvs,
    ⟨_, rfl, Nat.zero_le _, [], B2, Ex.refl _, w3, Nat.zero_le _, hm⟩, ?_⟩
  rintro i m H' ⟨rfl, hil, acc, B', eb, w', hacc, hz⟩
  by_cases hl : i = xs.length
  · subst hl
    rw [List.drop_length] at hz
    obtain rfl := Option.some.inj hz
    exact .inl ⟨wk.stop B' _ H' eb w', q D B' H' (e2.trans eb) w'⟩
  · have hlt : i < xs.length := by omega
    rw [List.drop_eq_getElem_cons hlt] at hz
    have hx : xs[i]? = some xs[i] := List.getElem?_eq_getElem hlt
    obtain ⟨g1, g2⟩ := wk.go i xs[i] B' _ H' eb w' hx
    unfold dcM at hz
    cases hf : f xs[i] with
    | none => rw [hf] at hz; cases hz
    | some o =>
      rw [hf] at hz
      dsimp only at hz
      refine .inr ⟨g1, fun H5 => i + 1 ≤ xs.length ∧ ∃ acc B', Ex B2 B' ∧ Own K B' M (⟨D, cDk, acc⟩ :: L1) H5 ∧ acc.length ≤ i + 1 ∧ dcM f acc (xs.drop (i + 1)) = some kvs, fun H5 h5 => ⟨xs.length - (i + 1), by omega, rfl, h5⟩, fun x H4 hy => ?_⟩
      obtain ⟨B4, e4, w4, hrx⟩ := g2 x H4 hy
      have hb := (e.trans e2).trans (eb.trans e4)
      refine hs xs[i] o x D acc B4 H4 hf hb w4 hrx (fun y z H6 => ∃ kvs' k', y = kV k' ∧ H6 D = some (.dK kvs') ∧ kvs'.length < sizeLine ∧ (fun H5 => i + 1 ≤ xs.length ∧ ∃ acc B', Ex B2 B' ∧ Own K B' M (⟨D, cDk, acc⟩ :: L1) H5 ∧ acc.length ≤ i + 1 ∧ dcM f acc (xs.drop (i + 1)) = some kvs) (upd H6 D (.dK (putK kvs' k' z)))) _ fun y z B5 H5 e5 w5 hy hz' => ?_
      subst hy hz'
      obtain ⟨⟨o', a1, a2⟩, _⟩ := w5.at (i := 0) rfl
      have a1 : H5 D = some o' := a1
      have a2 : o' = .dK (L3G.encI acc) := a2
      refine ⟨L3G.encI acc, Sum.inl o.1, rfl, by rw [a1, a2], ?_, hlt, putI acc o.1 o.2, B5, (eb.trans e4).trans e5, ?_, ?_, hz⟩
      · have hq := room_some hr
        have : (L3G.encI acc).length = acc.length := by simp [L3G.encI]
        omega
      · rw [enc_put]
        exact w5.set (i := 0) rfl (c' := cDk) rfl
      · have := putI_len acc o.1 o.2
        omega
theorem dc_yes {PY : V → V → Hp → Prop} {PN : Hp → Prop} {H : Hp} (h : tk σ H fun y H4 => tv σ H4 fun z H5 => PY y z H5) : tYes σ H fun b H3 => if b = true then tk σ H3 fun y H4 => tv σ H4 fun z H5 => PY y z H5 else PN H3 := by
  show (if true = true then tk σ H fun y H4 => tv σ H4 fun z H5 => PY y z H5 else PN H)
  rw [if_pos rfl]
  exact h
theorem ev_dGet {n : Nat} {p : Addr} {kvs : List (Int × Int)} {v : Int} (h : EV K M ta σ B L rRef p L1) (h' : EV K M tb σ B L1 rInt k L2) (hc : L2[n]? = some ⟨p, cDk, kvs⟩) (e : getI kvs k = some v) : EV K M (tDGet ta tb) σ B L rInt v L2 := fun B1 H e1 w Q q =>
  h B1 H e1 w _ fun x B2 H2 e2 w2 hx => h' B2 H2 (e1.trans e2) w2 _ fun u B3 H3 e3 w3 hu => by
    obtain ⟨⟨o', g1, g2⟩, _⟩ := w3.at hc
    have g1 : H3 p = some o' := g1
    have g2 : o' = .dK (L3G.encI kvs) := g2
    have hu : u = .int k := hu
    subst hu
    have hd : DGet H3 p (kV (Sum.inl k)) (valV (L3G.encI kvs) (Sum.inl k)) := DGet.k (by rw [g1, g2])
    rw [valV_enc, e] at hd
    exact ⟨p, .int v, hx, hd, q _ B3 H3 (e2.trans e3) w3 rfl⟩
theorem ev_dIn {n : Nat} {p : Addr} {kvs : List (Int × Int)} (h' : EV K M tb σ B L rInt k L1) (h : EV K M ta σ B L1 rRef p L2) (hc : L2[n]? = some ⟨p, cDk, kvs⟩) : EV K M (tDIn tb ta) σ B L rBool (getI kvs k).isSome L2 := fun B1 H e1 w Q q =>
  h' B1 H e1 w _ fun u B2 H2 e2 w2 hu => h B2 H2 (e1.trans e2) w2 _ fun x B3 H3 e3 w3 hx => by
    obtain ⟨⟨o', g1, g2⟩, _⟩ := w3.at hc
    have g1 : H3 p = some o' := g1
    have g2 : o' = .dK (L3G.encI kvs) := g2
    have hu : u = .int k := hu
    subst hu
    have hd : DGet H3 p (kV (Sum.inl k)) (valV (L3G.encI kvs) (Sum.inl k)) := DGet.k (by rw [g1, g2])
    rw [valV_enc] at hd
    refine ⟨p, _, hx, hd, q _ B3 H3 (e2.trans e3) w3 ?_⟩
    cases getI kvs k <;> rfl
theorem ev_dNi {n : Nat} {p : Addr} {kvs : List (Int × Int)} (h' : EV K M tb σ B L rInt k L1) (h : EV K M ta σ B L1 rRef p L2) (hc : L2[n]? = some ⟨p, cDk, kvs⟩) : EV K M (tDNotIn tb ta) σ B L rBool (!(getI kvs k).isSome) L2 := fun B1 H e1 w Q q =>
  h' B1 H e1 w _ fun u B2 H2 e2 w2 hu => h B2 H2 (e1.trans e2) w2 _ fun x B3 H3 e3 w3 hx => by
    obtain ⟨⟨o', g1, g2⟩, _⟩ := w3.at hc
    have g1 : H3 p = some o' := g1
    have g2 : o' = .dK (L3G.encI kvs) := g2
    have hu : u = .int k := hu
    subst hu
    have hd : DGet H3 p (kV (Sum.inl k)) (valV (L3G.encI kvs) (Sum.inl k)) := DGet.k (by rw [g1, g2])
    rw [valV_enc] at hd
    refine ⟨p, _, hx, hd, q _ B3 H3 (e2.trans e3) w3 ?_⟩
    cases getI kvs k <;> rfl
/-! ### list.index of ints -/
def idxI : List Int → Int → Option Int
  | [], _ => none
  | x :: l, k => if x = k then some 0 else (idxI l k).map (· + 1)
theorem idxI_at {k : Int} : ∀ {xs : List Int} {v : Int}, idxI xs k = some v → ∃ n : Nat, v = (n : Int) ∧ xs[n]? = some k ∧ ∀ (m : Nat) (z : Int), m < n → xs[m]? = some z → z ≠ k
  | [], _, h => by cases h
  | x :: l, v, h => by
    unfold idxI at h
    split at h
    · rename_i e
      obtain rfl := Option.some.inj h
      exact ⟨0, rfl, by rw [← e]; rfl, fun m z hm => absurd hm (by omega)⟩
    · rename_i e
      cases e2 : idxI l k with
      | none => rw [e2] at h; cases h
      | some u =>
        rw [e2] at h
        obtain rfl := Option.some.inj h
        obtain ⟨n, rfl, h1, h2⟩ := idxI_at e2
        refine ⟨n + 1, by simp, by simpa using h1, fun m z hm hz => ?_⟩
        cases m with
        | zero => obtain rfl : x = z := Option.some.inj hz; exact e
        | succ m => exact h2 m z (by omega) (by simpa using hz)
theorem ev_index {xs : List Int} {v : Int} (h : EV K M ta σ B L (rLst rInt) xs L1) (h' : EV K M tb σ B L1 rInt k L2) (e : idxI xs k = some v) : EV K M (tBM K "list" (rIndex K) ta (tCons tb tNil)) σ B L rInt v L2 := fun B1 H e1 w Q q =>
  h B1 H e1 w _ fun x B2 H2 e2 w2 hx => by
    obtain ⟨p, ys, rfl, hs, hp⟩ := rl_sc hx
    refine ⟨.inl ⟨rfl, ys, ex_l w2.b hs⟩, h' B2 H2 (e1.trans e2) w2 _ fun u B3 H3 e3 w3 hu => ?_⟩
    have hu : u = .int k := hu
    subst hu
    obtain ⟨n, rfl, h1, h2⟩ := idxI_at e
    obtain rfl := ints_of hp
    refine ⟨p, xs.map V.int, .int k, n, .int k, rfl, rfl, ex_l w3.b (ex_l e3 hs), rfl, ?_, by rw [List.getElem?_map, h1]; rfl, by simp [eqV], fun m z hm hz => ?_, q _ B3 H3 (e2.trans e3) w3 rfl⟩
    · rw [List.all_eq_true]
      intro y hy
      obtain ⟨z, _, rfl⟩ := List.mem_map.mp hy
      rfl
    · rw [List.getElem?_map] at hz
      cases hx : xs[m]? with
      | none => rw [hx] at hz; cases hz
      | some z2 =>
        rw [hx] at hz
        obtain rfl : V.int z2 = z := Option.some.inj hz
        have := h2 m z2 hm hx
        simpa [eqV] using this
end
end L3

namespace L3
open PySem L2
open Evl (Ex ex_rd ex_l ex_t sq_of st_of fresh_back)
def top (i : Nat) : Stmt := PySem.Challenge.pw_bestodds_k17_costs_of_policies.main.body.getD i (.Pass ⟨0, 0, 0, 0⟩)
abbrev s_ends_in : Stmt := top 15
abbrev s_all_in : Stmt := top 16
abbrev s_rest_of : Stmt := top 19
abbrev s_backward : Stmt := top 20
abbrev s_never : Stmt := top 21
abbrev s_certain : Stmt := top 22
abbrev s_ratio : Stmt := top 4
abbrev s_minus : Stmt := top 6
abbrev s_times : Stmt := top 7
abbrev s_over : Stmt := top 8
abbrev s_pivot_of : Stmt := top 10
abbrev s_cleared : Stmt := top 11
abbrev s_solve : Stmt := top 12
abbrev s_plus : Stmt := top 5
abbrev s_total_weight : Stmt := top 14
abbrev s_restricted : Stmt := top 17
abbrev s_equations : Stmt := top 24
abbrev s_filled : Stmt := top 25
abbrev s__law_tape : Stmt := top 28
abbrev s__law_draw : Stmt := top 29
abbrev s__law_take : Stmt := top 31
abbrev s__law_equal : Stmt := top 30
abbrev s_policy_costs : Stmt := top 26
abbrev s__law_ends : Stmt := top 36
abbrev s__law_choices : Stmt := top 37
abbrev s__law_system : Stmt := top 38
abbrev s__law_some : Stmt := top 39
abbrev s__law_ratio : Stmt := top 32
abbrev s__law_plus : Stmt := top 33
abbrev s__law_times : Stmt := top 34
abbrev s__law_over : Stmt := top 35
abbrev s__law_solve : Stmt := top 40
abbrev s__law_chain : Stmt := top 41
abbrev s__law_filled : Stmt := top 42
abbrev s__law_backward : Stmt := top 43
abbrev s__law_large : Stmt := top 46
abbrev s__law_costs : Stmt := top 44
abbrev s__law_drawn_policy : Stmt := top 45
abbrev s__law_thin : Stmt := top 47
abbrev s_law : Stmt := top 48
section
variable {P : Program} {w : World} {K : PySem.W.Frag} {mg : Str → Option Value} {base : Heap} {f : Addr} {fd : FuncData} {T : List Addr} {cc : Addr}
noncomputable def m_ends_in (a0 : (List (Int × Int))) (a1 : (List Bool)) : Option Bool :=
  Option.bind (anyM (fun (x18 : (Int × Int)) => (Option.bind (ixL a1 x18.1) fun t28 => some t28)) a0) fun t30 =>
  some t30
def C_ends_in : List Arg → List Cell → Arg → List Cell → Prop := fun as L r L' => ∃ a0 a1 c, as = [⟨(rTup (rT2 rInt rInt)), a0⟩, ⟨(rLst rBool), a1⟩] ∧ L = [] ∧ m_ends_in a0 a1 = some c ∧ r = ⟨rBool, c⟩ ∧ L' = []
theorem sc_ends_in : FnScope ["ends", "known"] ["ends", "known"] (defScope s_ends_in) := ⟨rfl, rfl, rfl, by decide +kernel, rfl, by decide +kernel, by decide +kernel⟩
set_option maxHeartbeats 0 in
theorem ok_ends_in (F : FunC K "ends_in" s_ends_in f fd cc) (z_any : mg "any" = none) (tb : ∃ P0, GxR.TabB base mg cc P0 ∧ P0 ∈ T) : FnOk P w K mg base CX0 2 f fd ["ends", "known"] (spV K T C_ends_in) := by
  obtain ⟨P0, tb, hP0⟩ := tb
  refine F.ok sc_ends_in (fun vs H Q E h => ?_) (fun A outer s H vs Q E hr h => ?_)
  · obtain ⟨B, M, L, as, r, L', hT, w, ha, ⟨_, _, _, rfl, _⟩, k⟩ := h
    exact args_len ha
  · skip
    obtain ⟨B, M, L, as, r, L', rfl, w, ha, ⟨a0, a1, c, rfl, rfl, hm, rfl, rfl⟩, k⟩ := h
    obtain ⟨u0, u1, rfl, f0, f1⟩ := args2 ha
    replace f0 : ((rTup (rT2 rInt rInt))).is K B u0 a0 := f0
    replace f1 : ((rLst rBool)).is K B u1 a1 := f1
    unfold m_ends_in at hm
    refine ⟨_, (pss_cons (ps_ret (L3G.pe_anyG (NG := ["state", "_", "known"]) (js := [none, none, some 1]) (Room.mono hr (j := 1) (by omega)) rfl z_any bt_any tb rfl (L3G.gs_by (sc := defScope s_ends_in) (by decide +kernel)) (pi_tup (pv 0)) (show L3G.capB ["ends", "known"] ["state", "_", "known"] _ _ = true by decide +kernel) (fun _ => (pg_tup rfl (pgs_cons (pg_name (i := 0) (show List.Nodup (["state", "_", "known"] : List Str) by decide +kernel) rfl (by first | exact Or.inl rfl | exact Or.inr rfl)) (pgs_cons (pg_name (i := 1) (show List.Nodup (["state", "_", "known"] : List Str) by decide +kernel) rfl (by first | exact Or.inl rfl | exact Or.inr rfl)) pgs_nil)))) (fun _ hr => (pe_ix ix_seq (pv 2) (pv 0) (fun _ _ => rfl))) (fun _ => rfl))) pss_nil), ?_⟩
    rw [show start ["ends", "known"] [u0, u1] = ([some u0, some u1] : L2.St) from rfl]
    obtain ⟨t30, e31, hm⟩ := bindS hm
    replace hm : some _ = some _ := hm
    obtain rfl := Option.some.inj hm
    exact q_ret w (ev_anyG hP0 (ei_tup (ev_var rfl f0)) _ (fun σ23 => ∃ o10 o11, σ23 = [o10, o11, some u1]) ⟨none, none, rfl⟩ e31 (by rintro _ x18 c19 v16 B12 H13 σ23 hb20 x14 ⟨o10, o11, rfl⟩ w15 h17 Q21 q22; replace w15 : Own K B12 M [] H13 := w15; refine g_T2 h17 w15 fun v24 v25 h26 h27 => ?_; refine g_cons ?_; refine g_name ?_; refine g_cons ?_; refine g_name ?_; refine g_nil ?_; obtain ⟨t28, e29, hb20⟩ := bindS hb20; obtain rfl := Option.some.inj hb20; exact (ev_ix (ev_seqL (ev_var rfl (((rLst rBool)).mono x14 f1))) (ev_varI rfl h26) e29) B12 H13 (Ex.refl _) w15 _ fun v32 B33 H34 x35 w36 h37 => by rw [show v32 = V.bl _ from h37]; exact q22 _ B33 H34 ⟨_, _, rfl⟩ x35 w36)) fun v9 B9 H9 x9 w9 h9 => k _ _ _ ((Ex.refl _).trans x9) w9 h9
noncomputable def m_all_in (a0 : (List (Int × Int))) (a1 : (List Bool)) : Option Bool :=
  Option.bind (allM (fun (x18 : (Int × Int)) => (Option.bind (ixL a1 x18.1) fun t28 => some t28)) a0) fun t30 =>
  some t30
def C_all_in : List Arg → List Cell → Arg → List Cell → Prop := fun as L r L' => ∃ a0 a1 c, as = [⟨(rTup (rT2 rInt rInt)), a0⟩, ⟨(rLst rBool), a1⟩] ∧ L = [] ∧ m_all_in a0 a1 = some c ∧ r = ⟨rBool, c⟩ ∧ L' = []
theorem sc_all_in : FnScope ["ends", "known"] ["ends", "known"] (defScope s_all_in) := ⟨rfl, rfl, rfl, by decide +kernel, rfl, by decide +kernel, by decide +kernel⟩
set_option maxHeartbeats 0 in
theorem ok_all_in (F : FunC K "all_in" s_all_in f fd cc) (z_all : mg "all" = none) (tb : ∃ P0, GxR.TabB base mg cc P0 ∧ P0 ∈ T) : FnOk P w K mg base CX0 2 f fd ["ends", "known"] (spV K T C_all_in) := by
  obtain ⟨P0, tb, hP0⟩ := tb
  refine F.ok sc_all_in (fun vs H Q E h => ?_) (fun A outer s H vs Q E hr h => ?_)
  · obtain ⟨B, M, L, as, r, L', hT, w, ha, ⟨_, _, _, rfl, _⟩, k⟩ := h
    exact args_len ha
  · skip
    obtain ⟨B, M, L, as, r, L', rfl, w, ha, ⟨a0, a1, c, rfl, rfl, hm, rfl, rfl⟩, k⟩ := h
    obtain ⟨u0, u1, rfl, f0, f1⟩ := args2 ha
    replace f0 : ((rTup (rT2 rInt rInt))).is K B u0 a0 := f0
    replace f1 : ((rLst rBool)).is K B u1 a1 := f1
    unfold m_all_in at hm
    refine ⟨_, (pss_cons (ps_ret (L3G.pe_allG (NG := ["state", "_", "known"]) (js := [none, none, some 1]) (Room.mono hr (j := 1) (by omega)) rfl z_all bt_all tb rfl (L3G.gs_by (sc := defScope s_all_in) (by decide +kernel)) (pi_tup (pv 0)) (show L3G.capB ["ends", "known"] ["state", "_", "known"] _ _ = true by decide +kernel) (fun _ => (pg_tup rfl (pgs_cons (pg_name (i := 0) (show List.Nodup (["state", "_", "known"] : List Str) by decide +kernel) rfl (by first | exact Or.inl rfl | exact Or.inr rfl)) (pgs_cons (pg_name (i := 1) (show List.Nodup (["state", "_", "known"] : List Str) by decide +kernel) rfl (by first | exact Or.inl rfl | exact Or.inr rfl)) pgs_nil)))) (fun _ hr => (pe_ix ix_seq (pv 2) (pv 0) (fun _ _ => rfl))) (fun _ => rfl))) pss_nil), ?_⟩
    rw [show start ["ends", "known"] [u0, u1] = ([some u0, some u1] : L2.St) from rfl]
    obtain ⟨t30, e31, hm⟩ := bindS hm
    replace hm : some _ = some _ := hm
    obtain rfl := Option.some.inj hm
    exact q_ret w (ev_allG hP0 (ei_tup (ev_var rfl f0)) _ (fun σ23 => ∃ o10 o11, σ23 = [o10, o11, some u1]) ⟨none, none, rfl⟩ e31 (by rintro _ x18 c19 v16 B12 H13 σ23 hb20 x14 ⟨o10, o11, rfl⟩ w15 h17 Q21 q22; replace w15 : Own K B12 M [] H13 := w15; refine g_T2 h17 w15 fun v24 v25 h26 h27 => ?_; refine g_cons ?_; refine g_name ?_; refine g_cons ?_; refine g_name ?_; refine g_nil ?_; obtain ⟨t28, e29, hb20⟩ := bindS hb20; obtain rfl := Option.some.inj hb20; exact (ev_ix (ev_seqL (ev_var rfl (((rLst rBool)).mono x14 f1))) (ev_varI rfl h26) e29) B12 H13 (Ex.refl _) w15 _ fun v32 B33 H34 x35 w36 h37 => by rw [show v32 = V.bl _ from h37]; exact q22 _ B33 H34 ⟨_, _, rfl⟩ x35 w36)) fun v9 B9 H9 x9 w9 h9 => k _ _ _ ((Ex.refl _).trans x9) w9 h9
noncomputable def m_rest_of (a0 : (List (List (Int × (List (Int × Int)))))) (a1 : (List Int)) (a2 : (List Int)) : Option (List Int) :=
  Option.bind (small62 ((a0.length : Int))) fun t10 =>
  Option.bind (room ((rng 0 ((a0.length : Int)))).length) fun t41 =>
  Option.bind (compM (S := Unit) (β := Int) (fun (s12 : Unit) (x19 : Int) => ( if ((decide (x19 ∈ a1)) && (!decide (x19 ∈ a2))) = true then ( some (some x19, ())) else some (none, ()))) (()) ((rng 0 ((a0.length : Int))))) fun t43 =>
  some t43.1
def C_rest_of : List Arg → List Cell → Arg → List Cell → Prop := fun as L r L' => ∃ a0 a1 a2 c, as = [⟨(rTup (rTup (rT2 rInt (rTup (rT2 rInt rInt))))), a0⟩, ⟨(rLst rInt), a1⟩, ⟨(rLst rInt), a2⟩] ∧ L = [] ∧ m_rest_of a0 a1 a2 = some c ∧ r = ⟨(rLst rInt), c⟩ ∧ L' = []
theorem sc_rest_of : FnScope ["system", "allowed", "targets", "state"] ["system", "allowed", "targets"] (defScope s_rest_of) := ⟨rfl, rfl, rfl, by decide +kernel, rfl, by decide +kernel, by decide +kernel⟩
set_option maxHeartbeats 0 in
theorem ok_rest_of (F : FunC K "rest_of" s_rest_of f fd cc) (z_range : mg "range" = none) (z_len : mg "len" = none) : FnOk P w K mg base CX0 1 f fd ["system", "allowed", "targets"] (spV K T C_rest_of) := by
  refine F.ok sc_rest_of (fun vs H Q E h => ?_) (fun A outer s H vs Q E hr h => ?_)
  · obtain ⟨B, M, L, as, r, L', hT, w, ha, ⟨_, _, _, _, rfl, _⟩, k⟩ := h
    exact args_len ha
  · skip
    obtain ⟨B, M, L, as, r, L', rfl, w, ha, ⟨a0, a1, a2, c, rfl, rfl, hm, rfl, rfl⟩, k⟩ := h
    obtain ⟨u0, u1, u2, rfl, f0, f1, f2⟩ := args3 ha
    replace f0 : ((rTup (rTup (rT2 rInt (rTup (rT2 rInt rInt)))))).is K B u0 a0 := f0
    replace f1 : ((rLst rInt)).is K B u1 a1 := f1
    replace f2 : ((rLst rInt)).is K B u2 a2 := f2
    unfold m_rest_of at hm
    refine ⟨_, (pss_cons (ps_ret (pe_lc rfl sc_rest_of.nd (pi_range1 rfl z_range (pa_cons (pe_callB call_len_seq rfl z_len bt_len (pa_cons (pv 0) pa_nil)) pa_nil)) (blkOk_by (own := [("state", 3)]) (show blkC ["system", "allowed", "targets", "state"] (defScope s_rest_of) _ _ = true by decide +kernel)) (fun _ _ _ _ _ => (pg_name (i := 3) sc_rest_of.nd rfl (by first | exact Or.inl rfl | exact Or.inr rfl))) (fun _ _ _ _ _ => (pts_one (PW.pt (pw_and (pt_cmpR (show OpR _ _ (rIn K false) from op_in_seq) (pv 3) (pv 1) rfl) (pw_and1 (pt_cmpR (show OpR _ _ (rIn K true) from op_notIn_seq) (pv 3) (pv 2) rfl)))))) (fun _ _ _ _ _ => (pv 3)))) pss_nil), ?_⟩
    rw [show start ["system", "allowed", "targets", "state"] [u0, u1, u2] = ([some u0, some u1, some u2, none] : L2.St) from rfl]
    obtain ⟨t10, e11, hm⟩ := bindS hm
    obtain ⟨t41, e42, hm⟩ := bindS hm
    obtain ⟨t43, e44, hm⟩ := bindS hm
    replace hm : some _ = some _ := hm
    obtain rfl := Option.some.inj hm
    exact q_ret w (ev_frz (el_lc (S := Unit) (ys := t43.1) (s1 := t43.2) (s0 := ()) (σ' := [some u0, some u1, some u2, none]) rInt (ei_rng1 (ea_cons (ev_len (ev_seqT (ev_var rfl f0))) ea_nil) e11) _ (fun (s12 : Unit) => []) rfl e44 e42 rfl (by rintro s12 x19 o24 s25 v17 D22 a23 B13 H14 hb21 x15 w16 h18 PY26 PN27 qY28 qN29; replace w16 : Own K B13 M [⟨D22, (cLst rInt), a23⟩] H14 := w16; refine g_name ?_; refine ⟨rfl, ?_⟩; exact (et_and (et_test (ev_inI (ev_varI rfl h18) (ev_seqL (ev_var rfl (((rLst rInt)).mono x15 f1))))) fun _ => (et_test (ev_niI (ev_varI rfl h18) (ev_seqL (ev_var rfl (((rLst rInt)).mono x15 f2)))))) B13 H14 (Ex.refl _) w16 _ fun B36 H37 x38 (w39 : Own K B36 M [⟨D22, (cLst rInt), a23⟩] H37) => lc_if (fun hq40 => by rw [if_pos hq40] at hb21; obtain ⟨rfl, rfl⟩ := Prod.mk.inj (Option.some.inj hb21); exact (ev_varI rfl h18) B36 H37 (Ex.refl _) w39 _ fun v30 B31 H32 x33 w34 h35 => qY28 v30 B31 H32 _ rfl (x38.trans x33) w34 h35) (fun hq40 => by rw [if_neg (by rw [hq40]; exact Bool.false_ne_true)] at hb21; obtain ⟨rfl, rfl⟩ := Prod.mk.inj (Option.some.inj hb21); exact qN29 B36 H37 rfl x38 w39)))) fun v9 B9 H9 x9 w9 h9 => k _ _ _ ((Ex.refl _).trans x9) w9 h9
noncomputable def m_backward (a0 : (List (List (Int × (List (Int × Int)))))) (a1 : (List Int)) (a2 : (List Bool)) : Option (List Bool) :=
  Option.bind (whileB (S := (Bool × (List Bool))) (fun (s15 : (Bool × (List Bool))) => (
    if s15.1 = true then
      Option.bind (foldO (S := (Bool × (List Bool))) (α := Int) (fun (s44 : (Bool × (List Bool))) (x45 : Int) => (
        Option.bind (ixL s44.2 x45) fun t66 =>
        Option.bind ((if (!t66) = true then (Option.bind (ixL a0 x45) fun t68 => Option.bind (anyM (fun (x78 : (Int × (List (Int × Int)))) => (Option.bind (m_ends_in x78.2 s44.2) fun t88 => some t88)) t68) fun t90 => some (t90)) else (some (false)))) fun t98 =>
        Option.bind (if t98 = true then
          Option.bind (ixO s44.2.length x45) fun t105 =>
          some ((true, (s44.2.set t105 true)))
        else
          some ((s44.1, s44.2))
        ) fun (s102 : (Bool × (List Bool))) =>
        some ((s102.1, s102.2))
      )) ((false, s15.2)) a1) fun s116 =>
      some (Stp.nx ((s116.1, s116.2)))
    else
      some (Stp.bk ((s15.1, s15.2)))
  )) ((true, a2))) fun s126 =>
  some s126.2
def C_backward : List Arg → List Cell → Arg → List Cell → Prop := fun as L r L' => ∃ a0 a1 a2 c, as = [⟨(rTup (rTup (rT2 rInt (rTup (rT2 rInt rInt))))), a0⟩, ⟨(rLst rInt), a1⟩, ⟨(rLst rBool), a2⟩] ∧ L = [] ∧ m_backward a0 a1 a2 = some c ∧ r = ⟨(rLst rBool), c⟩ ∧ L' = []
theorem sc_backward : FnScope ["system", "rest", "known", "grown", "state"] ["system", "rest", "known"] (defScope s_backward) := ⟨rfl, rfl, rfl, by decide +kernel, rfl, by decide +kernel, by decide +kernel⟩
set_option maxHeartbeats 0 in
theorem ok_backward (F : FunC K "backward" s_backward f fd cc) (c_ends_in : Cl P w K mg base 2 "ends_in" (spV K T C_ends_in) []) (z_list : mg "list" = none) (z_any : mg "any" = none) (tb : ∃ P0, GxR.TabB base mg cc P0 ∧ P0 ∈ T) : FnOk P w K mg base CX0 4 f fd ["system", "rest", "known"] (spV K T C_backward) := by
  obtain ⟨P0, tb, hP0⟩ := tb
  refine F.ok sc_backward (fun vs H Q E h => ?_) (fun A outer s H vs Q E hr h => ?_)
  · obtain ⟨B, M, L, as, r, L', hT, w, ha, ⟨_, _, _, _, rfl, _⟩, k⟩ := h
    exact args_len ha
  · skip
    obtain ⟨B, M, L, as, r, L', rfl, w, ha, ⟨a0, a1, a2, c, rfl, rfl, hm, rfl, rfl⟩, k⟩ := h
    obtain ⟨u0, u1, u2, rfl, f0, f1, f2⟩ := args3 ha
    replace f0 : ((rTup (rTup (rT2 rInt (rTup (rT2 rInt rInt)))))).is K B u0 a0 := f0
    replace f1 : ((rLst rInt)).is K B u1 a1 := f1
    replace f2 : ((rLst rBool)).is K B u2 a2 := f2
    unfold m_backward at hm
    refine ⟨_, (pss_cons (ps_set (i := 2) sc_backward.nd rfl (by first | exact Or.inl rfl | exact Or.inr rfl) (pe_callTy call_list_of rfl z_list bt_list (pa_cons (pv 2) pa_nil))) (pss_cons (ps_set (i := 3) sc_backward.nd rfl (by first | exact Or.inl rfl | exact Or.inr rfl) pe_bl) (pss_cons (ps_while PassesOwn.never (pt_val (pv 3)) (pss_cons (ps_set (i := 3) sc_backward.nd rfl (by first | exact Or.inl rfl | exact Or.inr rfl) pe_bl) (pss_cons (ps_for PassesOwn.never rfl (pi_list (pv 1)) (pg_name (i := 4) sc_backward.nd rfl (by first | exact Or.inl rfl | exact Or.inr rfl)) (Evl.pss_cut (ps_if (PW.pt (pw_and (pt_not (pt_val (pe_ix ix_seq (pv 2) (pv 4) (fun _ _ => rfl)))) (pw_and1 (pt_val (L3G.pe_anyG (NG := ["_", "ends", "known"]) (js := [none, none, some 2]) (Room.mono hr (j := 3) (by omega)) rfl z_any bt_any tb rfl (L3G.gs_by (sc := defScope s_backward) (by decide +kernel)) (pi_tup (pe_ix ix_seq (pv 0) (pv 4) (fun _ _ => rfl))) (show L3G.capB ["system", "rest", "known", "grown", "state"] ["_", "ends", "known"] _ _ = true by decide +kernel) (fun _ => (pg_tup rfl (pgs_cons (pg_name (i := 0) (show List.Nodup (["_", "ends", "known"] : List Str) by decide +kernel) rfl (by first | exact Or.inl rfl | exact Or.inr rfl)) (pgs_cons (pg_name (i := 1) (show List.Nodup (["_", "ends", "known"] : List Str) by decide +kernel) rfl (by first | exact Or.inl rfl | exact Or.inr rfl)) pgs_nil)))) (fun _ hr => (pe_c c_ends_in hr (by omega) rfl (pa_cons (pv 1) (pa_cons (pv 2) pa_nil)))) (fun _ => rfl)))))) (pss_cons (ps_asg pe_bl (pg_sub (pv 2) (pv 4) set_list)) (pss_cons (ps_set (i := 3) sc_backward.nd rfl (by first | exact Or.inl rfl | exact Or.inr rfl) pe_bl) pss_nil)) pss_nil) pss_nil)) pss_nil))) (pss_cons (ps_ret (pv 2)) pss_nil)))), ?_⟩
    rw [show start ["system", "rest", "known", "grown", "state"] [u0, u1, u2] = ([some u0, some u1, some u2, none, none] : L2.St) from rfl]
    refine q_asgL (n := 2) w (el_listOf (ev_seqL (ev_var rfl f2))) fun p11 B10 H10 x10 (w10 : Own K B10 M [⟨p11, (cLst rBool), a2⟩] H10) => ?_
    refine q_asg (n := 3) w10 (ev_bl (b := true)) fun v13 B12 H12 x12 (w12 : Own K B12 M [⟨p11, (cLst rBool), a2⟩] H12) h14 => ?_
    obtain ⟨s126, e18, hm⟩ := bindS hm
    refine q_whileB w12 _ (fun s15 B19 σ30 => ∃ v34 o36, σ30 = [some u0, some u1, some (.ref p11), some v34, o36] ∧ (rBool).is K B19 v34 s15.1) (fun s15 => [⟨p11, (cLst rBool), s15.2⟩]) ((true, a2)) e18 (fun B9 x9 => ⟨v13, _, rfl, ((rBool).mono x9 h14)⟩) rfl ?_ ?_
    · skip
      rintro s15 s135 B19 B20 H21 σ30 hb16 x22 ⟨v34, o36, rfl, h35⟩ x23 w24 N25 K26 hN27 hB28 Q31 qT32 qF33
      replace w24 : Own K B20 M [⟨p11, (cLst rBool), s15.2⟩] H21 := w24
      refine q_wt w24 (et_B (ev_varB rfl h35)) (fun hq38 B37 H37 x37 (w37 : Own K B37 M [⟨p11, (cLst rBool), s15.2⟩] H37) => qT32 _ ?_) (fun hq40 B39 H39 x39 (w39 : Own K B39 M [⟨p11, (cLst rBool), s15.2⟩] H39) => qF33 _ ?_)
      · skip
        rw [if_pos hq38] at hb16
        refine q_asg (n := 3) w37 (ev_bl (b := false)) fun v42 B41 H41 x41 (w41 : Own K B41 M [⟨p11, (cLst rBool), s15.2⟩] H41) h43 => ?_
        obtain ⟨s116, e48, hb16⟩ := bindS hb16
        refine q_fold w41 (ei_lst (ev_var rfl (((rLst rInt)).mono (((((x10.trans x12).trans x22).trans x23).trans x37).trans x41) f1))) _ (fun s44 B49 σ62 => ∃ v63 o65, σ62 = [some u0, some u1, some (.ref p11), some v63, o65] ∧ (rBool).is K B49 v63 s44.1) (fun s44 => [⟨p11, (cLst rBool), s44.2⟩]) ((false, s15.2)) e48 (fun B9 x9 => ⟨v42, _, rfl, ((rBool).mono x9 h43)⟩) rfl ?_ ?_
        · skip
          rintro s44 x45 s125 v55 B49 B50 H51 σ62 hb46 x52 ⟨v63, o65, rfl, h64⟩ x53 w54 h56 N57 K58 hN59
          replace w54 : Own K B50 M [⟨p11, (cLst rBool), s44.2⟩] H51 := w54
          refine g_name ?_
          obtain ⟨t66, e67, hb46⟩ := bindS hb46
          obtain ⟨t98, e99, hb46⟩ := bindS hb46
          obtain ⟨s102, e103, hb46⟩ := bindS hb46
          refine q_cut (fun σ115 H112 => ∃ v113 B112, Ex B50 B112 ∧ Own K B112 M [⟨p11, (cLst rBool), s102.2⟩] H112 ∧ σ115 = [some u0, some u1, some (.ref p11), some v113, some v55] ∧ (rBool).is K B112 v113 s102.1) ?_ ?_
          · skip
            refine q_ifc w54 (et_and' (d := t98) (et_not (et_B (ev_ixC (n := 0) (ev_varR rfl) (ev_varI rfl h56) rfl e67))) (fun hb100 => by rw [if_pos hb100] at e99; obtain ⟨t68, e69, e99⟩ := bindS e99; obtain ⟨t90, e91, e99⟩ := bindS e99; obtain rfl := Option.some.inj e99; exact (et_B (ev_anyG hP0 (ei_tup (ev_ix (ev_seqT (ev_var rfl (((rTup (rTup (rT2 rInt (rTup (rT2 rInt rInt)))))).mono (((((((x10.trans x12).trans x22).trans x23).trans x37).trans x41).trans x52).trans x53) f0))) (ev_varI rfl h56) e69)) _ (fun σ83 => ∃ o70 o71, σ83 = [o70, o71, some (.ref p11)]) ⟨none, none, rfl⟩ e91 (by rintro _ x78 c79 v76 B72 H73 σ83 hb80 x74 ⟨o70, o71, rfl⟩ w75 h77 Q81 q82; replace w75 : Own K B72 M [⟨p11, (cLst rBool), s44.2⟩] H73 := w75; refine g_T2 h77 w75 fun v84 v85 h86 h87 => ?_; refine g_cons ?_; refine g_name ?_; refine g_cons ?_; refine g_name ?_; refine g_nil ?_; obtain ⟨t88, e89, hb80⟩ := bindS hb80; obtain rfl := Option.some.inj hb80; exact (ev_callF (ea_cons (ev_var rfl h87) (ea_cons (ev_varR rfl) ea_nil)) (af_same (af_cell (n := 0) rfl af_nil)) (nts_cons nt_lst nts_nil) to_bool ⟨_, _, _, rfl, rfl, e89, rfl, rfl⟩) B72 H73 (Ex.refl _) w75 _ fun v92 B93 H94 x95 w96 h97 => by rw [show v92 = V.bl _ from h97]; exact q82 _ B93 H94 ⟨_, _, rfl⟩ x95 w96)))) (fun hb100 => by rw [if_neg (by rw [hb100]; exact Bool.false_ne_true)] at e99; obtain rfl := Option.some.inj e99; exact ⟨rfl, rfl⟩)) (fun hb101 B104 H104 x104 (w104 : Own K B104 M [⟨p11, (cLst rBool), s44.2⟩] H104) => ?_) (fun hb101 B111 H111 x111 (w111 : Own K B111 M [⟨p11, (cLst rBool), s44.2⟩] H111) => ?_)
            · skip
              rw [if_pos hb101] at e103
              obtain ⟨t105, e106, e103⟩ := bindS e103
              refine q_setC (n := 0) w104 (ev_bl (b := true)) rfl (ev_varI rfl h56) rfl e106 fun B107 H107 x107 (w107 : Own K B107 M [⟨p11, (cLst rBool), (s44.2.set t105 true)⟩] H107) => ?_
              refine q_asg (n := 3) w107 (ev_bl (b := true)) fun v109 B108 H108 x108 (w108 : Own K B108 M [⟨p11, (cLst rBool), (s44.2.set t105 true)⟩] H108) h110 => ?_
              replace e103 : some _ = some _ := e103
              cases e103
              exact ⟨v109, _, ((x104.trans x107).trans x108), w108, rfl, h110⟩
            rw [if_neg (by rw [hb101]; exact Bool.false_ne_true)] at e103
            replace e103 : some _ = some _ := e103
            cases e103
            exact ⟨v63, _, x111, w111, rfl, ((rBool).mono (x53.trans x111) h64)⟩
          rintro σ115' H112 ⟨v113, B112, x112, w112, rfl, h114⟩
          replace hb46 : some _ = some _ := hb46
          cases hb46
          exact hN59 _ _ _ x112 w112 ⟨v113, _, rfl, h114⟩
        rintro B117 H118 σ121 x119 w120 ⟨v122, o124, rfl, h123⟩
        replace w120 : Own K B117 M [⟨p11, (cLst rBool), s116.2⟩] H118 := w120
        replace hb16 : some _ = some _ := hb16
        cases hb16
        exact hN27 _ _ _ _ rfl ((x37.trans x41).trans x119) w120 ⟨v122, _, rfl, h123⟩
      rw [if_neg (by rw [hq40]; exact Bool.false_ne_true)] at hb16
      replace hb16 : some _ = some _ := hb16
      cases hb16
      exact hB28 _ _ _ _ rfl x39 w39 ⟨v34, _, rfl, ((rBool).mono (x23.trans x39) h35)⟩
    rintro B127 H128 σ131 x129 w130 ⟨v132, o134, rfl, h133⟩
    replace w130 : Own K B127 M [⟨p11, (cLst rBool), s126.2⟩] H128 := w130
    replace hm : some _ = some _ := hm
    obtain rfl := Option.some.inj hm
    exact q_retC (n := 0) (m := 2) w130 rfl rfl fun v9 B9 x9 w9 h9 => k _ _ _ (((x10.trans x12).trans x129).trans x9) w9 h9
noncomputable def m_never (a0 : (List (List (Int × (List (Int × Int)))))) (a1 : (List Int)) (a2 : (List Int)) : Option (List Bool) :=
  Option.bind (m_rest_of a0 a1 a2) fun t10 =>
  Option.bind (small62 ((a0.length : Int))) fun t15 =>
  Option.bind (room ((rng 0 ((a0.length : Int)))).length) fun t41 =>
  Option.bind (compM (S := Unit) (β := Bool) (fun (s17 : Unit) (x24 : Int) => ( some (some ((!decide (x24 ∈ a2))), ()))) (()) ((rng 0 ((a0.length : Int))))) fun t43 =>
  Option.bind (whileB (S := (Bool × (List Bool))) (fun (s50 : (Bool × (List Bool))) => (
    if s50.1 = true then
      Option.bind (foldO (S := (Bool × (List Bool))) (α := Int) (fun (s79 : (Bool × (List Bool))) (x80 : Int) => (
        Option.bind (ixL s79.2 x80) fun t101 =>
        Option.bind ((if t101 = true then (Option.bind (ixL a0 x80) fun t103 => Option.bind (anyM (fun (x113 : (Int × (List (Int × Int)))) => (Option.bind (m_all_in x113.2 s79.2) fun t123 => some t123)) t103) fun t125 => some ((!t125))) else (some (false)))) fun t133 =>
        Option.bind (if t133 = true then
          Option.bind (ixO s79.2.length x80) fun t140 =>
          some ((true, (s79.2.set t140 false)))
        else
          some ((s79.1, s79.2))
        ) fun (s137 : (Bool × (List Bool))) =>
        some ((s137.1, s137.2))
      )) ((false, s50.2)) t10) fun s151 =>
      some (Stp.nx ((s151.1, s151.2)))
    else
      some (Stp.bk ((s50.1, s50.2)))
  )) ((true, t43.1))) fun s161 =>
  some s161.2
def C_never : List Arg → List Cell → Arg → List Cell → Prop := fun as L r L' => ∃ a0 a1 a2 c, as = [⟨(rTup (rTup (rT2 rInt (rTup (rT2 rInt rInt))))), a0⟩, ⟨(rLst rInt), a1⟩, ⟨(rLst rInt), a2⟩] ∧ L = [] ∧ m_never a0 a1 a2 = some c ∧ r = ⟨(rLst rBool), c⟩ ∧ L' = []
theorem sc_never : FnScope ["system", "allowed", "targets", "rest", "known", "shrunk", "state"] ["system", "allowed", "targets"] (defScope s_never) := ⟨rfl, rfl, rfl, by decide +kernel, rfl, by decide +kernel, by decide +kernel⟩
set_option maxHeartbeats 0 in
theorem ok_never (F : FunC K "never" s_never f fd cc) (c_rest_of : Cl P w K mg base 1 "rest_of" (spV K T C_rest_of) []) (c_all_in : Cl P w K mg base 2 "all_in" (spV K T C_all_in) []) (z_range : mg "range" = none) (z_len : mg "len" = none) (z_any : mg "any" = none) (tb : ∃ P0, GxR.TabB base mg cc P0 ∧ P0 ∈ T) : FnOk P w K mg base CX0 4 f fd ["system", "allowed", "targets"] (spV K T C_never) := by
  obtain ⟨P0, tb, hP0⟩ := tb
  refine F.ok sc_never (fun vs H Q E h => ?_) (fun A outer s H vs Q E hr h => ?_)
  · obtain ⟨B, M, L, as, r, L', hT, w, ha, ⟨_, _, _, _, rfl, _⟩, k⟩ := h
    exact args_len ha
  · skip
    obtain ⟨B, M, L, as, r, L', rfl, w, ha, ⟨a0, a1, a2, c, rfl, rfl, hm, rfl, rfl⟩, k⟩ := h
    obtain ⟨u0, u1, u2, rfl, f0, f1, f2⟩ := args3 ha
    replace f0 : ((rTup (rTup (rT2 rInt (rTup (rT2 rInt rInt)))))).is K B u0 a0 := f0
    replace f1 : ((rLst rInt)).is K B u1 a1 := f1
    replace f2 : ((rLst rInt)).is K B u2 a2 := f2
    unfold m_never at hm
    refine ⟨_, (pss_cons (ps_set (i := 3) sc_never.nd rfl (by first | exact Or.inl rfl | exact Or.inr rfl) (pe_c c_rest_of hr (by omega) rfl (pa_cons (pv 0) (pa_cons (pv 1) (pa_cons (pv 2) pa_nil))))) (pss_cons (ps_set (i := 4) sc_never.nd rfl (by first | exact Or.inl rfl | exact Or.inr rfl) (pe_lc rfl sc_never.nd (pi_range1 rfl z_range (pa_cons (pe_callB call_len_seq rfl z_len bt_len (pa_cons (pv 0) pa_nil)) pa_nil)) (blkOk_by (own := [("state", 6)]) (show blkC ["system", "allowed", "targets", "rest", "known", "shrunk", "state"] (defScope s_never) _ _ = true by decide +kernel)) (fun _ _ _ _ _ => (pg_name (i := 6) sc_never.nd rfl (by first | exact Or.inl rfl | exact Or.inr rfl))) (fun _ _ _ _ _ => pts_nil) (fun _ _ _ _ _ => (pe_cmpR (show OpR _ _ (rIn K true) from op_notIn_seq) (pv 6) (pv 2) rfl)))) (pss_cons (ps_set (i := 5) sc_never.nd rfl (by first | exact Or.inl rfl | exact Or.inr rfl) pe_bl) (pss_cons (ps_while PassesOwn.never (pt_val (pv 5)) (pss_cons (ps_set (i := 5) sc_never.nd rfl (by first | exact Or.inl rfl | exact Or.inr rfl) pe_bl) (pss_cons (ps_for PassesOwn.never rfl (pi_list (pv 3)) (pg_name (i := 6) sc_never.nd rfl (by first | exact Or.inl rfl | exact Or.inr rfl)) (Evl.pss_cut (ps_if (PW.pt (pw_and (pt_val (pe_ix ix_seq (pv 4) (pv 6) (fun _ _ => rfl))) (pw_and1 (pt_not (pt_val (L3G.pe_anyG (NG := ["_", "ends", "known"]) (js := [none, none, some 4]) (Room.mono hr (j := 3) (by omega)) rfl z_any bt_any tb rfl (L3G.gs_by (sc := defScope s_never) (by decide +kernel)) (pi_tup (pe_ix ix_seq (pv 0) (pv 6) (fun _ _ => rfl))) (show L3G.capB ["system", "allowed", "targets", "rest", "known", "shrunk", "state"] ["_", "ends", "known"] _ _ = true by decide +kernel) (fun _ => (pg_tup rfl (pgs_cons (pg_name (i := 0) (show List.Nodup (["_", "ends", "known"] : List Str) by decide +kernel) rfl (by first | exact Or.inl rfl | exact Or.inr rfl)) (pgs_cons (pg_name (i := 1) (show List.Nodup (["_", "ends", "known"] : List Str) by decide +kernel) rfl (by first | exact Or.inl rfl | exact Or.inr rfl)) pgs_nil)))) (fun _ hr => (pe_c c_all_in hr (by omega) rfl (pa_cons (pv 1) (pa_cons (pv 2) pa_nil)))) (fun _ => rfl))))))) (pss_cons (ps_asg pe_bl (pg_sub (pv 4) (pv 6) set_list)) (pss_cons (ps_set (i := 5) sc_never.nd rfl (by first | exact Or.inl rfl | exact Or.inr rfl) pe_bl) pss_nil)) pss_nil) pss_nil)) pss_nil))) (pss_cons (ps_ret (pv 4)) pss_nil))))), ?_⟩
    rw [show start ["system", "allowed", "targets", "rest", "known", "shrunk", "state"] [u0, u1, u2] = ([some u0, some u1, some u2, none, none, none, none] : L2.St) from rfl]
    obtain ⟨t10, e11, hm⟩ := bindS hm
    refine q_asg (n := 3) w (ev_call (ea_cons (ev_var rfl f0) (ea_cons (ev_var rfl f1) (ea_cons (ev_var rfl f2) ea_nil))) ⟨_, _, _, _, rfl, rfl, e11, rfl, rfl⟩) fun v13 B12 H12 x12 (w12 : Own K B12 M [] H12) h14 => ?_
    obtain ⟨t15, e16, hm⟩ := bindS hm
    obtain ⟨t41, e42, hm⟩ := bindS hm
    obtain ⟨t43, e44, hm⟩ := bindS hm
    refine q_asgL (n := 4) w12 (el_lc (S := Unit) (ys := t43.1) (s1 := t43.2) (s0 := ()) (σ' := [some u0, some u1, some u2, some v13, none, none, none]) rBool (ei_rng1 (ea_cons (ev_len (ev_seqT (ev_var rfl (((rTup (rTup (rT2 rInt (rTup (rT2 rInt rInt)))))).mono x12 f0)))) ea_nil) e16) _ (fun (s17 : Unit) => []) rfl e44 e42 rfl (by rintro s17 x24 o29 s30 v22 D27 a28 B18 H19 hb26 x20 w21 h23 PY31 PN32 qY33 qN34; replace w21 : Own K B18 M [⟨D27, (cLst rBool), a28⟩] H19 := w21; refine g_name ?_; refine ⟨rfl, ?_⟩; obtain ⟨rfl, rfl⟩ := Prod.mk.inj (Option.some.inj hb26); refine lc_yes ?_; exact (ev_niI (ev_varI rfl h23) (ev_seqL (ev_var rfl (((rLst rInt)).mono (x12.trans x20) f2)))) B18 H19 (Ex.refl _) w21 _ fun v35 B36 H37 x38 w39 h40 => qY33 v35 B36 H37 _ rfl x38 w39 h40)) fun p46 B45 H45 x45 (w45 : Own K B45 M [⟨p46, (cLst rBool), t43.1⟩] H45) => ?_
    refine q_asg (n := 5) w45 (ev_bl (b := true)) fun v48 B47 H47 x47 (w47 : Own K B47 M [⟨p46, (cLst rBool), t43.1⟩] H47) h49 => ?_
    obtain ⟨s161, e53, hm⟩ := bindS hm
    refine q_whileB w47 _ (fun s50 B54 σ65 => ∃ v69 o71, σ65 = [some u0, some u1, some u2, some v13, some (.ref p46), some v69, o71] ∧ (rBool).is K B54 v69 s50.1) (fun s50 => [⟨p46, (cLst rBool), s50.2⟩]) ((true, t43.1)) e53 (fun B9 x9 => ⟨v48, _, rfl, ((rBool).mono x9 h49)⟩) rfl ?_ ?_
    · skip
      rintro s50 s170 B54 B55 H56 σ65 hb51 x57 ⟨v69, o71, rfl, h70⟩ x58 w59 N60 K61 hN62 hB63 Q66 qT67 qF68
      replace w59 : Own K B55 M [⟨p46, (cLst rBool), s50.2⟩] H56 := w59
      refine q_wt w59 (et_B (ev_varB rfl h70)) (fun hq73 B72 H72 x72 (w72 : Own K B72 M [⟨p46, (cLst rBool), s50.2⟩] H72) => qT67 _ ?_) (fun hq75 B74 H74 x74 (w74 : Own K B74 M [⟨p46, (cLst rBool), s50.2⟩] H74) => qF68 _ ?_)
      · skip
        rw [if_pos hq73] at hb51
        refine q_asg (n := 5) w72 (ev_bl (b := false)) fun v77 B76 H76 x76 (w76 : Own K B76 M [⟨p46, (cLst rBool), s50.2⟩] H76) h78 => ?_
        obtain ⟨s151, e83, hb51⟩ := bindS hb51
        refine q_fold w76 (ei_lst (ev_var rfl (((rLst rInt)).mono (((((x45.trans x47).trans x57).trans x58).trans x72).trans x76) h14))) _ (fun s79 B84 σ97 => ∃ v98 o100, σ97 = [some u0, some u1, some u2, some v13, some (.ref p46), some v98, o100] ∧ (rBool).is K B84 v98 s79.1) (fun s79 => [⟨p46, (cLst rBool), s79.2⟩]) ((false, s50.2)) e83 (fun B9 x9 => ⟨v77, _, rfl, ((rBool).mono x9 h78)⟩) rfl ?_ ?_
        · skip
          rintro s79 x80 s160 v90 B84 B85 H86 σ97 hb81 x87 ⟨v98, o100, rfl, h99⟩ x88 w89 h91 N92 K93 hN94
          replace w89 : Own K B85 M [⟨p46, (cLst rBool), s79.2⟩] H86 := w89
          refine g_name ?_
          obtain ⟨t101, e102, hb81⟩ := bindS hb81
          obtain ⟨t133, e134, hb81⟩ := bindS hb81
          obtain ⟨s137, e138, hb81⟩ := bindS hb81
          refine q_cut (fun σ150 H147 => ∃ v148 B147, Ex B85 B147 ∧ Own K B147 M [⟨p46, (cLst rBool), s137.2⟩] H147 ∧ σ150 = [some u0, some u1, some u2, some v13, some (.ref p46), some v148, some v90] ∧ (rBool).is K B147 v148 s137.1) ?_ ?_
          · skip
            refine q_ifc w89 (et_and' (d := t133) (et_B (ev_ixC (n := 0) (ev_varR rfl) (ev_varI rfl h91) rfl e102)) (fun hb135 => by rw [if_pos hb135] at e134; obtain ⟨t103, e104, e134⟩ := bindS e134; obtain ⟨t125, e126, e134⟩ := bindS e134; obtain rfl := Option.some.inj e134; exact (et_not (et_B (ev_anyG hP0 (ei_tup (ev_ix (ev_seqT (ev_var rfl (((rTup (rTup (rT2 rInt (rTup (rT2 rInt rInt)))))).mono ((((((((x12.trans x45).trans x47).trans x57).trans x58).trans x72).trans x76).trans x87).trans x88) f0))) (ev_varI rfl h91) e104)) _ (fun σ118 => ∃ o105 o106, σ118 = [o105, o106, some (.ref p46)]) ⟨none, none, rfl⟩ e126 (by rintro _ x113 c114 v111 B107 H108 σ118 hb115 x109 ⟨o105, o106, rfl⟩ w110 h112 Q116 q117; replace w110 : Own K B107 M [⟨p46, (cLst rBool), s79.2⟩] H108 := w110; refine g_T2 h112 w110 fun v119 v120 h121 h122 => ?_; refine g_cons ?_; refine g_name ?_; refine g_cons ?_; refine g_name ?_; refine g_nil ?_; obtain ⟨t123, e124, hb115⟩ := bindS hb115; obtain rfl := Option.some.inj hb115; exact (ev_callF (ea_cons (ev_var rfl h122) (ea_cons (ev_varR rfl) ea_nil)) (af_same (af_cell (n := 0) rfl af_nil)) (nts_cons nt_lst nts_nil) to_bool ⟨_, _, _, rfl, rfl, e124, rfl, rfl⟩) B107 H108 (Ex.refl _) w110 _ fun v127 B128 H129 x130 w131 h132 => by rw [show v127 = V.bl _ from h132]; exact q117 _ B128 H129 ⟨_, _, rfl⟩ x130 w131))))) (fun hb135 => by rw [if_neg (by rw [hb135]; exact Bool.false_ne_true)] at e134; obtain rfl := Option.some.inj e134; exact ⟨rfl, rfl⟩)) (fun hb136 B139 H139 x139 (w139 : Own K B139 M [⟨p46, (cLst rBool), s79.2⟩] H139) => ?_) (fun hb136 B146 H146 x146 (w146 : Own K B146 M [⟨p46, (cLst rBool), s79.2⟩] H146) => ?_)
            · skip
              rw [if_pos hb136] at e138
              obtain ⟨t140, e141, e138⟩ := bindS e138
              refine q_setC (n := 0) w139 (ev_bl (b := false)) rfl (ev_varI rfl h91) rfl e141 fun B142 H142 x142 (w142 : Own K B142 M [⟨p46, (cLst rBool), (s79.2.set t140 false)⟩] H142) => ?_
              refine q_asg (n := 5) w142 (ev_bl (b := true)) fun v144 B143 H143 x143 (w143 : Own K B143 M [⟨p46, (cLst rBool), (s79.2.set t140 false)⟩] H143) h145 => ?_
              replace e138 : some _ = some _ := e138
              cases e138
              exact ⟨v144, _, ((x139.trans x142).trans x143), w143, rfl, h145⟩
            rw [if_neg (by rw [hb136]; exact Bool.false_ne_true)] at e138
            replace e138 : some _ = some _ := e138
            cases e138
            exact ⟨v98, _, x146, w146, rfl, ((rBool).mono (x88.trans x146) h99)⟩
          rintro σ150' H147 ⟨v148, B147, x147, w147, rfl, h149⟩
          replace hb81 : some _ = some _ := hb81
          cases hb81
          exact hN94 _ _ _ x147 w147 ⟨v148, _, rfl, h149⟩
        rintro B152 H153 σ156 x154 w155 ⟨v157, o159, rfl, h158⟩
        replace w155 : Own K B152 M [⟨p46, (cLst rBool), s151.2⟩] H153 := w155
        replace hb51 : some _ = some _ := hb51
        cases hb51
        exact hN62 _ _ _ _ rfl ((x72.trans x76).trans x154) w155 ⟨v157, _, rfl, h158⟩
      rw [if_neg (by rw [hq75]; exact Bool.false_ne_true)] at hb51
      replace hb51 : some _ = some _ := hb51
      cases hb51
      exact hB63 _ _ _ _ rfl x74 w74 ⟨v69, _, rfl, ((rBool).mono (x58.trans x74) h70)⟩
    rintro B162 H163 σ166 x164 w165 ⟨v167, o169, rfl, h168⟩
    replace w165 : Own K B162 M [⟨p46, (cLst rBool), s161.2⟩] H163 := w165
    replace hm : some _ = some _ := hm
    obtain rfl := Option.some.inj hm
    exact q_retC (n := 0) (m := 4) w165 rfl rfl fun v9 B9 x9 w9 h9 => k _ _ _ ((((x12.trans x45).trans x47).trans x164).trans x9) w9 h9
noncomputable def m_certain (a0 : (List (List (Int × (List (Int × Int)))))) (a1 : (List Int)) (a2 : (List Int)) : Option (List Int) :=
  Option.bind (m_rest_of a0 a1 a2) fun t10 =>
  Option.bind (m_never a0 a1 a2) fun t12 =>
  Option.bind (m_backward a0 t10 t12) fun t14 =>
  Option.bind (small62 ((a0.length : Int))) fun t19 =>
  Option.bind (room ((rng 0 ((a0.length : Int)))).length) fun t52 =>
  Option.bind (compM (S := Unit) (β := Int) (fun (s21 : Unit) (x28 : Int) => (Option.bind (ixL t14 x28) fun t45 => if (!t45) = true then ( some (some x28, ())) else some (none, ()))) (()) ((rng 0 ((a0.length : Int))))) fun t54 =>
  some t54.1
def C_certain : List Arg → List Cell → Arg → List Cell → Prop := fun as L r L' => ∃ a0 a1 a2 c, as = [⟨(rTup (rTup (rT2 rInt (rTup (rT2 rInt rInt))))), a0⟩, ⟨(rLst rInt), a1⟩, ⟨(rLst rInt), a2⟩] ∧ L = [] ∧ m_certain a0 a1 a2 = some c ∧ r = ⟨(rLst rInt), c⟩ ∧ L' = []
theorem sc_certain : FnScope ["system", "allowed", "targets", "lost", "state"] ["system", "allowed", "targets"] (defScope s_certain) := ⟨rfl, rfl, rfl, by decide +kernel, rfl, by decide +kernel, by decide +kernel⟩
set_option maxHeartbeats 0 in
theorem ok_certain (F : FunC K "certain" s_certain f fd cc) (c_backward : Cl P w K mg base 4 "backward" (spV K T C_backward) []) (c_rest_of : Cl P w K mg base 1 "rest_of" (spV K T C_rest_of) []) (c_never : Cl P w K mg base 4 "never" (spV K T C_never) []) (z_range : mg "range" = none) (z_len : mg "len" = none) : FnOk P w K mg base CX0 5 f fd ["system", "allowed", "targets"] (spV K T C_certain) := by
  refine F.ok sc_certain (fun vs H Q E h => ?_) (fun A outer s H vs Q E hr h => ?_)
  · obtain ⟨B, M, L, as, r, L', hT, w, ha, ⟨_, _, _, _, rfl, _⟩, k⟩ := h
    exact args_len ha
  · skip
    obtain ⟨B, M, L, as, r, L', rfl, w, ha, ⟨a0, a1, a2, c, rfl, rfl, hm, rfl, rfl⟩, k⟩ := h
    obtain ⟨u0, u1, u2, rfl, f0, f1, f2⟩ := args3 ha
    replace f0 : ((rTup (rTup (rT2 rInt (rTup (rT2 rInt rInt)))))).is K B u0 a0 := f0
    replace f1 : ((rLst rInt)).is K B u1 a1 := f1
    replace f2 : ((rLst rInt)).is K B u2 a2 := f2
    unfold m_certain at hm
    refine ⟨_, (pss_cons (ps_set (i := 3) sc_certain.nd rfl (by first | exact Or.inl rfl | exact Or.inr rfl) (pe_c c_backward hr (by omega) rfl (pa_cons (pv 0) (pa_cons (pe_c c_rest_of hr (by omega) rfl (pa_cons (pv 0) (pa_cons (pv 1) (pa_cons (pv 2) pa_nil)))) (pa_cons (pe_c c_never hr (by omega) rfl (pa_cons (pv 0) (pa_cons (pv 1) (pa_cons (pv 2) pa_nil)))) pa_nil))))) (pss_cons (ps_ret (pe_lc rfl sc_certain.nd (pi_range1 rfl z_range (pa_cons (pe_callB call_len_seq rfl z_len bt_len (pa_cons (pv 0) pa_nil)) pa_nil)) (blkOk_by (own := [("state", 4)]) (show blkC ["system", "allowed", "targets", "lost", "state"] (defScope s_certain) _ _ = true by decide +kernel)) (fun _ _ _ _ _ => (pg_name (i := 4) sc_certain.nd rfl (by first | exact Or.inl rfl | exact Or.inr rfl))) (fun _ _ _ _ _ => (pts_one (pt_not (pt_val (pe_ix (show IxR _ (rIx K) from ix_seq) (pv 3) (pv 4) (fun _ _ => rfl)))))) (fun _ _ _ _ _ => (pv 4)))) pss_nil)), ?_⟩
    rw [show start ["system", "allowed", "targets", "lost", "state"] [u0, u1, u2] = ([some u0, some u1, some u2, none, none] : L2.St) from rfl]
    obtain ⟨t10, e11, hm⟩ := bindS hm
    obtain ⟨t12, e13, hm⟩ := bindS hm
    obtain ⟨t14, e15, hm⟩ := bindS hm
    refine q_asg (n := 3) w (ev_call (ea_cons (ev_var rfl f0) (ea_cons (ev_call (ea_cons (ev_var rfl f0) (ea_cons (ev_var rfl f1) (ea_cons (ev_var rfl f2) ea_nil))) ⟨_, _, _, _, rfl, rfl, e11, rfl, rfl⟩) (ea_cons (ev_call (ea_cons (ev_var rfl f0) (ea_cons (ev_var rfl f1) (ea_cons (ev_var rfl f2) ea_nil))) ⟨_, _, _, _, rfl, rfl, e13, rfl, rfl⟩) ea_nil))) ⟨_, _, _, _, rfl, rfl, e15, rfl, rfl⟩) fun v17 B16 H16 x16 (w16 : Own K B16 M [] H16) h18 => ?_
    obtain ⟨t19, e20, hm⟩ := bindS hm
    obtain ⟨t52, e53, hm⟩ := bindS hm
    obtain ⟨t54, e55, hm⟩ := bindS hm
    replace hm : some _ = some _ := hm
    obtain rfl := Option.some.inj hm
    exact q_ret w16 (ev_frz (el_lc (S := Unit) (ys := t54.1) (s1 := t54.2) (s0 := ()) (σ' := [some u0, some u1, some u2, some v17, none]) rInt (ei_rng1 (ea_cons (ev_len (ev_seqT (ev_var rfl (((rTup (rTup (rT2 rInt (rTup (rT2 rInt rInt)))))).mono x16 f0)))) ea_nil) e20) _ (fun (s21 : Unit) => []) rfl e55 e53 rfl (by rintro s21 x28 o33 s34 v26 D31 a32 B22 H23 hb30 x24 w25 h27 PY35 PN36 qY37 qN38; replace w25 : Own K B22 M [⟨D31, (cLst rInt), a32⟩] H23 := w25; refine g_name ?_; refine ⟨rfl, ?_⟩; obtain ⟨t45, e46, hb30⟩ := bindS hb30; exact (et_not (et_B (ev_ix (ev_seqL (ev_var rfl (((rLst rBool)).mono x24 h18))) (ev_varI rfl h27) e46))) B22 H23 (Ex.refl _) w25 _ fun B47 H48 x49 (w50 : Own K B47 M [⟨D31, (cLst rInt), a32⟩] H48) => lc_if (fun hq51 => by rw [if_pos hq51] at hb30; obtain ⟨rfl, rfl⟩ := Prod.mk.inj (Option.some.inj hb30); exact (ev_varI rfl h27) B47 H48 (Ex.refl _) w50 _ fun v39 B40 H41 x42 w43 h44 => qY37 v39 B40 H41 _ rfl (x49.trans x42) w43 h44) (fun hq51 => by rw [if_neg (by rw [hq51]; exact Bool.false_ne_true)] at hb30; obtain ⟨rfl, rfl⟩ := Prod.mk.inj (Option.some.inj hb30); exact qN38 B47 H48 rfl x49 w50)))) fun v9 B9 H9 x9 w9 h9 => k _ _ _ (x16.trans x9) w9 h9
noncomputable def m_ratio (a0 : Int) (a1 : Int) : Option (Int × Int) :=
  Option.bind (if (decide (a1 < (0 : Int))) = true then
    some (((-a0), (-a1)))
  else
    some ((a0, a1))
  ) fun (s11 : (Int × Int)) =>
  Option.bind (divI s11.1 ((gcdI s11.1 s11.2))) fun t29 =>
  Option.bind (divI s11.2 ((gcdI s11.1 s11.2))) fun t31 =>
  some (t29, t31)
def C_ratio : List Arg → List Cell → Arg → List Cell → Prop := fun as L r L' => ∃ a0 a1 c, as = [⟨rInt, a0⟩, ⟨rInt, a1⟩] ∧ L = [] ∧ m_ratio a0 a1 = some c ∧ r = ⟨(rT2 rInt rInt), c⟩ ∧ L' = []
theorem sc_ratio : FnScope ["n", "d", "common"] ["n", "d"] (defScope s_ratio) := ⟨rfl, rfl, rfl, by decide +kernel, rfl, by decide +kernel, by decide +kernel⟩
set_option maxHeartbeats 0 in
theorem ok_ratio (F : FunC K "ratio" s_ratio f fd cc) (z_gcd : mg "gcd" = some (.builtin "math.gcd")) : FnOk P w K mg base CX0 1 f fd ["n", "d"] (spV K T C_ratio) := by
  refine F.ok sc_ratio (fun vs H Q E h => ?_) (fun A outer s H vs Q E hr h => ?_)
  · obtain ⟨B, M, L, as, r, L', hT, w, ha, ⟨_, _, _, rfl, _⟩, k⟩ := h
    exact args_len ha
  · skip
    obtain ⟨B, M, L, as, r, L', rfl, w, ha, ⟨a0, a1, c, rfl, rfl, hm, rfl, rfl⟩, k⟩ := h
    obtain ⟨u0, u1, rfl, f0, f1⟩ := args2 ha
    replace f0 : (rInt).is K B u0 a0 := f0
    replace f1 : (rInt).is K B u1 a1 := f1
    unfold m_ratio at hm
    refine ⟨_, (Evl.pss_cut (ps_if (pt_cmpR op_lt (pv 1) pe_int (nomark _)) (pss_cons (ps_par (i := 0) (j := 1) rfl sc_ratio.nd rfl rfl (by decide) rfl rfl (pa_cons (pe_un un_neg (pv 0)) (pa_cons (pe_un un_neg (pv 1)) pa_nil)) rfl) pss_nil) pss_nil) (pss_cons (ps_set (i := 2) sc_ratio.nd rfl (by first | exact Or.inl rfl | exact Or.inr rfl) (pe_callBfun cr_gcd rfl z_gcd (pa_cons (pv 0) (pa_cons (pv 1) pa_nil)))) (pss_cons (ps_ret (pe_tup (pa_cons (pe_op op_fdivW (pv 0) (pv 2)) (pa_cons (pe_op op_fdivW (pv 1) (pv 2)) pa_nil)))) pss_nil))), ?_⟩
    rw [show start ["n", "d", "common"] [u0, u1] = ([some u0, some u1, none] : L2.St) from rfl]
    obtain ⟨s11, e12, hm⟩ := bindS hm
    refine q_cut (fun σ25 H20 => ∃ v21 v23 B20, Ex B B20 ∧ Own K B20 M [] H20 ∧ σ25 = [some v21, some v23, none] ∧ (rInt).is K B20 v21 s11.1 ∧ (rInt).is K B20 v23 s11.2) ?_ ?_
    · skip
      refine q_ifc w (et_test (ev_lt (ev_varI rfl f1) (ev_int (i := 0)))) (fun hb10 B13 H13 x13 (w13 : Own K B13 M [] H13) => ?_) (fun hb10 B19 H19 x19 (w19 : Own K B19 M [] H19) => ?_)
      · skip
        rw [if_pos hb10] at e12
        refine q_par (n := 0) (m := 1) w13 (ea_cons (ev_neg (ev_varI rfl f0)) (ea_cons (ev_neg (ev_varI rfl f1)) ea_nil)) fun v15 v17 B14 H14 x14 (w14 : Own K B14 M [] H14) h16 h18 => ?_
        replace e12 : some _ = some _ := e12
        cases e12
        exact ⟨v15, v17, _, (x13.trans x14), w14, rfl, h16, h18⟩
      rw [if_neg (by rw [hb10]; exact Bool.false_ne_true)] at e12
      replace e12 : some _ = some _ := e12
      cases e12
      exact ⟨u0, u1, _, x19, w19, rfl, ((rInt).mono x19 f0), ((rInt).mono x19 f1)⟩
    rintro σ25' H20 ⟨v21, v23, B20, x20, w20, rfl, h22, h24⟩
    refine q_asg (n := 2) w20 (ev_gcd (ev_varI rfl h22) (ev_varI rfl h24)) fun v27 B26 H26 x26 (w26 : Own K B26 M [] H26) h28 => ?_
    obtain ⟨t29, e30, hm⟩ := bindS hm
    obtain ⟨t31, e32, hm⟩ := bindS hm
    replace hm : some _ = some _ := hm
    obtain rfl := Option.some.inj hm
    exact q_ret w26 (ev_T2 (ea_cons (ev_div (ev_varI rfl h22) (ev_varI rfl h28) e30) (ea_cons (ev_div (ev_varI rfl h24) (ev_varI rfl h28) e32) ea_nil))) fun v9 B9 H9 x9 w9 h9 => k _ _ _ ((x20.trans x26).trans x9) w9 h9
noncomputable def m_minus (a0 : (Int × Int)) (a1 : (Int × Int)) : Option (Int × Int) :=
  Option.bind (mulI a0.1 a1.2) fun t10 =>
  Option.bind (mulI a1.1 a0.2) fun t12 =>
  Option.bind (mulI a0.2 a1.2) fun t14 =>
  Option.bind (m_ratio ((t10 - t12)) t14) fun t16 =>
  some t16
def C_minus : List Arg → List Cell → Arg → List Cell → Prop := fun as L r L' => ∃ a0 a1 c, as = [⟨(rT2 rInt rInt), a0⟩, ⟨(rT2 rInt rInt), a1⟩] ∧ L = [] ∧ m_minus a0 a1 = some c ∧ r = ⟨(rT2 rInt rInt), c⟩ ∧ L' = []
theorem sc_minus : FnScope ["a", "b"] ["a", "b"] (defScope s_minus) := ⟨rfl, rfl, rfl, by decide +kernel, rfl, by decide +kernel, by decide +kernel⟩
set_option maxHeartbeats 0 in
theorem ok_minus (F : FunC K "minus" s_minus f fd cc) (c_ratio : Cl P w K mg base 1 "ratio" (spV K T C_ratio) []) : FnOk P w K mg base CX0 2 f fd ["a", "b"] (spV K T C_minus) := by
  refine F.ok sc_minus (fun vs H Q E h => ?_) (fun A outer s H vs Q E hr h => ?_)
  · obtain ⟨B, M, L, as, r, L', hT, w, ha, ⟨_, _, _, rfl, _⟩, k⟩ := h
    exact args_len ha
  · skip
    obtain ⟨B, M, L, as, r, L', rfl, w, ha, ⟨a0, a1, c, rfl, rfl, hm, rfl, rfl⟩, k⟩ := h
    obtain ⟨u0, u1, rfl, f0, f1⟩ := args2 ha
    replace f0 : ((rT2 rInt rInt)).is K B u0 a0 := f0
    replace f1 : ((rT2 rInt rInt)).is K B u1 a1 := f1
    unfold m_minus at hm
    refine ⟨_, (pss_cons (ps_ret (pe_c c_ratio hr (by omega) rfl (pa_cons (pe_op op_sub (pe_op op_mulX (pe_ix ix_seq (pv 0) pe_int (fun _ _ => rfl)) (pe_ix ix_seq (pv 1) pe_int (fun _ _ => rfl))) (pe_op op_mulX (pe_ix ix_seq (pv 1) pe_int (fun _ _ => rfl)) (pe_ix ix_seq (pv 0) pe_int (fun _ _ => rfl)))) (pa_cons (pe_op op_mulX (pe_ix ix_seq (pv 0) pe_int (fun _ _ => rfl)) (pe_ix ix_seq (pv 1) pe_int (fun _ _ => rfl))) pa_nil)))) pss_nil), ?_⟩
    rw [show start ["a", "b"] [u0, u1] = ([some u0, some u1] : L2.St) from rfl]
    obtain ⟨t10, e11, hm⟩ := bindS hm
    obtain ⟨t12, e13, hm⟩ := bindS hm
    obtain ⟨t14, e15, hm⟩ := bindS hm
    obtain ⟨t16, e17, hm⟩ := bindS hm
    replace hm : some _ = some _ := hm
    obtain rfl := Option.some.inj hm
    exact q_ret w (ev_call (ea_cons (ev_sub (ev_mul (ev_fst (ev_var rfl f0)) (ev_snd (ev_var rfl f1)) e11) (ev_mul (ev_fst (ev_var rfl f1)) (ev_snd (ev_var rfl f0)) e13)) (ea_cons (ev_mul (ev_snd (ev_var rfl f0)) (ev_snd (ev_var rfl f1)) e15) ea_nil)) ⟨_, _, _, rfl, rfl, e17, rfl, rfl⟩) fun v9 B9 H9 x9 w9 h9 => k _ _ _ ((Ex.refl _).trans x9) w9 h9
noncomputable def m_times (a0 : (Int × Int)) (a1 : (Int × Int)) : Option (Int × Int) :=
  Option.bind (mulI a0.1 a1.1) fun t10 =>
  Option.bind (mulI a0.2 a1.2) fun t12 =>
  Option.bind (m_ratio t10 t12) fun t14 =>
  some t14
def C_times : List Arg → List Cell → Arg → List Cell → Prop := fun as L r L' => ∃ a0 a1 c, as = [⟨(rT2 rInt rInt), a0⟩, ⟨(rT2 rInt rInt), a1⟩] ∧ L = [] ∧ m_times a0 a1 = some c ∧ r = ⟨(rT2 rInt rInt), c⟩ ∧ L' = []
theorem sc_times : FnScope ["a", "b"] ["a", "b"] (defScope s_times) := ⟨rfl, rfl, rfl, by decide +kernel, rfl, by decide +kernel, by decide +kernel⟩
set_option maxHeartbeats 0 in
theorem ok_times (F : FunC K "times" s_times f fd cc) (c_ratio : Cl P w K mg base 1 "ratio" (spV K T C_ratio) []) : FnOk P w K mg base CX0 2 f fd ["a", "b"] (spV K T C_times) := by
  refine F.ok sc_times (fun vs H Q E h => ?_) (fun A outer s H vs Q E hr h => ?_)
  · obtain ⟨B, M, L, as, r, L', hT, w, ha, ⟨_, _, _, rfl, _⟩, k⟩ := h
    exact args_len ha
  · skip
    obtain ⟨B, M, L, as, r, L', rfl, w, ha, ⟨a0, a1, c, rfl, rfl, hm, rfl, rfl⟩, k⟩ := h
    obtain ⟨u0, u1, rfl, f0, f1⟩ := args2 ha
    replace f0 : ((rT2 rInt rInt)).is K B u0 a0 := f0
    replace f1 : ((rT2 rInt rInt)).is K B u1 a1 := f1
    unfold m_times at hm
    refine ⟨_, (pss_cons (ps_ret (pe_c c_ratio hr (by omega) rfl (pa_cons (pe_op op_mulX (pe_ix ix_seq (pv 0) pe_int (fun _ _ => rfl)) (pe_ix ix_seq (pv 1) pe_int (fun _ _ => rfl))) (pa_cons (pe_op op_mulX (pe_ix ix_seq (pv 0) pe_int (fun _ _ => rfl)) (pe_ix ix_seq (pv 1) pe_int (fun _ _ => rfl))) pa_nil)))) pss_nil), ?_⟩
    rw [show start ["a", "b"] [u0, u1] = ([some u0, some u1] : L2.St) from rfl]
    obtain ⟨t10, e11, hm⟩ := bindS hm
    obtain ⟨t12, e13, hm⟩ := bindS hm
    obtain ⟨t14, e15, hm⟩ := bindS hm
    replace hm : some _ = some _ := hm
    obtain rfl := Option.some.inj hm
    exact q_ret w (ev_call (ea_cons (ev_mul (ev_fst (ev_var rfl f0)) (ev_fst (ev_var rfl f1)) e11) (ea_cons (ev_mul (ev_snd (ev_var rfl f0)) (ev_snd (ev_var rfl f1)) e13) ea_nil)) ⟨_, _, _, rfl, rfl, e15, rfl, rfl⟩) fun v9 B9 H9 x9 w9 h9 => k _ _ _ ((Ex.refl _).trans x9) w9 h9
noncomputable def m_over (a0 : (Int × Int)) (a1 : (Int × Int)) : Option (Int × Int) :=
  Option.bind (mulI a0.1 a1.2) fun t10 =>
  Option.bind (mulI a0.2 a1.1) fun t12 =>
  Option.bind (m_ratio t10 t12) fun t14 =>
  some t14
def C_over : List Arg → List Cell → Arg → List Cell → Prop := fun as L r L' => ∃ a0 a1 c, as = [⟨(rT2 rInt rInt), a0⟩, ⟨(rT2 rInt rInt), a1⟩] ∧ L = [] ∧ m_over a0 a1 = some c ∧ r = ⟨(rT2 rInt rInt), c⟩ ∧ L' = []
theorem sc_over : FnScope ["a", "b"] ["a", "b"] (defScope s_over) := ⟨rfl, rfl, rfl, by decide +kernel, rfl, by decide +kernel, by decide +kernel⟩
set_option maxHeartbeats 0 in
theorem ok_over (F : FunC K "over" s_over f fd cc) (c_ratio : Cl P w K mg base 1 "ratio" (spV K T C_ratio) []) : FnOk P w K mg base CX0 2 f fd ["a", "b"] (spV K T C_over) := by
  refine F.ok sc_over (fun vs H Q E h => ?_) (fun A outer s H vs Q E hr h => ?_)
  · obtain ⟨B, M, L, as, r, L', hT, w, ha, ⟨_, _, _, rfl, _⟩, k⟩ := h
    exact args_len ha
  · skip
    obtain ⟨B, M, L, as, r, L', rfl, w, ha, ⟨a0, a1, c, rfl, rfl, hm, rfl, rfl⟩, k⟩ := h
    obtain ⟨u0, u1, rfl, f0, f1⟩ := args2 ha
    replace f0 : ((rT2 rInt rInt)).is K B u0 a0 := f0
    replace f1 : ((rT2 rInt rInt)).is K B u1 a1 := f1
    unfold m_over at hm
    refine ⟨_, (pss_cons (ps_ret (pe_c c_ratio hr (by omega) rfl (pa_cons (pe_op op_mulX (pe_ix ix_seq (pv 0) pe_int (fun _ _ => rfl)) (pe_ix ix_seq (pv 1) pe_int (fun _ _ => rfl))) (pa_cons (pe_op op_mulX (pe_ix ix_seq (pv 0) pe_int (fun _ _ => rfl)) (pe_ix ix_seq (pv 1) pe_int (fun _ _ => rfl))) pa_nil)))) pss_nil), ?_⟩
    rw [show start ["a", "b"] [u0, u1] = ([some u0, some u1] : L2.St) from rfl]
    obtain ⟨t10, e11, hm⟩ := bindS hm
    obtain ⟨t12, e13, hm⟩ := bindS hm
    obtain ⟨t14, e15, hm⟩ := bindS hm
    replace hm : some _ = some _ := hm
    obtain rfl := Option.some.inj hm
    exact q_ret w (ev_call (ea_cons (ev_mul (ev_fst (ev_var rfl f0)) (ev_snd (ev_var rfl f1)) e11) (ea_cons (ev_mul (ev_snd (ev_var rfl f0)) (ev_fst (ev_var rfl f1)) e13) ea_nil)) ⟨_, _, _, rfl, rfl, e15, rfl, rfl⟩) fun v9 B9 H9 x9 w9 h9 => k _ _ _ ((Ex.refl _).trans x9) w9 h9
noncomputable def m_pivot_of (a0 : (List (List (Int × Int)))) (a1 : Int) : Option (Option Int) :=
  Option.bind (small62 a1) fun t10 =>
  Option.bind (small62 ((a0.length : Int))) fun t12 =>
  Option.bind (loopR (S := Unit) (R := (Option Int)) (α := Int) (fun (s14 : Unit) (x15 : Int) => (
    Option.bind (ixL a0 x15) fun t34 =>
    Option.bind (ixL t34 a1) fun t36 =>
    if (!decide (t36 = ((0 : Int), (1 : Int)))) = true then
      some (Stp.rt ((some x15)))
    else
      some (Stp.nx (()))
  )) (()) ((rng a1 ((a0.length : Int))))) fun o17 =>
  match o17 with
  | .inl s41 =>
    some none
  | .inr q9 => some q9
def C_pivot_of : List Arg → List Cell → Arg → List Cell → Prop := fun as L r L' => ∃ a0 a1 c, as = [⟨(rLst (rLst (rT2 rInt rInt))), a0⟩, ⟨rInt, a1⟩] ∧ L = [] ∧ m_pivot_of a0 a1 = some c ∧ r = ⟨(rOpt rInt), c⟩ ∧ L' = []
theorem sc_pivot_of : FnScope ["table", "column", "number"] ["table", "column"] (defScope s_pivot_of) := ⟨rfl, rfl, rfl, by decide +kernel, rfl, by decide +kernel, by decide +kernel⟩
set_option maxHeartbeats 0 in
theorem ok_pivot_of (F : FunC K "pivot_of" s_pivot_of f fd cc) (g_ZERO : GV K mg "ZERO" (rT2 rInt rInt) (((0 : Int), (1 : Int)))) (z_range : mg "range" = none) (z_len : mg "len" = none) : FnOk P w K mg base CX0 1 f fd ["table", "column"] (spV K T C_pivot_of) := by
  obtain ⟨u_ZERO, v_ZERO, m_ZERO, rv_ZERO, i_ZERO⟩ := g_ZERO
  refine F.ok sc_pivot_of (fun vs H Q E h => ?_) (fun A outer s H vs Q E hr h => ?_)
  · obtain ⟨B, M, L, as, r, L', hT, w, ha, ⟨_, _, _, rfl, _⟩, k⟩ := h
    exact args_len ha
  · skip
    obtain ⟨B, M, L, as, r, L', rfl, w, ha, ⟨a0, a1, c, rfl, rfl, hm, rfl, rfl⟩, k⟩ := h
    obtain ⟨u0, u1, rfl, f0, f1⟩ := args2 ha
    replace f0 : ((rLst (rLst (rT2 rInt rInt)))).is K B u0 a0 := f0
    replace f1 : (rInt).is K B u1 a1 := f1
    have hu := room_hu hr
    unfold m_pivot_of at hm
    refine ⟨_, (pss_cons (ps_for PassesOwn.never rfl (pi_range2 rfl z_range (pa_cons (pv 1) (pa_cons (pe_callB call_len_seq rfl z_len bt_len (pa_cons (pv 0) pa_nil)) pa_nil))) (pg_name (i := 2) sc_pivot_of.nd rfl (by first | exact Or.inl rfl | exact Or.inr rfl)) (pss_cons (ps_if (pt_cmpR (op_neD hu) (pe_ix ix_seq (pe_ix ix_seq (pv 0) (pv 2) (fun _ _ => rfl)) (pv 1) (fun _ _ => rfl)) (pe_glob rfl m_ZERO rv_ZERO) (nomark _)) (pss_cons (ps_ret (pv 2)) pss_nil) pss_nil) pss_nil)) (pss_cons (ps_ret pe_non) pss_nil)), ?_⟩
    rw [show start ["table", "column", "number"] [u0, u1] = ([some u0, some u1, none] : L2.St) from rfl]
    obtain ⟨t10, e11, hm⟩ := bindS hm
    obtain ⟨t12, e13, hm⟩ := bindS hm
    obtain ⟨o17, e18, hm⟩ := bindS hm
    refine q_forR w (ei_rng2 (ea_cons (ev_varI rfl f1) (ea_cons (ev_len (ev_seqL (ev_var rfl f0))) ea_nil)) e11 e13) _ (fun s14 B19 σ32 => ∃ o33, σ32 = [some u0, some u1, o33]) (fun s14 => []) (()) e18 (fun B9 x9 => ⟨_, rfl⟩) rfl ?_ ?_
    · skip
      rintro s14 x15 s48 v25 B19 B20 H21 σ32 hb16 x22 ⟨o33, rfl⟩ x23 w24 h26 ho31 N27 K28 hN29 hB30
      replace w24 : Own K B20 M [] H21 := w24
      refine g_name ?_
      obtain ⟨t34, e35, hb16⟩ := bindS hb16
      obtain ⟨t36, e37, hb16⟩ := bindS hb16
      refine q_if w24 (et_test (ev_neT (dr_T2 dr_int dr_int) (by decide) (ev_ix (ev_seqL (ev_ix (ev_seqL (ev_var rfl (((rLst (rLst (rT2 rInt rInt)))).mono (x22.trans x23) f0))) (ev_varI rfl h26) e35)) (ev_varI rfl f1) e37) (ev_k i_ZERO))) (fun hb38 B39 H39 x39 (w39 : Own K B39 M [] H39) => ?_) (fun hb38 B40 H40 x40 (w40 : Own K B40 M [] H40) => ?_)
      · skip
        rw [if_pos hb38] at hb16
        replace hb16 : some _ = some _ := hb16
        obtain rfl := Option.some.inj hb16
        obtain rfl := ho31 _ rfl
        replace hm : some _ = some _ := hm
        obtain rfl := Option.some.inj hm
        exact q_ret w39 (ev_sm (ev_varI rfl h26)) fun v9 B9 H9 x9 w9 h9 => k _ _ _ (((x22.trans x23).trans x39).trans x9) w9 h9
      rw [if_neg (by rw [hb38]; exact Bool.false_ne_true)] at hb16
      replace hb16 : some _ = some _ := hb16
      cases hb16
      exact hN29 _ _ _ _ rfl x40 w40 ⟨_, rfl⟩
    rintro s41 B42 H43 σ46 rfl x44 w45 ⟨o47, rfl⟩
    dsimp only at hm
    replace w45 : Own K B42 M [] H43 := w45
    replace hm : some _ = some _ := hm
    obtain rfl := Option.some.inj hm
    exact q_ret w45 (ev_non (r := rInt)) fun v9 B9 H9 x9 w9 h9 => k _ _ _ (x44.trans x9) w9 h9
noncomputable def m_cleared (a0 : (List (Int × Int))) (a1 : (List (Int × Int))) (a2 : Int) : Option (List (Int × Int)) :=
  Option.bind (ixL a0 a2) fun t10 =>
  if (decide (t10 = ((0 : Int), (1 : Int)))) = true then
    some a0
  else
    Option.bind (room ((enumI 0 a0)).length) fun t52 =>
    Option.bind (compM (S := Unit) (β := (Int × Int)) (fun (s18 : Unit) (x25 : (Int × (Int × Int))) => (Option.bind (ixL a1 x25.1) fun t46 => Option.bind (m_times t10 t46) fun t48 => Option.bind (m_minus x25.2 t48) fun t50 => some (some t50, ()))) (()) ((enumI 0 a0))) fun t54 =>
    some t54.1
def C_cleared : List Arg → List Cell → Arg → List Cell → Prop := fun as L r L' => ∃ a0 a1 a2 c, as = [⟨(rLst (rT2 rInt rInt)), a0⟩, ⟨(rLst (rT2 rInt rInt)), a1⟩, ⟨rInt, a2⟩] ∧ L = [] ∧ m_cleared a0 a1 a2 = some c ∧ r = ⟨(rLst (rT2 rInt rInt)), c⟩ ∧ L' = []
theorem sc_cleared : FnScope ["row", "other", "column", "factor", "place", "item"] ["row", "other", "column"] (defScope s_cleared) := ⟨rfl, rfl, rfl, by decide +kernel, rfl, by decide +kernel, by decide +kernel⟩
set_option maxHeartbeats 0 in
theorem ok_cleared (F : FunC K "cleared" s_cleared f fd cc) (c_minus : Cl P w K mg base 2 "minus" (spV K T C_minus) []) (c_times : Cl P w K mg base 2 "times" (spV K T C_times) []) (g_ZERO : GV K mg "ZERO" (rT2 rInt rInt) (((0 : Int), (1 : Int)))) (z_enumerate : mg "enumerate" = none) : FnOk P w K mg base CX0 3 f fd ["row", "other", "column"] (spV K T C_cleared) := by
  obtain ⟨u_ZERO, v_ZERO, m_ZERO, rv_ZERO, i_ZERO⟩ := g_ZERO
  refine F.ok sc_cleared (fun vs H Q E h => ?_) (fun A outer s H vs Q E hr h => ?_)
  · obtain ⟨B, M, L, as, r, L', hT, w, ha, ⟨_, _, _, _, rfl, _⟩, k⟩ := h
    exact args_len ha
  · skip
    obtain ⟨B, M, L, as, r, L', rfl, w, ha, ⟨a0, a1, a2, c, rfl, rfl, hm, rfl, rfl⟩, k⟩ := h
    obtain ⟨u0, u1, u2, rfl, f0, f1, f2⟩ := args3 ha
    replace f0 : ((rLst (rT2 rInt rInt))).is K B u0 a0 := f0
    replace f1 : ((rLst (rT2 rInt rInt))).is K B u1 a1 := f1
    replace f2 : (rInt).is K B u2 a2 := f2
    have hu := room_hu hr
    unfold m_cleared at hm
    refine ⟨_, (pss_cons (ps_set (i := 3) sc_cleared.nd rfl (by first | exact Or.inl rfl | exact Or.inr rfl) (pe_ix ix_seq (pv 0) (pv 2) (fun _ _ => rfl))) (pss_cons (ps_if (pt_cmpR (op_eqD hu) (pv 3) (pe_glob rfl m_ZERO rv_ZERO) (nomark _)) (pss_cons (ps_ret (pv 0)) pss_nil) pss_nil) (pss_cons (ps_ret (pe_lc rfl sc_cleared.nd (pi_enum rfl z_enumerate (pa_cons (pv 0) pa_nil)) (blkOk_by (own := [("place", 4), ("item", 5)]) (show blkC ["row", "other", "column", "factor", "place", "item"] (defScope s_cleared) _ _ = true by decide +kernel)) (fun _ _ _ _ _ => (show PG _ _ (gTup K 2 (gCons (gName 4) (gCons (gName 5) gNil))) from (pg_tup rfl (pgs_cons (pg_name (i := 4) sc_cleared.nd rfl (by first | exact Or.inl rfl | exact Or.inr rfl)) (pgs_cons (pg_name (i := 5) sc_cleared.nd rfl (by first | exact Or.inl rfl | exact Or.inr rfl)) pgs_nil))))) (fun _ _ _ _ _ => pts_nil) (fun _ _ _ _ _ => (pe_c c_minus hr (by omega) rfl (pa_cons (pv 5) (pa_cons (pe_c c_times hr (by omega) rfl (pa_cons (pv 3) (pa_cons (pe_ix (show IxR _ (rIx K) from ix_seq) (pv 1) (pv 4) (fun _ _ => rfl)) pa_nil))) pa_nil)))))) pss_nil))), ?_⟩
    rw [show start ["row", "other", "column", "factor", "place", "item"] [u0, u1, u2] = ([some u0, some u1, some u2, none, none, none] : L2.St) from rfl]
    obtain ⟨t10, e11, hm⟩ := bindS hm
    refine q_asg (n := 3) w (ev_ix (ev_seqL (ev_var rfl f0)) (ev_varI rfl f2) e11) fun v13 B12 H12 x12 (w12 : Own K B12 M [] H12) h14 => ?_
    refine q_if w12 (et_test (ev_eqT (dr_T2 dr_int dr_int) (by decide) (ev_var rfl h14) (ev_k i_ZERO))) (fun hb15 B16 H16 x16 (w16 : Own K B16 M [] H16) => ?_) (fun hb15 B17 H17 x17 (w17 : Own K B17 M [] H17) => ?_)
    · skip
      rw [if_pos hb15] at hm
      replace hm : some _ = some _ := hm
      obtain rfl := Option.some.inj hm
      exact q_ret w16 (ev_var rfl (((rLst (rT2 rInt rInt))).mono (x12.trans x16) f0)) fun v9 B9 H9 x9 w9 h9 => k _ _ _ ((x12.trans x16).trans x9) w9 h9
    rw [if_neg (by rw [hb15]; exact Bool.false_ne_true)] at hm
    obtain ⟨t52, e53, hm⟩ := bindS hm
    obtain ⟨t54, e55, hm⟩ := bindS hm
    replace hm : some _ = some _ := hm
    obtain rfl := Option.some.inj hm
    exact q_ret w17 (ev_frz (el_lc (S := Unit) (ys := t54.1) (s1 := t54.2) (s0 := ()) (σ' := [some u0, some u1, some u2, some v13, none, none]) (rT2 rInt rInt) (ei_enumL (ev_var rfl (((rLst (rT2 rInt rInt))).mono (x12.trans x17) f0))) _ (fun (s18 : Unit) => []) rfl e55 e53 rfl (by rintro s18 x25 o30 s31 v23 D28 a29 B19 H20 hb27 x21 w22 h24 PY32 PN33 qY34 qN35; replace w22 : Own K B19 M [⟨D28, (cLst (rT2 rInt rInt)), a29⟩] H20 := w22; refine g_T2 h24 w22 fun v36 v37 h38 h39 => ?_; refine g_cons ?_; refine g_name ?_; refine g_cons ?_; refine g_name ?_; refine g_nil ?_; refine ⟨rfl, ?_⟩; obtain ⟨t46, e47, hb27⟩ := bindS hb27; obtain ⟨t48, e49, hb27⟩ := bindS hb27; obtain ⟨t50, e51, hb27⟩ := bindS hb27; obtain ⟨rfl, rfl⟩ := Prod.mk.inj (Option.some.inj hb27); refine lc_yes ?_; exact (ev_call (ea_cons (ev_var rfl h39) (ea_cons (ev_call (ea_cons (ev_var rfl (((rT2 rInt rInt)).mono (x17.trans x21) h14)) (ea_cons (ev_ix (ev_seqL (ev_var rfl (((rLst (rT2 rInt rInt))).mono ((x12.trans x17).trans x21) f1))) (ev_varI rfl h38) e47) ea_nil)) ⟨_, _, _, rfl, rfl, e49, rfl, rfl⟩) ea_nil)) ⟨_, _, _, rfl, rfl, e51, rfl, rfl⟩) B19 H20 (Ex.refl _) w22 _ fun v40 B41 H42 x43 w44 h45 => qY34 v40 B41 H42 _ rfl x43 w44 h45))) fun v9 B9 H9 x9 w9 h9 => k _ _ _ ((x12.trans x17).trans x9) w9 h9
noncomputable def m_solve (a0 : (List (List (Int × Int)))) (a1 : (List (Int × Int))) : Option (Option (List (Int × Int))) :=
  Option.bind (room ((enumI 0 a0)).length) fun t42 =>
  Option.bind (compM (S := Unit) (β := (List (Int × Int))) (fun (s10 : Unit) (x17 : (Int × (List (Int × Int)))) => (Option.bind (ixL a1 x17.1) fun t38 => Option.bind (catT x17.2 ([t38])) fun t40 => some (some t40, ()))) (()) ((enumI 0 a0))) fun t44 =>
  Option.bind (small62 ((t44.1.length : Int))) fun t48 =>
  Option.bind (loopR (S := (List (List (Int × Int)))) (R := (Option (List (Int × Int)))) (α := Int) (fun (s50 : (List (List (Int × Int)))) (x51 : Int) => (
    Option.bind (m_pivot_of s50 x51) fun t73 =>
    if t73.isNone = true then
      some (Stp.rt none)
    else
      Option.bind (t73) fun t81 =>
      Option.bind (ixL s50 t81) fun t83 =>
      Option.bind (ixL s50 x51) fun t85 =>
      Option.bind (ixO s50.length x51) fun t94 =>
      Option.bind (t73) fun t97 =>
      Option.bind (ixO ((s50.set t94 (((t83, t85)).1))).length t97) fun t99 =>
      Option.bind (ixL ((((s50.set t94 (((t83, t85)).1))).set t99 (((t83, t85)).2))) x51) fun t102 =>
      Option.bind (ixL t102 x51) fun t104 =>
      Option.bind (ixL ((((s50.set t94 (((t83, t85)).1))).set t99 (((t83, t85)).2))) x51) fun t109 =>
      Option.bind (room t109.length) fun t137 =>
      Option.bind (compM (S := Unit) (β := (Int × Int)) (fun (s111 : Unit) (x118 : (Int × Int)) => (Option.bind (m_over x118 t104) fun t135 => some (some t135, ()))) (()) t109) fun t139 =>
      Option.bind (ixO ((((s50.set t94 (((t83, t85)).1))).set t99 (((t83, t85)).2))).length x51) fun t141 =>
      Option.bind (small62 ((((((((s50.set t94 (((t83, t85)).1))).set t99 (((t83, t85)).2))).set t141 t139.1)).length : Int))) fun t144 =>
      Option.bind (foldO (S := (List (List (Int × Int)))) (α := Int) (fun (s146 : (List (List (Int × Int)))) (x147 : Int) => (
        Option.bind (if (!decide (x147 = x51)) = true then
          Option.bind (ixL s146 x147) fun t170 =>
          Option.bind (ixL s146 x51) fun t172 =>
          Option.bind (m_cleared t170 t172 x51) fun t174 =>
          Option.bind (ixO s146.length x147) fun t176 =>
          some ((s146.set t176 t174))
        else
          some s146
        ) fun (s167 : (List (List (Int × Int)))) =>
        some s167
      )) ((((((s50.set t94 (((t83, t85)).1))).set t99 (((t83, t85)).2))).set t141 t139.1)) ((rng 0 ((((((((s50.set t94 (((t83, t85)).1))).set t99 (((t83, t85)).2))).set t141 t139.1)).length : Int))))) fun s182 =>
      some (Stp.nx s182)
  )) t44.1 ((rng 0 ((t44.1.length : Int))))) fun o53 =>
  match o53 with
  | .inl s190 =>
    Option.bind (room s190.length) fun t230 =>
    Option.bind (compM (S := Unit) (β := (Int × Int)) (fun (s204 : Unit) (x211 : (List (Int × Int))) => (Option.bind (ixL x211 ((-(1 : Int)))) fun t228 => some (some t228, ()))) (()) s190) fun t232 =>
    some (some t232.1)
  | .inr q9 => some q9
def C_solve : List Arg → List Cell → Arg → List Cell → Prop := fun as L r L' => ∃ a0 a1 c, as = [⟨(rLst (rLst (rT2 rInt rInt))), a0⟩, ⟨(rLst (rT2 rInt rInt)), a1⟩] ∧ L = [] ∧ m_solve a0 a1 = some c ∧ r = ⟨(rOpt (rLst (rT2 rInt rInt))), c⟩ ∧ L' = []
theorem sc_solve : FnScope ["rows", "right", "table", "column", "number", "head", "other", "row", "item"] ["rows", "right"] (defScope s_solve) := ⟨rfl, rfl, rfl, by decide +kernel, rfl, by decide +kernel, by decide +kernel⟩
set_option maxHeartbeats 0 in
theorem ok_solve (F : FunC K "solve" s_solve f fd cc) (c_pivot_of : Cl P w K mg base 1 "pivot_of" (spV K T C_pivot_of) []) (c_over : Cl P w K mg base 2 "over" (spV K T C_over) []) (c_cleared : Cl P w K mg base 3 "cleared" (spV K T C_cleared) []) (z_enumerate : mg "enumerate" = none) (z_list : mg "list" = none) (z_range : mg "range" = none) (z_len : mg "len" = none) : FnOk P w K mg base CX0 4 f fd ["rows", "right"] (spV K T C_solve) := by
  refine F.ok sc_solve (fun vs H Q E h => ?_) (fun A outer s H vs Q E hr h => ?_)
  · obtain ⟨B, M, L, as, r, L', hT, w, ha, ⟨_, _, _, rfl, _⟩, k⟩ := h
    exact args_len ha
  · skip
    obtain ⟨B, M, L, as, r, L', rfl, w, ha, ⟨a0, a1, c, rfl, rfl, hm, rfl, rfl⟩, k⟩ := h
    obtain ⟨u0, u1, rfl, f0, f1⟩ := args2 ha
    replace f0 : ((rLst (rLst (rT2 rInt rInt)))).is K B u0 a0 := f0
    replace f1 : ((rLst (rT2 rInt rInt))).is K B u1 a1 := f1
    unfold m_solve at hm
    refine ⟨_, (pss_cons (ps_setLc (i := 2) rfl sc_solve.nd rfl rfl rfl (pi_enum rfl z_enumerate (pa_cons (pv 0) pa_nil)) (blkOk_by (own := [("number", 4), ("row", 7)]) (show blkC ["rows", "right", "table", "column", "number", "head", "other", "row", "item"] (defScope s_solve) _ _ = true by decide +kernel)) (fun _ _ _ _ _ => (show PG _ _ (gTup K 2 (gCons (gName 4) (gCons (gName 7) gNil))) from (pg_tup rfl (pgs_cons (pg_name (i := 4) sc_solve.nd rfl (by first | exact Or.inl rfl | exact Or.inr rfl)) (pgs_cons (pg_name (i := 7) sc_solve.nd rfl (by first | exact Or.inl rfl | exact Or.inr rfl)) pgs_nil))))) (fun _ _ _ _ _ => pts_nil) (fun _ _ _ _ _ => (pe_op op_cat (pe_callTy (show CallR _ _ (rListOf K) from call_list_of) rfl z_list bt_list (pa_cons (pv 7) pa_nil)) (pe_lst (pa_cons (pe_ix (show IxR _ (rIx K) from ix_seq) (pv 1) (pv 4) (fun _ _ => rfl)) pa_nil))))) (pss_cons (ps_for PassesOwn.never rfl (pi_range1 rfl z_range (pa_cons (pe_callB call_len_seq rfl z_len bt_len (pa_cons (pv 2) pa_nil)) pa_nil)) (pg_name (i := 3) sc_solve.nd rfl (by first | exact Or.inl rfl | exact Or.inr rfl)) (pss_cons (ps_set (i := 4) sc_solve.nd rfl (by first | exact Or.inl rfl | exact Or.inr rfl) (pe_c c_pivot_of hr (by omega) rfl (pa_cons (pv 2) (pa_cons (pv 3) pa_nil)))) (pss_cons (ps_if (pt_cmp (pc_isN (pv 4))) (pss_cons (ps_ret pe_non) pss_nil) pss_nil) (pss_cons (ps_asg (pe_tup (pa_cons (pe_ix ix_seq (pv 2) (pv 4) (fun _ _ => rfl)) (pa_cons (pe_ix ix_seq (pv 2) (pv 3) (fun _ _ => rfl)) pa_nil))) (pg_tup rfl (pgs_cons (pg_sub (pv 2) (pv 3) set_list) (pgs_cons (pg_sub (pv 2) (pv 4) set_list) pgs_nil)))) (pss_cons (ps_set (i := 5) sc_solve.nd rfl (by first | exact Or.inl rfl | exact Or.inr rfl) (pe_ix ix_seq (pe_ix ix_seq (pv 2) (pv 3) (fun _ _ => rfl)) (pv 3) (fun _ _ => rfl))) (pss_cons (ps_asg (pe_lc rfl sc_solve.nd (pi_list (pe_ix ix_seq (pv 2) (pv 3) (fun _ _ => rfl))) (blkOk_by (own := [("item", 8)]) (show blkC ["rows", "right", "table", "column", "number", "head", "other", "row", "item"] (defScope s_solve) _ _ = true by decide +kernel)) (fun _ _ _ _ _ => (pg_name (i := 8) sc_solve.nd rfl (by first | exact Or.inl rfl | exact Or.inr rfl))) (fun _ _ _ _ _ => pts_nil) (fun _ _ _ _ _ => (pe_c c_over hr (by omega) rfl (pa_cons (pv 8) (pa_cons (pv 5) pa_nil))))) (pg_sub (pv 2) (pv 3) set_list)) (pss_cons (ps_for PassesOwn.never rfl (pi_range1 rfl z_range (pa_cons (pe_callB call_len_seq rfl z_len bt_len (pa_cons (pv 2) pa_nil)) pa_nil)) (pg_name (i := 6) sc_solve.nd rfl (by first | exact Or.inl rfl | exact Or.inr rfl)) (Evl.pss_cut (ps_if (pt_cmpR op_ne (pv 6) (pv 3) (nomark _)) (pss_cons (ps_asg (pe_c c_cleared hr (by omega) rfl (pa_cons (pe_ix ix_seq (pv 2) (pv 6) (fun _ _ => rfl)) (pa_cons (pe_ix ix_seq (pv 2) (pv 3) (fun _ _ => rfl)) (pa_cons (pv 3) pa_nil)))) (pg_sub (pv 2) (pv 6) set_list)) pss_nil) pss_nil) pss_nil)) pss_nil))))))) (pss_cons (ps_ret (pe_lc rfl sc_solve.nd (pi_list (pv 2)) (blkOk_by (own := [("row", 7)]) (show blkC ["rows", "right", "table", "column", "number", "head", "other", "row", "item"] (defScope s_solve) _ _ = true by decide +kernel)) (fun _ _ _ _ _ => (pg_name (i := 7) sc_solve.nd rfl (by first | exact Or.inl rfl | exact Or.inr rfl))) (fun _ _ _ _ _ => pts_nil) (fun _ _ _ _ _ => (pe_ix (show IxR _ (rIx K) from ix_seq) (pv 7) (pe_un un_neg pe_int) (fun _ _ => rfl))))) pss_nil))), ?_⟩
    rw [show start ["rows", "right", "table", "column", "number", "head", "other", "row", "item"] [u0, u1] = ([some u0, some u1, none, none, none, none, none, none, none] : L2.St) from rfl]
    obtain ⟨t42, e43, hm⟩ := bindS hm
    obtain ⟨t44, e45, hm⟩ := bindS hm
    refine q_asgL (n := 2) w (el_lc (S := Unit) (ys := t44.1) (s1 := t44.2) (s0 := ()) (σ' := [some u0, some u1, none, none, none, none, none, none, none]) (rLst (rT2 rInt rInt)) (ei_enumL (ev_var rfl f0)) _ (fun (s10 : Unit) => []) rfl e45 e43 rfl (by rintro s10 x17 o22 s23 v15 D20 a21 B11 H12 hb19 x13 w14 h16 PY24 PN25 qY26 qN27; replace w14 : Own K B11 M [⟨D20, (cLst (rLst (rT2 rInt rInt))), a21⟩] H12 := w14; refine g_T2 h16 w14 fun v28 v29 h30 h31 => ?_; refine g_cons ?_; refine g_name ?_; refine g_cons ?_; refine g_name ?_; refine g_nil ?_; refine ⟨rfl, ?_⟩; obtain ⟨t38, e39, hb19⟩ := bindS hb19; obtain ⟨t40, e41, hb19⟩ := bindS hb19; obtain ⟨rfl, rfl⟩ := Prod.mk.inj (Option.some.inj hb19); refine lc_yes ?_; exact (ev_frz (el_cat (ev_frz (el_listOf (ev_seqL (ev_var rfl h31)))) (ev_frz (el_lst (r := (rT2 rInt rInt)) [t38] (ea_cons (ev_ix (ev_seqL (ev_var rfl (((rLst (rT2 rInt rInt))).mono x13 f1))) (ev_varI rfl h30) e39) ea_nil))) e41)) B11 H12 (Ex.refl _) w14 _ fun v32 B33 H34 x35 w36 h37 => qY26 v32 B33 H34 _ rfl x35 w36 h37)) fun p47 B46 H46 x46 (w46 : Own K B46 M [⟨p47, (cLst (rLst (rT2 rInt rInt))), t44.1⟩] H46) => ?_
    obtain ⟨t48, e49, hm⟩ := bindS hm
    obtain ⟨o53, e54, hm⟩ := bindS hm
    refine q_forR w46 (ei_rng1 (ea_cons (ev_lenC (n := 0) (ev_varR rfl) rfl) ea_nil) e49) _ (fun s50 B55 σ68 => ∃ o69 o70 o71 o72, σ68 = [some u0, some u1, some (.ref p47), o69, o70, o71, o72, none, none]) (fun s50 => [⟨p47, (cLst (rLst (rT2 rInt rInt))), s50⟩]) t44.1 e54 (fun B9 x9 => ⟨_, _, _, _, rfl⟩) rfl ?_ ?_
    · skip
      rintro s50 x51 s234 v61 B55 B56 H57 σ68 hb52 x58 ⟨o69, o70, o71, o72, rfl⟩ x59 w60 h62 ho67 N63 K64 hN65 hB66
      replace w60 : Own K B56 M [⟨p47, (cLst (rLst (rT2 rInt rInt))), s50⟩] H57 := w60
      refine g_name ?_
      obtain ⟨t73, e74, hb52⟩ := bindS hb52
      refine q_asg (n := 4) w60 (ev_callF (ea_cons (ev_varR rfl) (ea_cons (ev_varI rfl h62) ea_nil)) (af_cell (n := 0) rfl (af_same af_nil)) (nts_cons nt_lst nts_nil) (to_opt to_int) ⟨_, _, _, rfl, rfl, e74, rfl, rfl⟩) fun v76 B75 H75 x75 (w75 : Own K B75 M [⟨p47, (cLst (rLst (rT2 rInt rInt))), s50⟩] H75) h77 => ?_
      refine q_if w75 (et_B (ev_isN (ev_var rfl h77) (fun _ _ _ => nn_rInt))) (fun hb78 B79 H79 x79 (w79 : Own K B79 M [⟨p47, (cLst (rLst (rT2 rInt rInt))), s50⟩] H79) => ?_) (fun hb78 B80 H80 x80 (w80 : Own K B80 M [⟨p47, (cLst (rLst (rT2 rInt rInt))), s50⟩] H80) => ?_)
      · skip
        rw [if_pos hb78] at hb52
        replace hb52 : some _ = some _ := hb52
        obtain rfl := Option.some.inj hb52
        obtain rfl := ho67 _ rfl
        replace hm : some _ = some _ := hm
        obtain rfl := Option.some.inj hm
        exact q_ret w79 (ev_non (r := (rLst (rT2 rInt rInt)))) fun v9 B9 H9 x9 w9 h9 => k _ _ _ (((((x46.trans x58).trans x59).trans x75).trans x79).trans x9) w9.tail h9
      rw [if_neg (by rw [hb78]; exact Bool.false_ne_true)] at hb52
      obtain ⟨t81, e82, hb52⟩ := bindS hb52
      obtain ⟨t83, e84, hb52⟩ := bindS hb52
      obtain ⟨t85, e86, hb52⟩ := bindS hb52
      refine q_unp w80 (ev_T2 (ea_cons (ev_ixC (n := 0) (ev_varR rfl) (ev_get (ev_var rfl (((rOpt rInt)).mono x80 h77)) e82) rfl e84) (ea_cons (ev_ixC (n := 0) (ev_varR rfl) (ev_varI rfl h62) rfl e86) ea_nil))) fun v88 B87 H87 x87 (w87 : Own K B87 M [⟨p47, (cLst (rLst (rT2 rInt rInt))), s50⟩] H87) h89 => ?_
      refine g_T2 h89 w87 fun v90 v91 h92 h93 => ?_
      refine g_cons ?_
      obtain ⟨t94, e95, hb52⟩ := bindS hb52
      refine g_setC (n := 0) (r := (rLst (rT2 rInt rInt))) w87 h92 rfl (ev_varI rfl h62) rfl e95 fun B96 H96 x96 (w96 : Own K B96 M [⟨p47, (cLst (rLst (rT2 rInt rInt))), (s50.set t94 (((t83, t85)).1))⟩] H96) => ?_
      refine g_cons ?_
      obtain ⟨t97, e98, hb52⟩ := bindS hb52
      obtain ⟨t99, e100, hb52⟩ := bindS hb52
      refine g_setC (n := 0) (r := (rLst (rT2 rInt rInt))) w96 (((rLst (rT2 rInt rInt))).mono x96 h93) rfl (ev_get (ev_var rfl (((rOpt rInt)).mono ((x80.trans x87).trans x96) h77)) e98) rfl e100 fun B101 H101 x101 (w101 : Own K B101 M [⟨p47, (cLst (rLst (rT2 rInt rInt))), (((s50.set t94 (((t83, t85)).1))).set t99 (((t83, t85)).2))⟩] H101) => ?_
      refine g_nil ?_
      obtain ⟨t102, e103, hb52⟩ := bindS hb52
      obtain ⟨t104, e105, hb52⟩ := bindS hb52
      refine q_asg (n := 5) w101 (ev_ix (ev_seqL (ev_ixC (n := 0) (ev_varR rfl) (ev_varI rfl h62) rfl e103)) (ev_varI rfl h62) e105) fun v107 B106 H106 x106 (w106 : Own K B106 M [⟨p47, (cLst (rLst (rT2 rInt rInt))), (((s50.set t94 (((t83, t85)).1))).set t99 (((t83, t85)).2))⟩] H106) h108 => ?_
      obtain ⟨t109, e110, hb52⟩ := bindS hb52
      obtain ⟨t137, e138, hb52⟩ := bindS hb52
      obtain ⟨t139, e140, hb52⟩ := bindS hb52
      obtain ⟨t141, e142, hb52⟩ := bindS hb52
      refine q_setC (n := 0) w106 (ev_frz (el_lc (S := Unit) (ys := t139.1) (s1 := t139.2) (s0 := ()) (σ' := [some u0, some u1, some (.ref p47), some v61, some v76, some v107, o72, none, none]) (rT2 rInt rInt) (ei_lst (ev_ixC (n := 0) (ev_varR rfl) (ev_varI rfl h62) rfl e110)) _ (fun (s111 : Unit) => [⟨p47, (cLst (rLst (rT2 rInt rInt))), (((s50.set t94 (((t83, t85)).1))).set t99 (((t83, t85)).2))⟩]) rfl e140 e138 rfl (by rintro s111 x118 o123 s124 v116 D121 a122 B112 H113 hb120 x114 w115 h117 PY125 PN126 qY127 qN128; replace w115 : Own K B112 M [⟨D121, (cLst (rT2 rInt rInt)), a122⟩, ⟨p47, (cLst (rLst (rT2 rInt rInt))), (((s50.set t94 (((t83, t85)).1))).set t99 (((t83, t85)).2))⟩] H113 := w115; refine g_name ?_; refine ⟨rfl, ?_⟩; obtain ⟨t135, e136, hb120⟩ := bindS hb120; obtain ⟨rfl, rfl⟩ := Prod.mk.inj (Option.some.inj hb120); refine lc_yes ?_; exact (ev_call (ea_cons (ev_var rfl h117) (ea_cons (ev_var rfl (((rT2 rInt rInt)).mono x114 h108)) ea_nil)) ⟨_, _, _, rfl, rfl, e136, rfl, rfl⟩) B112 H113 (Ex.refl _) w115 _ fun v129 B130 H131 x132 w133 h134 => qY127 v129 B130 H131 _ rfl x132 w133 h134))) rfl (ev_varI rfl h62) rfl e142 fun B143 H143 x143 (w143 : Own K B143 M [⟨p47, (cLst (rLst (rT2 rInt rInt))), (((((s50.set t94 (((t83, t85)).1))).set t99 (((t83, t85)).2))).set t141 t139.1)⟩] H143) => ?_
      obtain ⟨t144, e145, hb52⟩ := bindS hb52
      obtain ⟨s182, e150, hb52⟩ := bindS hb52
      refine q_fold w143 (ei_rng1 (ea_cons (ev_lenC (n := 0) (ev_varR rfl) rfl) ea_nil) e145) _ (fun s146 B151 σ164 => ∃ o165, σ164 = [some u0, some u1, some (.ref p47), some v61, some v76, some v107, o165, none, none]) (fun s146 => [⟨p47, (cLst (rLst (rT2 rInt rInt))), s146⟩]) ((((((s50.set t94 (((t83, t85)).1))).set t99 (((t83, t85)).2))).set t141 t139.1)) e150 (fun B9 x9 => ⟨_, rfl⟩) rfl ?_ ?_
      · skip
        rintro s146 x147 s189 v157 B151 B152 H153 σ164 hb148 x154 ⟨o165, rfl⟩ x155 w156 h158 N159 K160 hN161
        replace w156 : Own K B152 M [⟨p47, (cLst (rLst (rT2 rInt rInt))), s146⟩] H153 := w156
        refine g_name ?_
        obtain ⟨s167, e168, hb148⟩ := bindS hb148
        refine q_cut (fun σ181 H180 => ∃ B180, Ex B152 B180 ∧ Own K B180 M [⟨p47, (cLst (rLst (rT2 rInt rInt))), s167⟩] H180 ∧ σ181 = [some u0, some u1, some (.ref p47), some v61, some v76, some v107, some v157, none, none]) ?_ ?_
        · skip
          refine q_ifc w156 (et_test (ev_neI (ev_varI rfl h158) (ev_varI rfl h62))) (fun hb166 B169 H169 x169 (w169 : Own K B169 M [⟨p47, (cLst (rLst (rT2 rInt rInt))), s146⟩] H169) => ?_) (fun hb166 B179 H179 x179 (w179 : Own K B179 M [⟨p47, (cLst (rLst (rT2 rInt rInt))), s146⟩] H179) => ?_)
          · skip
            rw [if_pos hb166] at e168
            obtain ⟨t170, e171, e168⟩ := bindS e168
            obtain ⟨t172, e173, e168⟩ := bindS e168
            obtain ⟨t174, e175, e168⟩ := bindS e168
            obtain ⟨t176, e177, e168⟩ := bindS e168
            refine q_setC (n := 0) w169 (ev_call (ea_cons (ev_ixC (n := 0) (ev_varR rfl) (ev_varI rfl h158) rfl e171) (ea_cons (ev_ixC (n := 0) (ev_varR rfl) (ev_varI rfl h62) rfl e173) (ea_cons (ev_varI rfl h62) ea_nil))) ⟨_, _, _, _, rfl, rfl, e175, rfl, rfl⟩) rfl (ev_varI rfl h158) rfl e177 fun B178 H178 x178 (w178 : Own K B178 M [⟨p47, (cLst (rLst (rT2 rInt rInt))), (s146.set t176 t174)⟩] H178) => ?_
            replace e168 : some _ = some _ := e168
            cases e168
            exact ⟨_, (x169.trans x178), w178, rfl⟩
          rw [if_neg (by rw [hb166]; exact Bool.false_ne_true)] at e168
          replace e168 : some _ = some _ := e168
          cases e168
          exact ⟨_, x179, w179, rfl⟩
        rintro σ181' H180 ⟨B180, x180, w180, rfl⟩
        replace hb148 : some _ = some _ := hb148
        cases hb148
        exact hN161 _ _ _ x180 w180 ⟨_, rfl⟩
      rintro B183 H184 σ187 x185 w186 ⟨o188, rfl⟩
      replace w186 : Own K B183 M [⟨p47, (cLst (rLst (rT2 rInt rInt))), s182⟩] H184 := w186
      replace hb52 : some _ = some _ := hb52
      cases hb52
      exact hN65 _ _ _ _ rfl (((((((x75.trans x80).trans x87).trans x96).trans x101).trans x106).trans x143).trans x185) w186 ⟨_, _, _, _, rfl⟩
    rintro s190 B191 H192 σ195 rfl x193 w194 ⟨o196, o197, o198, o199, rfl⟩
    dsimp only at hm
    replace w194 : Own K B191 M [⟨p47, (cLst (rLst (rT2 rInt rInt))), s190⟩] H192 := w194
    obtain ⟨B200, x201, w202, h203⟩ := frz_step (n := 0) w194 rfl
    replace w202 : Own K B200 M [] H192 := w202
    obtain ⟨t230, e231, hm⟩ := bindS hm
    obtain ⟨t232, e233, hm⟩ := bindS hm
    replace hm : some _ = some _ := hm
    obtain rfl := Option.some.inj hm
    exact q_ret w202 (ev_sm (ev_frz (el_lc (S := Unit) (ys := t232.1) (s1 := t232.2) (s0 := ()) (σ' := [some u0, some u1, some (.ref p47), o196, o197, o198, o199, none, none]) (rT2 rInt rInt) (ei_lst (ev_var rfl h203)) _ (fun (s204 : Unit) => []) rfl e233 e231 rfl (by rintro s204 x211 o216 s217 v209 D214 a215 B205 H206 hb213 x207 w208 h210 PY218 PN219 qY220 qN221; replace w208 : Own K B205 M [⟨D214, (cLst (rT2 rInt rInt)), a215⟩] H206 := w208; refine g_name ?_; refine ⟨rfl, ?_⟩; obtain ⟨t228, e229, hb213⟩ := bindS hb213; obtain ⟨rfl, rfl⟩ := Prod.mk.inj (Option.some.inj hb213); refine lc_yes ?_; exact (ev_ix (ev_seqL (ev_var rfl h210)) (ev_neg (ev_int (i := 1))) e229) B205 H206 (Ex.refl _) w208 _ fun v222 B223 H224 x225 w226 h227 => qY220 v222 B223 H224 _ rfl x225 w226 h227)))) fun v9 B9 H9 x9 w9 h9 => k _ _ _ (((x46.trans x193).trans x201).trans x9) w9 h9
noncomputable def m_plus (a0 : (Int × Int)) (a1 : (Int × Int)) : Option (Int × Int) :=
  Option.bind (mulI a0.1 a1.2) fun t10 =>
  Option.bind (mulI a1.1 a0.2) fun t12 =>
  Option.bind (mulI a0.2 a1.2) fun t14 =>
  Option.bind (m_ratio ((t10 + t12)) t14) fun t16 =>
  some t16
def C_plus : List Arg → List Cell → Arg → List Cell → Prop := fun as L r L' => ∃ a0 a1 c, as = [⟨(rT2 rInt rInt), a0⟩, ⟨(rT2 rInt rInt), a1⟩] ∧ L = [] ∧ m_plus a0 a1 = some c ∧ r = ⟨(rT2 rInt rInt), c⟩ ∧ L' = []
theorem sc_plus : FnScope ["a", "b"] ["a", "b"] (defScope s_plus) := ⟨rfl, rfl, rfl, by decide +kernel, rfl, by decide +kernel, by decide +kernel⟩
set_option maxHeartbeats 0 in
theorem ok_plus (F : FunC K "plus" s_plus f fd cc) (c_ratio : Cl P w K mg base 1 "ratio" (spV K T C_ratio) []) : FnOk P w K mg base CX0 2 f fd ["a", "b"] (spV K T C_plus) := by
  refine F.ok sc_plus (fun vs H Q E h => ?_) (fun A outer s H vs Q E hr h => ?_)
  · obtain ⟨B, M, L, as, r, L', hT, w, ha, ⟨_, _, _, rfl, _⟩, k⟩ := h
    exact args_len ha
  · skip
    obtain ⟨B, M, L, as, r, L', rfl, w, ha, ⟨a0, a1, c, rfl, rfl, hm, rfl, rfl⟩, k⟩ := h
    obtain ⟨u0, u1, rfl, f0, f1⟩ := args2 ha
    replace f0 : ((rT2 rInt rInt)).is K B u0 a0 := f0
    replace f1 : ((rT2 rInt rInt)).is K B u1 a1 := f1
    unfold m_plus at hm
    refine ⟨_, (pss_cons (ps_ret (pe_c c_ratio hr (by omega) rfl (pa_cons (pe_op op_add (pe_op op_mulX (pe_ix ix_seq (pv 0) pe_int (fun _ _ => rfl)) (pe_ix ix_seq (pv 1) pe_int (fun _ _ => rfl))) (pe_op op_mulX (pe_ix ix_seq (pv 1) pe_int (fun _ _ => rfl)) (pe_ix ix_seq (pv 0) pe_int (fun _ _ => rfl)))) (pa_cons (pe_op op_mulX (pe_ix ix_seq (pv 0) pe_int (fun _ _ => rfl)) (pe_ix ix_seq (pv 1) pe_int (fun _ _ => rfl))) pa_nil)))) pss_nil), ?_⟩
    rw [show start ["a", "b"] [u0, u1] = ([some u0, some u1] : L2.St) from rfl]
    obtain ⟨t10, e11, hm⟩ := bindS hm
    obtain ⟨t12, e13, hm⟩ := bindS hm
    obtain ⟨t14, e15, hm⟩ := bindS hm
    obtain ⟨t16, e17, hm⟩ := bindS hm
    replace hm : some _ = some _ := hm
    obtain rfl := Option.some.inj hm
    exact q_ret w (ev_call (ea_cons (ev_add (ev_mul (ev_fst (ev_var rfl f0)) (ev_snd (ev_var rfl f1)) e11) (ev_mul (ev_fst (ev_var rfl f1)) (ev_snd (ev_var rfl f0)) e13)) (ea_cons (ev_mul (ev_snd (ev_var rfl f0)) (ev_snd (ev_var rfl f1)) e15) ea_nil)) ⟨_, _, _, rfl, rfl, e17, rfl, rfl⟩) fun v9 B9 H9 x9 w9 h9 => k _ _ _ ((Ex.refl _).trans x9) w9 h9
noncomputable def m_total_weight (a0 : (List (Int × Int))) : Option Int :=
  Option.bind (sumM (fun (x18 : (Int × Int)) => ( some x18.2)) a0) fun t28 =>
  some t28
def C_total_weight : List Arg → List Cell → Arg → List Cell → Prop := fun as L r L' => ∃ a0 c, as = [⟨(rTup (rT2 rInt rInt)), a0⟩] ∧ L = [] ∧ m_total_weight a0 = some c ∧ r = ⟨rInt, c⟩ ∧ L' = []
theorem sc_total_weight : FnScope ["ends"] ["ends"] (defScope s_total_weight) := ⟨rfl, rfl, rfl, by decide +kernel, rfl, by decide +kernel, by decide +kernel⟩
set_option maxHeartbeats 0 in
theorem ok_total_weight (F : FunC K "total_weight" s_total_weight f fd cc) (z_sum : mg "sum" = none) (tb : ∃ P0, GxR.TabB base mg cc P0 ∧ P0 ∈ T) : FnOk P w K mg base CX0 2 f fd ["ends"] (spV K T C_total_weight) := by
  obtain ⟨P0, tb, hP0⟩ := tb
  refine F.ok sc_total_weight (fun vs H Q E h => ?_) (fun A outer s H vs Q E hr h => ?_)
  · obtain ⟨B, M, L, as, r, L', hT, w, ha, ⟨_, _, rfl, _⟩, k⟩ := h
    exact args_len ha
  · skip
    obtain ⟨B, M, L, as, r, L', rfl, w, ha, ⟨a0, c, rfl, rfl, hm, rfl, rfl⟩, k⟩ := h
    obtain ⟨u0, rfl, f0⟩ := args1 ha
    replace f0 : ((rTup (rT2 rInt rInt))).is K B u0 a0 := f0
    unfold m_total_weight at hm
    refine ⟨_, (pss_cons (ps_ret (L3G.pe_sumG (NG := ["_", "weight"]) (js := [none, none]) (Room.mono hr (j := 1) (by omega)) rfl z_sum bt_sum tb rfl (L3G.gs_by (sc := defScope s_total_weight) (by decide +kernel)) (pi_tup (pv 0)) (show L3G.capB ["ends"] ["_", "weight"] _ _ = true by decide +kernel) (fun _ => (pg_tup rfl (pgs_cons (pg_name (i := 0) (show List.Nodup (["_", "weight"] : List Str) by decide +kernel) rfl (by first | exact Or.inl rfl | exact Or.inr rfl)) (pgs_cons (pg_name (i := 1) (show List.Nodup (["_", "weight"] : List Str) by decide +kernel) rfl (by first | exact Or.inl rfl | exact Or.inr rfl)) pgs_nil)))) (fun _ hr => (pv 1)) (fun _ => rfl))) pss_nil), ?_⟩
    rw [show start ["ends"] [u0] = ([some u0] : L2.St) from rfl]
    obtain ⟨t28, e29, hm⟩ := bindS hm
    replace hm : some _ = some _ := hm
    obtain rfl := Option.some.inj hm
    exact q_ret w (ev_sumG hP0 (ei_tup (ev_var rfl f0)) _ (fun σ23 => ∃ o10 o11, σ23 = [o10, o11]) ⟨none, none, rfl⟩ e29 (by rintro _ x18 c19 v16 B12 H13 σ23 hb20 x14 ⟨o10, o11, rfl⟩ w15 h17 Q21 q22; replace w15 : Own K B12 M [] H13 := w15; refine g_T2 h17 w15 fun v24 v25 h26 h27 => ?_; refine g_cons ?_; refine g_name ?_; refine g_cons ?_; refine g_name ?_; refine g_nil ?_; obtain rfl := Option.some.inj hb20; exact (ev_varI rfl h27) B12 H13 (Ex.refl _) w15 _ fun v30 B31 H32 x33 w34 h35 => by rw [show v30 = V.int _ from h35]; exact q22 _ B31 H32 ⟨_, _, rfl⟩ x33 w34)) fun v9 B9 H9 x9 w9 h9 => k _ _ _ ((Ex.refl _).trans x9) w9 h9
noncomputable def m_restricted (a0 : (List (List (Int × (List (Int × Int)))))) (a1 : (List Int)) : Option (List (List (Int × (List (Int × Int))))) :=
  Option.bind (room ((enumI 0 a1)).length) fun t42 =>
  Option.bind (compM (S := Unit) (β := (List (Int × (List (Int × Int))))) (fun (s10 : Unit) (x17 : (Int × Int)) => (Option.bind (ixL a0 x17.1) fun t38 => Option.bind (ixL t38 x17.2) fun t40 => some (some ([t40]), ()))) (()) ((enumI 0 a1))) fun t44 =>
  some t44.1
def C_restricted : List Arg → List Cell → Arg → List Cell → Prop := fun as L r L' => ∃ a0 a1 c, as = [⟨(rTup (rTup (rT2 rInt (rTup (rT2 rInt rInt))))), a0⟩, ⟨(rTup rInt), a1⟩] ∧ L = [] ∧ m_restricted a0 a1 = some c ∧ r = ⟨(rTup (rTup (rT2 rInt (rTup (rT2 rInt rInt))))), c⟩ ∧ L' = []
theorem sc_restricted : FnScope ["system", "policy", "state", "choice"] ["system", "policy"] (defScope s_restricted) := ⟨rfl, rfl, rfl, by decide +kernel, rfl, by decide +kernel, by decide +kernel⟩
set_option maxHeartbeats 0 in
theorem ok_restricted (F : FunC K "restricted" s_restricted f fd cc) (z_enumerate : mg "enumerate" = none) (z_tuple : mg "tuple" = none) : FnOk P w K mg base CX0 1 f fd ["system", "policy"] (spV K T C_restricted) := by
  refine F.ok sc_restricted (fun vs H Q E h => ?_) (fun A outer s H vs Q E hr h => ?_)
  · obtain ⟨B, M, L, as, r, L', hT, w, ha, ⟨_, _, _, rfl, _⟩, k⟩ := h
    exact args_len ha
  · skip
    obtain ⟨B, M, L, as, r, L', rfl, w, ha, ⟨a0, a1, c, rfl, rfl, hm, rfl, rfl⟩, k⟩ := h
    obtain ⟨u0, u1, rfl, f0, f1⟩ := args2 ha
    replace f0 : ((rTup (rTup (rT2 rInt (rTup (rT2 rInt rInt)))))).is K B u0 a0 := f0
    replace f1 : ((rTup rInt)).is K B u1 a1 := f1
    unfold m_restricted at hm
    refine ⟨_, (pss_cons (ps_ret (pe_callTy call_tuple_of rfl z_tuple bt_tuple (pa_cons (pe_lc rfl sc_restricted.nd (L3G.pi_enumT rfl z_enumerate (pa_cons (pv 1) pa_nil)) (blkOk_by (own := [("state", 2), ("choice", 3)]) (show blkC ["system", "policy", "state", "choice"] (defScope s_restricted) _ _ = true by decide +kernel)) (fun _ _ _ _ _ => (show PG _ _ (gTup K 2 (gCons (gName 2) (gCons (gName 3) gNil))) from (pg_tup rfl (pgs_cons (pg_name (i := 2) sc_restricted.nd rfl (by first | exact Or.inl rfl | exact Or.inr rfl)) (pgs_cons (pg_name (i := 3) sc_restricted.nd rfl (by first | exact Or.inl rfl | exact Or.inr rfl)) pgs_nil))))) (fun _ _ _ _ _ => pts_nil) (fun _ _ _ _ _ => (pe_tup (pa_cons (pe_ix (show IxR _ (rIx K) from ix_seq) (pe_ix (show IxR _ (rIx K) from ix_seq) (pv 0) (pv 2) (fun _ _ => rfl)) (pv 3) (fun _ _ => rfl)) pa_nil)))) pa_nil))) pss_nil), ?_⟩
    rw [show start ["system", "policy", "state", "choice"] [u0, u1] = ([some u0, some u1, none, none] : L2.St) from rfl]
    obtain ⟨t42, e43, hm⟩ := bindS hm
    obtain ⟨t44, e45, hm⟩ := bindS hm
    replace hm : some _ = some _ := hm
    obtain rfl := Option.some.inj hm
    exact q_ret w (ev_tupOfL (ev_frz (el_lc (S := Unit) (ys := t44.1) (s1 := t44.2) (s0 := ()) (σ' := [some u0, some u1, none, none]) (rTup (rT2 rInt (rTup (rT2 rInt rInt)))) (ei_enumT (ev_var rfl f1)) _ (fun (s10 : Unit) => []) rfl e45 e43 rfl (by rintro s10 x17 o22 s23 v15 D20 a21 B11 H12 hb19 x13 w14 h16 PY24 PN25 qY26 qN27; replace w14 : Own K B11 M [⟨D20, (cLst (rTup (rT2 rInt (rTup (rT2 rInt rInt))))), a21⟩] H12 := w14; refine g_T2 h16 w14 fun v28 v29 h30 h31 => ?_; refine g_cons ?_; refine g_name ?_; refine g_cons ?_; refine g_name ?_; refine g_nil ?_; refine ⟨rfl, ?_⟩; obtain ⟨t38, e39, hb19⟩ := bindS hb19; obtain ⟨t40, e41, hb19⟩ := bindS hb19; obtain ⟨rfl, rfl⟩ := Prod.mk.inj (Option.some.inj hb19); refine lc_yes ?_; exact (ev_tup (r := (rT2 rInt (rTup (rT2 rInt rInt)))) [t40] (ea_cons (ev_ix (ev_seqT (ev_ix (ev_seqT (ev_var rfl (((rTup (rTup (rT2 rInt (rTup (rT2 rInt rInt)))))).mono x13 f0))) (ev_varI rfl h30) e39)) (ev_varI rfl h31) e41) ea_nil)) B11 H12 (Ex.refl _) w14 _ fun v32 B33 H34 x35 w36 h37 => qY26 v32 B33 H34 _ rfl x35 w36 h37)))) fun v9 B9 H9 x9 w9 h9 => k _ _ _ ((Ex.refl _).trans x9) w9 h9
noncomputable def m_equations (a0 : (List (List (Int × (List (Int × Int)))))) (a1 : (List Int)) (a2 : (List (Int × Int))) (a3 : (List (Int × Int))) : Option ((List (List (Int × Int))) × (List (Int × Int))) :=
  Option.bind (room ((enumI 0 a1)).length) fun t40 =>
  Option.bind (dcM (fun (x16 : (Int × Int)) => ( some (x16.2, x16.1))) [] ((enumI 0 a1))) fun t42 =>
  Option.bind (foldO (S := ((List (Int × Int)) × (List (List (Int × Int))))) (α := Int) (fun (s50 : ((List (Int × Int)) × (List (List (Int × Int))))) (x51 : Int) => (
    Option.bind (ixL a0 x51) fun t77 =>
    Option.bind (ixL t77 ((0 : Int))) fun t79 =>
    Option.bind (m_total_weight t79.2) fun t84 =>
    Option.bind (repL ([((0 : Int), (1 : Int))]) ((a1.length : Int))) fun t90 =>
    Option.bind (getI t42 x51) fun t94 =>
    Option.bind (ixO t90.length t94) fun t96 =>
    Option.bind (ixL a3 x51) fun t99 =>
    Option.bind (foldO (S := ((Int × Int) × (List (Int × Int)))) (α := (Int × Int)) (fun (s104 : ((Int × Int) × (List (Int × Int)))) (x105 : (Int × Int)) => (
      Option.bind (m_ratio x105.2 t84) fun t132 =>
      Option.bind (if ((getI t42 x105.1).isSome) = true then
        Option.bind (getI t42 x105.1) fun t141 =>
        Option.bind (ixL s104.2 t141) fun t143 =>
        Option.bind (m_minus t143 t132) fun t145 =>
        Option.bind (getI t42 x105.1) fun t147 =>
        Option.bind (ixO s104.2.length t147) fun t149 =>
        some ((s104.1, (s104.2.set t149 t145)))
      else
        Option.bind (ixL a2 x105.1) fun t153 =>
        Option.bind (m_times t132 t153) fun t155 =>
        Option.bind (m_plus s104.1 t155) fun t157 =>
        some ((t157, s104.2))
      ) fun (s138 : ((Int × Int) × (List (Int × Int)))) =>
      some ((s138.1, s138.2))
    )) ((t99, (t90.set t96 (((1 : Int), (1 : Int)))))) t79.2) fun s166 =>
    Option.bind (room s50.2.length) fun t177 =>
    Option.bind (room s50.1.length) fun t180 =>
    some (((s50.1 ++ [s166.1]), (s50.2 ++ [s166.2])))
  )) ((([] : List (Int × Int)), ([] : List (List (Int × Int))))) a1) fun s184 =>
  some (s184.2, s184.1)
def C_equations : List Arg → List Cell → Arg → List Cell → Prop := fun as L r L' => ∃ a0 a1 a2 a3 c, as = [⟨(rTup (rTup (rT2 rInt (rTup (rT2 rInt rInt))))), a0⟩, ⟨(rLst rInt), a1⟩, ⟨(rLst (rT2 rInt rInt)), a2⟩, ⟨(rLst (rT2 rInt rInt)), a3⟩] ∧ L = [] ∧ m_equations a0 a1 a2 a3 = some c ∧ r = ⟨(rT2 (rLst (rLst (rT2 rInt rInt))) (rLst (rT2 rInt rInt))), c⟩ ∧ L' = []
theorem sc_equations : FnScope ["chain", "unknown", "known", "extra", "places", "rows", "right", "state", "ends", "total", "row", "side", "goal", "weight", "chance", "place"] ["chain", "unknown", "known", "extra"] (defScope s_equations) := ⟨rfl, rfl, rfl, by decide +kernel, rfl, by decide +kernel, by decide +kernel⟩
set_option maxHeartbeats 0 in
theorem ok_equations (F : FunC K "equations" s_equations f fd cc) (c_total_weight : Cl P w K mg base 2 "total_weight" (spV K T C_total_weight) []) (c_ratio : Cl P w K mg base 1 "ratio" (spV K T C_ratio) []) (c_minus : Cl P w K mg base 2 "minus" (spV K T C_minus) []) (c_plus : Cl P w K mg base 2 "plus" (spV K T C_plus) []) (c_times : Cl P w K mg base 2 "times" (spV K T C_times) []) (g_ZERO : GV K mg "ZERO" (rT2 rInt rInt) (((0 : Int), (1 : Int)))) (g_ONE : GV K mg "ONE" (rT2 rInt rInt) (((1 : Int), (1 : Int)))) (z_enumerate : mg "enumerate" = none) (z_len : mg "len" = none) : FnOk P w K mg base CX0 3 f fd ["chain", "unknown", "known", "extra"] (spV K T C_equations) := by
  obtain ⟨u_ZERO, v_ZERO, m_ZERO, rv_ZERO, i_ZERO⟩ := g_ZERO
  obtain ⟨u_ONE, v_ONE, m_ONE, rv_ONE, i_ONE⟩ := g_ONE
  refine F.ok sc_equations (fun vs H Q E h => ?_) (fun A outer s H vs Q E hr h => ?_)
  · obtain ⟨B, M, L, as, r, L', hT, w, ha, ⟨_, _, _, _, _, rfl, _⟩, k⟩ := h
    exact args_len ha
  · skip
    obtain ⟨B, M, L, as, r, L', rfl, w, ha, ⟨a0, a1, a2, a3, c, rfl, rfl, hm, rfl, rfl⟩, k⟩ := h
    obtain ⟨u0, u1, u2, u3, rfl, f0, f1, f2, f3⟩ := args4 ha
    replace f0 : ((rTup (rTup (rT2 rInt (rTup (rT2 rInt rInt)))))).is K B u0 a0 := f0
    replace f1 : ((rLst rInt)).is K B u1 a1 := f1
    replace f2 : ((rLst (rT2 rInt rInt))).is K B u2 a2 := f2
    replace f3 : ((rLst (rT2 rInt rInt))).is K B u3 a3 := f3
    unfold m_equations at hm
    refine ⟨_, (pss_cons (L3G.ps_setDc (i := 4) rfl sc_equations.nd rfl rfl rfl (pi_enum rfl z_enumerate (pa_cons (pv 1) pa_nil)) (blkOk_by (own := [("place", 15), ("state", 7)]) (show blkC ["chain", "unknown", "known", "extra", "places", "rows", "right", "state", "ends", "total", "row", "side", "goal", "weight", "chance", "place"] (defScope s_equations) _ _ = true by decide +kernel)) (fun _ _ _ _ _ => (show PG _ _ (gTup K 2 (gCons (gName 15) (gCons (gName 7) gNil))) from (pg_tup rfl (pgs_cons (pg_name (i := 15) sc_equations.nd rfl (by first | exact Or.inl rfl | exact Or.inr rfl)) (pgs_cons (pg_name (i := 7) sc_equations.nd rfl (by first | exact Or.inl rfl | exact Or.inr rfl)) pgs_nil))))) (fun _ _ _ _ _ => pts_nil) (fun _ _ _ _ _ => (pv 7)) (fun _ _ _ _ _ => (pv 15))) (pss_cons (ps_set (i := 5) sc_equations.nd rfl (by first | exact Or.inl rfl | exact Or.inr rfl) (pe_lst pa_nil)) (pss_cons (ps_set (i := 6) sc_equations.nd rfl (by first | exact Or.inl rfl | exact Or.inr rfl) (pe_lst pa_nil)) (pss_cons (ps_for PassesOwn.never rfl (pi_list (pv 1)) (pg_name (i := 7) sc_equations.nd rfl (by first | exact Or.inl rfl | exact Or.inr rfl)) (pss_cons (ps_set (i := 8) sc_equations.nd rfl (by first | exact Or.inl rfl | exact Or.inr rfl) (pe_ix ix_seq (pe_ix ix_seq (pe_ix ix_seq (pv 0) (pv 7) (fun _ _ => rfl)) pe_int (fun _ _ => rfl)) pe_int (fun _ _ => rfl))) (pss_cons (ps_set (i := 9) sc_equations.nd rfl (by first | exact Or.inl rfl | exact Or.inr rfl) (pe_c c_total_weight hr (by omega) rfl (pa_cons (pv 8) pa_nil))) (pss_cons (ps_set (i := 10) sc_equations.nd rfl (by first | exact Or.inl rfl | exact Or.inr rfl) (pe_op op_rep (pe_lst (pa_cons (pe_glob rfl m_ZERO rv_ZERO) pa_nil)) (pe_callB call_len_seq rfl z_len bt_len (pa_cons (pv 1) pa_nil)))) (pss_cons (ps_asg (pe_glob rfl m_ONE rv_ONE) (pg_sub (pv 10) (pe_dget (by have := room_hu hr; exact Nat.lt_of_le_of_lt (Nat.add_le_add_left (by decide) _) this) (pv 4) (pv 7) (fun _ _ => rfl)) set_list)) (pss_cons (ps_set (i := 11) sc_equations.nd rfl (by first | exact Or.inl rfl | exact Or.inr rfl) (pe_ix ix_seq (pv 3) (pv 7) (fun _ _ => rfl))) (pss_cons (ps_for PassesOwn.never rfl (pi_tup (pv 8)) (pg_tup rfl (pgs_cons (pg_name (i := 12) sc_equations.nd rfl (by first | exact Or.inl rfl | exact Or.inr rfl)) (pgs_cons (pg_name (i := 13) sc_equations.nd rfl (by first | exact Or.inl rfl | exact Or.inr rfl)) pgs_nil))) (pss_cons (ps_set (i := 14) sc_equations.nd rfl (by first | exact Or.inl rfl | exact Or.inr rfl) (pe_c c_ratio hr (by omega) rfl (pa_cons (pv 13) (pa_cons (pv 9) pa_nil)))) (Evl.pss_cut (ps_if (pt_cmp (pc_din (by have := room_hu hr; exact Nat.lt_of_le_of_lt (Nat.add_le_add_left (by decide) _) this) (pv 12) (pv 4))) (pss_cons (ps_asg (pe_c c_minus hr (by omega) rfl (pa_cons (pe_ix ix_seq (pv 10) (pe_dget (by have := room_hu hr; exact Nat.lt_of_le_of_lt (Nat.add_le_add_left (by decide) _) this) (pv 4) (pv 12) (fun _ _ => rfl)) (fun _ _ => rfl)) (pa_cons (pv 14) pa_nil))) (pg_sub (pv 10) (pe_dget (by have := room_hu hr; exact Nat.lt_of_le_of_lt (Nat.add_le_add_left (by decide) _) this) (pv 4) (pv 12) (fun _ _ => rfl)) set_list)) pss_nil) (pss_cons (ps_set (i := 11) sc_equations.nd rfl (by first | exact Or.inl rfl | exact Or.inr rfl) (pe_c c_plus hr (by omega) rfl (pa_cons (pv 11) (pa_cons (pe_c c_times hr (by omega) rfl (pa_cons (pv 14) (pa_cons (pe_ix ix_seq (pv 2) (pv 12) (fun _ _ => rfl)) pa_nil))) pa_nil)))) pss_nil)) pss_nil))) (pss_cons (ps_expr (pe_bm PySem.F.plainAttrs_list PySem.F.slot_list_append PySem.F.type_list_append mt_append (pv 5) (pa_cons (pv 10) pa_nil))) (pss_cons (ps_expr (pe_bm PySem.F.plainAttrs_list PySem.F.slot_list_append PySem.F.type_list_append mt_append (pv 6) (pa_cons (pv 11) pa_nil))) pss_nil))))))))) (pss_cons (ps_ret (pe_tup (pa_cons (pv 5) (pa_cons (pv 6) pa_nil)))) pss_nil))))), ?_⟩
    rw [show start ["chain", "unknown", "known", "extra", "places", "rows", "right", "state", "ends", "total", "row", "side", "goal", "weight", "chance", "place"] [u0, u1, u2, u3] = ([some u0, some u1, some u2, some u3, none, none, none, none, none, none, none, none, none, none, none, none] : L2.St) from rfl]
    obtain ⟨t40, e41, hm⟩ := bindS hm
    obtain ⟨t42, e43, hm⟩ := bindS hm
    refine q_asgC (n := 4) w (ec_dc (kvs := t42) (σ' := [some u0, some u1, some u2, some u3, none, none, none, none, none, none, none, none, none, none, none, none]) (ei_enumL (ev_var rfl f1)) (fun (x16 : (Int × Int)) => ( some (x16.2, x16.1))) e43 e41 rfl (by rintro x16 o20 v14 D18 a19 B10 H11 hb17 x12 w13 h15 PY21 PN22 qY23; replace w13 : Own K B10 M [⟨D18, cDk, a19⟩] H11 := w13; refine g_T2 h15 w13 fun v24 v25 h26 h27 => ?_; refine g_cons ?_; refine g_name ?_; refine g_cons ?_; refine g_name ?_; refine g_nil ?_; refine ⟨rfl, ?_⟩; obtain rfl := Option.some.inj hb17; refine dc_yes ?_; exact (ev_varI rfl h27) B10 H11 (Ex.refl _) w13 _ fun v28 B29 H30 x31 w32 h33 => (ev_varI rfl h26) B29 H30 x31 w32 _ fun v34 B35 H36 x37 w38 h39 => qY23 v28 v34 B35 H36 (x31.trans x37) w38 h33 h39)) fun p45 B44 H44 x44 (w44 : Own K B44 M [⟨p45, cDk, t42⟩] H44) => ?_
    refine q_asgL (n := 5) w44 (el_lst (r := (rLst (rT2 rInt rInt))) ([] : List (List (Int × Int))) ea_nil) fun p47 B46 H46 x46 (w46 : Own K B46 M [⟨p47, (cLst (rLst (rT2 rInt rInt))), ([] : List (List (Int × Int)))⟩, ⟨p45, cDk, t42⟩] H46) => ?_
    refine q_asgL (n := 6) w46 (el_lst (r := (rT2 rInt rInt)) ([] : List (Int × Int)) ea_nil) fun p49 B48 H48 x48 (w48 : Own K B48 M [⟨p49, (cLst (rT2 rInt rInt)), ([] : List (Int × Int))⟩, ⟨p47, (cLst (rLst (rT2 rInt rInt))), ([] : List (List (Int × Int)))⟩, ⟨p45, cDk, t42⟩] H48) => ?_
    obtain ⟨s184, e54, hm⟩ := bindS hm
    refine q_fold w48 (ei_lst (ev_var rfl (((rLst rInt)).mono ((x44.trans x46).trans x48) f1))) _ (fun s50 B55 σ68 => ∃ o69 o70 o71 o72 o73 o74 o75 o76, σ68 = [some u0, some u1, some u2, some u3, some (.ref p45), some (.ref p47), some (.ref p49), o69, o70, o71, o72, o73, o74, o75, o76, none]) (fun s50 => [⟨p49, (cLst (rT2 rInt rInt)), s50.1⟩, ⟨p47, (cLst (rLst (rT2 rInt rInt))), s50.2⟩, ⟨p45, cDk, t42⟩]) ((([] : List (Int × Int)), ([] : List (List (Int × Int))))) e54 (fun B9 x9 => ⟨_, _, _, _, _, _, _, _, rfl⟩) rfl ?_ ?_
    · skip
      rintro s50 x51 s198 v61 B55 B56 H57 σ68 hb52 x58 ⟨o69, o70, o71, o72, o73, o74, o75, o76, rfl⟩ x59 w60 h62 N63 K64 hN65
      replace w60 : Own K B56 M [⟨p49, (cLst (rT2 rInt rInt)), s50.1⟩, ⟨p47, (cLst (rLst (rT2 rInt rInt))), s50.2⟩, ⟨p45, cDk, t42⟩] H57 := w60
      refine g_name ?_
      obtain ⟨t77, e78, hb52⟩ := bindS hb52
      obtain ⟨t79, e80, hb52⟩ := bindS hb52
      refine q_asg (n := 8) w60 (ev_snd (ev_ix (ev_seqT (ev_ix (ev_seqT (ev_var rfl (((rTup (rTup (rT2 rInt (rTup (rT2 rInt rInt)))))).mono ((((x44.trans x46).trans x48).trans x58).trans x59) f0))) (ev_varI rfl h62) e78)) (ev_int (i := 0)) e80)) fun v82 B81 H81 x81 (w81 : Own K B81 M [⟨p49, (cLst (rT2 rInt rInt)), s50.1⟩, ⟨p47, (cLst (rLst (rT2 rInt rInt))), s50.2⟩, ⟨p45, cDk, t42⟩] H81) h83 => ?_
      obtain ⟨t84, e85, hb52⟩ := bindS hb52
      refine q_asg (n := 9) w81 (ev_call (ea_cons (ev_var rfl h83) ea_nil) ⟨_, _, rfl, rfl, e85, rfl, rfl⟩) fun v87 B86 H86 x86 (w86 : Own K B86 M [⟨p49, (cLst (rT2 rInt rInt)), s50.1⟩, ⟨p47, (cLst (rLst (rT2 rInt rInt))), s50.2⟩, ⟨p45, cDk, t42⟩] H86) h88 => ?_
      obtain ⟨t90, e91, hb52⟩ := bindS hb52
      refine q_asgL (n := 10) w86 (el_rep (el_lst (r := (rT2 rInt rInt)) [((0 : Int), (1 : Int))] (ea_cons (ev_k i_ZERO) ea_nil)) (fun p89 => (ev_len (ev_seqL (ev_var rfl (((rLst rInt)).mono ((((((x44.trans x46).trans x48).trans x58).trans x59).trans x81).trans x86) f1))))) e91) fun p93 B92 H92 x92 (w92 : Own K B92 M [⟨p93, (cLst (rT2 rInt rInt)), t90⟩, ⟨p49, (cLst (rT2 rInt rInt)), s50.1⟩, ⟨p47, (cLst (rLst (rT2 rInt rInt))), s50.2⟩, ⟨p45, cDk, t42⟩] H92) => ?_
      obtain ⟨t94, e95, hb52⟩ := bindS hb52
      obtain ⟨t96, e97, hb52⟩ := bindS hb52
      refine q_setC (n := 0) w92 (ev_k i_ONE) rfl (ev_dGet (n := 3) (ev_varR rfl) (ev_varI rfl h62) rfl e95) rfl e97 fun B98 H98 x98 (w98 : Own K B98 M [⟨p93, (cLst (rT2 rInt rInt)), (t90.set t96 (((1 : Int), (1 : Int))))⟩, ⟨p49, (cLst (rT2 rInt rInt)), s50.1⟩, ⟨p47, (cLst (rLst (rT2 rInt rInt))), s50.2⟩, ⟨p45, cDk, t42⟩] H98) => ?_
      obtain ⟨t99, e100, hb52⟩ := bindS hb52
      refine q_asg (n := 11) w98 (ev_ix (ev_seqL (ev_var rfl (((rLst (rT2 rInt rInt))).mono ((((((((x44.trans x46).trans x48).trans x58).trans x59).trans x81).trans x86).trans x92).trans x98) f3))) (ev_varI rfl h62) e100) fun v102 B101 H101 x101 (w101 : Own K B101 M [⟨p93, (cLst (rT2 rInt rInt)), (t90.set t96 (((1 : Int), (1 : Int))))⟩, ⟨p49, (cLst (rT2 rInt rInt)), s50.1⟩, ⟨p47, (cLst (rLst (rT2 rInt rInt))), s50.2⟩, ⟨p45, cDk, t42⟩] H101) h103 => ?_
      obtain ⟨s166, e108, hb52⟩ := bindS hb52
      refine q_fold w101 (ei_tup (ev_var rfl (((rTup (rT2 rInt rInt))).mono (((x86.trans x92).trans x98).trans x101) h83))) _ (fun s104 B109 σ122 => ∃ v123 o125 o126 o127, σ122 = [some u0, some u1, some u2, some u3, some (.ref p45), some (.ref p47), some (.ref p49), some v61, some v82, some v87, some (.ref p93), some v123, o125, o126, o127, none] ∧ ((rT2 rInt rInt)).is K B109 v123 s104.1) (fun s104 => [⟨p93, (cLst (rT2 rInt rInt)), s104.2⟩, ⟨p49, (cLst (rT2 rInt rInt)), s50.1⟩, ⟨p47, (cLst (rLst (rT2 rInt rInt))), s50.2⟩, ⟨p45, cDk, t42⟩]) ((t99, (t90.set t96 (((1 : Int), (1 : Int)))))) e108 (fun B9 x9 => ⟨v102, _, _, _, rfl, (((rT2 rInt rInt)).mono x9 h103)⟩) rfl ?_ ?_
      · skip
        rintro s104 x105 s183 v115 B109 B110 H111 σ122 hb106 x112 ⟨v123, o125, o126, o127, rfl, h124⟩ x113 w114 h116 N117 K118 hN119
        replace w114 : Own K B110 M [⟨p93, (cLst (rT2 rInt rInt)), s104.2⟩, ⟨p49, (cLst (rT2 rInt rInt)), s50.1⟩, ⟨p47, (cLst (rLst (rT2 rInt rInt))), s50.2⟩, ⟨p45, cDk, t42⟩] H111 := w114
        refine g_T2 h116 w114 fun v128 v129 h130 h131 => ?_
        refine g_cons ?_
        refine g_name ?_
        refine g_cons ?_
        refine g_name ?_
        refine g_nil ?_
        obtain ⟨t132, e133, hb106⟩ := bindS hb106
        refine q_asg (n := 14) w114 (ev_call (ea_cons (ev_varI rfl h131) (ea_cons (ev_varI rfl h88) ea_nil)) ⟨_, _, _, rfl, rfl, e133, rfl, rfl⟩) fun v135 B134 H134 x134 (w134 : Own K B134 M [⟨p93, (cLst (rT2 rInt rInt)), s104.2⟩, ⟨p49, (cLst (rT2 rInt rInt)), s50.1⟩, ⟨p47, (cLst (rLst (rT2 rInt rInt))), s50.2⟩, ⟨p45, cDk, t42⟩] H134) h136 => ?_
        obtain ⟨s138, e139, hb106⟩ := bindS hb106
        refine q_cut (fun σ165 H162 => ∃ v163 B162, Ex B134 B162 ∧ Own K B162 M [⟨p93, (cLst (rT2 rInt rInt)), s138.2⟩, ⟨p49, (cLst (rT2 rInt rInt)), s50.1⟩, ⟨p47, (cLst (rLst (rT2 rInt rInt))), s50.2⟩, ⟨p45, cDk, t42⟩] H162 ∧ σ165 = [some u0, some u1, some u2, some u3, some (.ref p45), some (.ref p47), some (.ref p49), some v61, some v82, some v87, some (.ref p93), some v163, some v128, some v129, some v135, none] ∧ ((rT2 rInt rInt)).is K B162 v163 s138.1) ?_ ?_
        · skip
          refine q_ifc w134 (et_B (ev_dIn (ev_varI rfl h130) (ev_varR rfl) (show _[3]? = _ from rfl))) (fun hb137 B140 H140 x140 (w140 : Own K B140 M [⟨p93, (cLst (rT2 rInt rInt)), s104.2⟩, ⟨p49, (cLst (rT2 rInt rInt)), s50.1⟩, ⟨p47, (cLst (rLst (rT2 rInt rInt))), s50.2⟩, ⟨p45, cDk, t42⟩] H140) => ?_) (fun hb137 B152 H152 x152 (w152 : Own K B152 M [⟨p93, (cLst (rT2 rInt rInt)), s104.2⟩, ⟨p49, (cLst (rT2 rInt rInt)), s50.1⟩, ⟨p47, (cLst (rLst (rT2 rInt rInt))), s50.2⟩, ⟨p45, cDk, t42⟩] H152) => ?_)
          · skip
            rw [if_pos hb137] at e139
            obtain ⟨t141, e142, e139⟩ := bindS e139
            obtain ⟨t143, e144, e139⟩ := bindS e139
            obtain ⟨t145, e146, e139⟩ := bindS e139
            obtain ⟨t147, e148, e139⟩ := bindS e139
            obtain ⟨t149, e150, e139⟩ := bindS e139
            refine q_setC (n := 0) w140 (ev_call (ea_cons (ev_ixC (n := 0) (ev_varR rfl) (ev_dGet (n := 3) (ev_varR rfl) (ev_varI rfl h130) rfl e142) rfl e144) (ea_cons (ev_var rfl (((rT2 rInt rInt)).mono x140 h136)) ea_nil)) ⟨_, _, _, rfl, rfl, e146, rfl, rfl⟩) rfl (ev_dGet (n := 3) (ev_varR rfl) (ev_varI rfl h130) rfl e148) rfl e150 fun B151 H151 x151 (w151 : Own K B151 M [⟨p93, (cLst (rT2 rInt rInt)), (s104.2.set t149 t145)⟩, ⟨p49, (cLst (rT2 rInt rInt)), s50.1⟩, ⟨p47, (cLst (rLst (rT2 rInt rInt))), s50.2⟩, ⟨p45, cDk, t42⟩] H151) => ?_
            replace e139 : some _ = some _ := e139
            cases e139
            exact ⟨v123, _, (x140.trans x151), w151, rfl, (((rT2 rInt rInt)).mono (((x113.trans x134).trans x140).trans x151) h124)⟩
          rw [if_neg (by rw [hb137]; exact Bool.false_ne_true)] at e139
          obtain ⟨t153, e154, e139⟩ := bindS e139
          obtain ⟨t155, e156, e139⟩ := bindS e139
          obtain ⟨t157, e158, e139⟩ := bindS e139
          refine q_asg (n := 11) w152 (ev_call (ea_cons (ev_var rfl (((rT2 rInt rInt)).mono ((x113.trans x134).trans x152) h124)) (ea_cons (ev_call (ea_cons (ev_var rfl (((rT2 rInt rInt)).mono x152 h136)) (ea_cons (ev_ix (ev_seqL (ev_var rfl (((rLst (rT2 rInt rInt))).mono (((((((((((((x44.trans x46).trans x48).trans x58).trans x59).trans x81).trans x86).trans x92).trans x98).trans x101).trans x112).trans x113).trans x134).trans x152) f2))) (ev_varI rfl h130) e154) ea_nil)) ⟨_, _, _, rfl, rfl, e156, rfl, rfl⟩) ea_nil)) ⟨_, _, _, rfl, rfl, e158, rfl, rfl⟩) fun v160 B159 H159 x159 (w159 : Own K B159 M [⟨p93, (cLst (rT2 rInt rInt)), s104.2⟩, ⟨p49, (cLst (rT2 rInt rInt)), s50.1⟩, ⟨p47, (cLst (rLst (rT2 rInt rInt))), s50.2⟩, ⟨p45, cDk, t42⟩] H159) h161 => ?_
          replace e139 : some _ = some _ := e139
          cases e139
          exact ⟨v160, _, (x152.trans x159), w159, rfl, h161⟩
        rintro σ165' H162 ⟨v163, B162, x162, w162, rfl, h164⟩
        replace hb106 : some _ = some _ := hb106
        cases hb106
        exact hN119 _ _ _ (x134.trans x162) w162 ⟨v163, _, _, _, rfl, h164⟩
      rintro B167 H168 σ171 x169 w170 ⟨v172, o174, o175, o176, rfl, h173⟩
      replace w170 : Own K B167 M [⟨p93, (cLst (rT2 rInt rInt)), s166.2⟩, ⟨p49, (cLst (rT2 rInt rInt)), s50.1⟩, ⟨p47, (cLst (rLst (rT2 rInt rInt))), s50.2⟩, ⟨p45, cDk, t42⟩] H168 := w170
      obtain ⟨t177, e178, hb52⟩ := bindS hb52
      refine q_app (n := 1) (m := 5) w170 rfl (ev_frzC (n := 0) (ev_varR rfl) rfl) rfl ⟨2, _, rfl⟩ e178 fun B179 H179 x179 (w179 : Own K B179 M [⟨p49, (cLst (rT2 rInt rInt)), s50.1⟩, ⟨p47, (cLst (rLst (rT2 rInt rInt))), (s50.2 ++ [s166.2])⟩, ⟨p45, cDk, t42⟩] H179) => ?_
      obtain ⟨t180, e181, hb52⟩ := bindS hb52
      refine q_app (n := 0) (m := 6) w179 rfl (ev_var rfl (((rT2 rInt rInt)).mono x179 h173)) rfl ⟨0, _, rfl⟩ e181 fun B182 H182 x182 (w182 : Own K B182 M [⟨p49, (cLst (rT2 rInt rInt)), (s50.1 ++ [s166.1])⟩, ⟨p47, (cLst (rLst (rT2 rInt rInt))), (s50.2 ++ [s166.2])⟩, ⟨p45, cDk, t42⟩] H182) => ?_
      replace hb52 : some _ = some _ := hb52
      cases hb52
      exact hN65 _ _ _ (((((((x81.trans x86).trans x92).trans x98).trans x101).trans x169).trans x179).trans x182) w182 ⟨_, _, _, _, _, _, _, _, rfl⟩
    rintro B185 H186 σ189 x187 w188 ⟨o190, o191, o192, o193, o194, o195, o196, o197, rfl⟩
    replace w188 : Own K B185 M [⟨p49, (cLst (rT2 rInt rInt)), s184.1⟩, ⟨p47, (cLst (rLst (rT2 rInt rInt))), s184.2⟩, ⟨p45, cDk, t42⟩] H186 := w188
    replace hm : some _ = some _ := hm
    obtain rfl := Option.some.inj hm
    exact q_ret w188 (ev_T2 (ea_cons (ev_frzC (n := 1) (ev_varR rfl) rfl) (ea_cons (ev_frzC (n := 0) (ev_varR rfl) rfl) ea_nil))) fun v9 B9 H9 x9 w9 h9 => k _ _ _ ((((x44.trans x46).trans x48).trans x187).trans x9) w9.tail h9
noncomputable def m_filled (a0 : (List (List (Int × (List (Int × Int)))))) (a1 : (List Int)) (a2 : (List (Int × Int))) (a3 : (List (Int × Int))) : Option (List (Int × Int)) :=
  Option.bind (m_equations a0 a1 a2 a3) fun t10 =>
  Option.bind (m_solve t10.1 t10.2) fun t19 =>
  Option.bind (foldO (S := (List (Int × Int))) (α := (Int × Int)) (fun (s26 : (List (Int × Int))) (x27 : (Int × Int)) => (
    Option.bind (t19) fun t51 =>
    Option.bind (ixL t51 x27.1) fun t53 =>
    Option.bind (ixO s26.length x27.2) fun t55 =>
    some ((s26.set t55 t53))
  )) a2 ((enumI 0 a1))) fun s58 =>
  some s58
def C_filled : List Arg → List Cell → Arg → List Cell → Prop := fun as L r L' => ∃ a0 a1 a2 a3 c, as = [⟨(rTup (rTup (rT2 rInt (rTup (rT2 rInt rInt))))), a0⟩, ⟨(rLst rInt), a1⟩, ⟨(rLst (rT2 rInt rInt)), a2⟩, ⟨(rLst (rT2 rInt rInt)), a3⟩] ∧ L = [] ∧ m_filled a0 a1 a2 a3 = some c ∧ r = ⟨(rLst (rT2 rInt rInt)), c⟩ ∧ L' = []
theorem sc_filled : FnScope ["chain", "unknown", "known", "extra", "rows", "right", "found", "values", "place", "state"] ["chain", "unknown", "known", "extra"] (defScope s_filled) := ⟨rfl, rfl, rfl, by decide +kernel, rfl, by decide +kernel, by decide +kernel⟩
set_option maxHeartbeats 0 in
theorem ok_filled (F : FunC K "filled" s_filled f fd cc) (c_equations : Cl P w K mg base 3 "equations" (spV K T C_equations) []) (c_solve : Cl P w K mg base 4 "solve" (spV K T C_solve) []) (z_list : mg "list" = none) (z_enumerate : mg "enumerate" = none) : FnOk P w K mg base CX0 5 f fd ["chain", "unknown", "known", "extra"] (spV K T C_filled) := by
  refine F.ok sc_filled (fun vs H Q E h => ?_) (fun A outer s H vs Q E hr h => ?_)
  · obtain ⟨B, M, L, as, r, L', hT, w, ha, ⟨_, _, _, _, _, rfl, _⟩, k⟩ := h
    exact args_len ha
  · skip
    obtain ⟨B, M, L, as, r, L', rfl, w, ha, ⟨a0, a1, a2, a3, c, rfl, rfl, hm, rfl, rfl⟩, k⟩ := h
    obtain ⟨u0, u1, u2, u3, rfl, f0, f1, f2, f3⟩ := args4 ha
    replace f0 : ((rTup (rTup (rT2 rInt (rTup (rT2 rInt rInt)))))).is K B u0 a0 := f0
    replace f1 : ((rLst rInt)).is K B u1 a1 := f1
    replace f2 : ((rLst (rT2 rInt rInt))).is K B u2 a2 := f2
    replace f3 : ((rLst (rT2 rInt rInt))).is K B u3 a3 := f3
    unfold m_filled at hm
    refine ⟨_, (pss_cons (ps_asg (pe_c c_equations hr (by omega) rfl (pa_cons (pv 0) (pa_cons (pv 1) (pa_cons (pv 2) (pa_cons (pv 3) pa_nil))))) (pg_tup rfl (pgs_cons (pg_name (i := 4) sc_filled.nd rfl (by first | exact Or.inl rfl | exact Or.inr rfl)) (pgs_cons (pg_name (i := 5) sc_filled.nd rfl (by first | exact Or.inl rfl | exact Or.inr rfl)) pgs_nil)))) (pss_cons (ps_set (i := 6) sc_filled.nd rfl (by first | exact Or.inl rfl | exact Or.inr rfl) (pe_c c_solve hr (by omega) rfl (pa_cons (pv 4) (pa_cons (pv 5) pa_nil)))) (pss_cons (ps_set (i := 7) sc_filled.nd rfl (by first | exact Or.inl rfl | exact Or.inr rfl) (pe_callTy call_list_of rfl z_list bt_list (pa_cons (pv 2) pa_nil))) (pss_cons (ps_for PassesOwn.never rfl (pi_enum rfl z_enumerate (pa_cons (pv 1) pa_nil)) (pg_tup rfl (pgs_cons (pg_name (i := 8) sc_filled.nd rfl (by first | exact Or.inl rfl | exact Or.inr rfl)) (pgs_cons (pg_name (i := 9) sc_filled.nd rfl (by first | exact Or.inl rfl | exact Or.inr rfl)) pgs_nil))) (pss_cons (ps_asg (pe_ix ix_seq (pv 6) (pv 8) (fun _ _ => rfl)) (pg_sub (pv 7) (pv 9) set_list)) pss_nil)) (pss_cons (ps_ret (pv 7)) pss_nil))))), ?_⟩
    rw [show start ["chain", "unknown", "known", "extra", "rows", "right", "found", "values", "place", "state"] [u0, u1, u2, u3] = ([some u0, some u1, some u2, some u3, none, none, none, none, none, none] : L2.St) from rfl]
    obtain ⟨t10, e11, hm⟩ := bindS hm
    refine q_unp w (ev_call (ea_cons (ev_var rfl f0) (ea_cons (ev_var rfl f1) (ea_cons (ev_var rfl f2) (ea_cons (ev_var rfl f3) ea_nil)))) ⟨_, _, _, _, _, rfl, rfl, e11, rfl, rfl⟩) fun v13 B12 H12 x12 (w12 : Own K B12 M [] H12) h14 => ?_
    refine g_T2 h14 w12 fun v15 v16 h17 h18 => ?_
    refine g_cons ?_
    refine g_name ?_
    refine g_cons ?_
    refine g_name ?_
    refine g_nil ?_
    obtain ⟨t19, e20, hm⟩ := bindS hm
    refine q_asg (n := 6) w12 (ev_call (ea_cons (ev_var rfl h17) (ea_cons (ev_var rfl h18) ea_nil)) ⟨_, _, _, rfl, rfl, e20, rfl, rfl⟩) fun v22 B21 H21 x21 (w21 : Own K B21 M [] H21) h23 => ?_
    refine q_asgL (n := 7) w21 (el_listOf (ev_seqL (ev_var rfl (((rLst (rT2 rInt rInt))).mono (x12.trans x21) f2)))) fun p25 B24 H24 x24 (w24 : Own K B24 M [⟨p25, (cLst (rT2 rInt rInt)), a2⟩] H24) => ?_
    obtain ⟨s58, e30, hm⟩ := bindS hm
    refine q_fold w24 (ei_enumL (ev_var rfl (((rLst rInt)).mono ((x12.trans x21).trans x24) f1))) _ (fun s26 B31 σ44 => ∃ o45 o46, σ44 = [some u0, some u1, some u2, some u3, some v15, some v16, some v22, some (.ref p25), o45, o46]) (fun s26 => [⟨p25, (cLst (rT2 rInt rInt)), s26⟩]) a2 e30 (fun B9 x9 => ⟨_, _, rfl⟩) rfl ?_ ?_
    · skip
      rintro s26 x27 s66 v37 B31 B32 H33 σ44 hb28 x34 ⟨o45, o46, rfl⟩ x35 w36 h38 N39 K40 hN41
      replace w36 : Own K B32 M [⟨p25, (cLst (rT2 rInt rInt)), s26⟩] H33 := w36
      refine g_T2 h38 w36 fun v47 v48 h49 h50 => ?_
      refine g_cons ?_
      refine g_name ?_
      refine g_cons ?_
      refine g_name ?_
      refine g_nil ?_
      obtain ⟨t51, e52, hb28⟩ := bindS hb28
      obtain ⟨t53, e54, hb28⟩ := bindS hb28
      obtain ⟨t55, e56, hb28⟩ := bindS hb28
      refine q_setC (n := 0) w36 (ev_ix (ev_seqL (ev_get (ev_var rfl (((rOpt (rLst (rT2 rInt rInt)))).mono ((x24.trans x34).trans x35) h23)) e52)) (ev_varI rfl h49) e54) rfl (ev_varI rfl h50) rfl e56 fun B57 H57 x57 (w57 : Own K B57 M [⟨p25, (cLst (rT2 rInt rInt)), (s26.set t55 t53)⟩] H57) => ?_
      replace hb28 : some _ = some _ := hb28
      cases hb28
      exact hN41 _ _ _ x57 w57 ⟨_, _, rfl⟩
    rintro B59 H60 σ63 x61 w62 ⟨o64, o65, rfl⟩
    replace w62 : Own K B59 M [⟨p25, (cLst (rT2 rInt rInt)), s58⟩] H60 := w62
    replace hm : some _ = some _ := hm
    obtain rfl := Option.some.inj hm
    exact q_retC (n := 0) (m := 7) w62 rfl rfl fun v9 B9 x9 w9 h9 => k _ _ _ ((((x12.trans x21).trans x24).trans x61).trans x9) w9 h9
noncomputable def m_l_tape (a0 : (List Int)) : Option (List Int) :=
  Option.bind (foldO (S := (List Int)) (α := Int) (fun (s12 : (List Int)) (x13 : Int) => (
    Option.bind (mulI ((2 : Int)) x13) fun t35 =>
    Option.bind (if (decide (t35 < (0 : Int))) = true then
      some (((-(1 : Int)) - t35))
    else
      some t35
    ) fun (s41 : Int) =>
    Option.bind (powI ((10 : Int)) ((18 : Int))) fun t52 =>
    Option.bind (if (decide (s41 ≥ t52)) = true then
      Option.bind (foldO (S := (Int × (List Int))) (α := Int) (fun (s58 : (Int × (List Int))) (x59 : Int) => (
        Option.bind (if (decide (s58.1 > (0 : Int))) = true then
          Option.bind (modI s58.1 ((1000 : Int))) fun t84 =>
          Option.bind (room s58.2.length) fun t86 =>
          Option.bind (divI s58.1 ((1000 : Int))) fun t89 =>
          some ((t89, (s58.2 ++ [t84])))
        else
          some ((s58.1, s58.2))
        ) fun (s81 : (Int × (List Int))) =>
        some ((s81.1, s81.2))
      )) ((s41, s12)) ((rng 0 ((40 : Int))))) fun s99 =>
      some ((s99.1, s99.2))
    else
      Option.bind (foldO (S := (List Int)) (α := Int) (fun (s110 : (List Int)) (x111 : Int) => (
        Option.bind (mulI s41 ((48271 : Int))) fun t131 =>
        Option.bind (mulI x111 ((40503 : Int))) fun t133 =>
        Option.bind (modI (((t131 + t133) + (11 : Int))) ((2147483629 : Int))) fun t135 =>
        Option.bind (mulI t135 ((69621 : Int))) fun t140 =>
        Option.bind (divI t135 ((65536 : Int))) fun t142 =>
        Option.bind (modI ((t140 + t142)) ((2147483629 : Int))) fun t144 =>
        Option.bind (room s110.length) fun t146 =>
        some ((s110 ++ [t144]))
      )) s12 ((rng 0 ((3 : Int))))) fun s149 =>
      some ((s41, s149))
    ) fun (s55 : (Int × (List Int))) =>
    some s55.2
  )) (([] : List Int)) a0) fun s164 =>
  some s164
def C__law_tape : List Arg → List Cell → Arg → List Cell → Prop := fun as L r L' => ∃ a0 c, as = [⟨(rScr rInt), a0⟩] ∧ L = [] ∧ m_l_tape a0 = some c ∧ r = ⟨(rLst rInt), c⟩ ∧ L' = []
theorem sc__law_tape : FnScope ["_law_script", "_law_tape_here", "_law_cell", "_law_number", "_law_k", "_law_first"] ["_law_script"] (defScope s__law_tape) := ⟨rfl, rfl, rfl, by decide +kernel, rfl, by decide +kernel, by decide +kernel⟩
set_option maxHeartbeats 0 in
theorem ok__law_tape (F : FunC K "_law_tape" s__law_tape f fd cc) (z_int : mg "int" = none) (z_range : mg "range" = none) : FnOk P w K mg base CX0 1 f fd ["_law_script"] (spV K T C__law_tape) := by
  refine F.ok sc__law_tape (fun vs H Q E h => ?_) (fun A outer s H vs Q E hr h => ?_)
  · obtain ⟨B, M, L, as, r, L', hT, w, ha, ⟨_, _, rfl, _⟩, k⟩ := h
    exact args_len ha
  · skip
    obtain ⟨B, M, L, as, r, L', rfl, w, ha, ⟨a0, c, rfl, rfl, hm, rfl, rfl⟩, k⟩ := h
    obtain ⟨u0, rfl, f0⟩ := args1 ha
    replace f0 : ((rScr rInt)).is K B u0 a0 := f0
    unfold m_l_tape at hm
    refine ⟨_, (pss_cons (ps_set (i := 1) sc__law_tape.nd rfl (by first | exact Or.inl rfl | exact Or.inr rfl) (pe_lst pa_nil)) (pss_cons (ps_for PassesOwn.never rfl (pi_list (pv 0)) (pg_name (i := 2) sc__law_tape.nd rfl (by first | exact Or.inl rfl | exact Or.inr rfl)) (pss_cons (ps_set (i := 3) sc__law_tape.nd rfl (by first | exact Or.inl rfl | exact Or.inr rfl) (pe_op op_mulX pe_int (pe_callTy call_int1 rfl z_int bt_int (pa_cons (pv 2) pa_nil)))) (Evl.pss_cut (ps_if (pt_cmpR op_lt (pv 3) pe_int (nomark _)) (pss_cons (ps_set (i := 3) sc__law_tape.nd rfl (by first | exact Or.inl rfl | exact Or.inr rfl) (pe_op op_sub (pe_un un_neg pe_int) (pv 3))) pss_nil) pss_nil) (Evl.pss_cut (ps_if (pt_cmpR op_ge (pv 3) (pe_op op_pow pe_int pe_int) (nomark _)) (pss_cons (ps_for PassesOwn.never rfl (pi_range1 rfl z_range (pa_cons pe_int pa_nil)) (pg_name (i := 4) sc__law_tape.nd rfl (by first | exact Or.inl rfl | exact Or.inr rfl)) (Evl.pss_cut (ps_if (pt_cmpR op_gt (pv 3) pe_int (nomark _)) (pss_cons (ps_expr (pe_bm PySem.F.plainAttrs_list PySem.F.slot_list_append PySem.F.type_list_append mt_append (pv 1) (pa_cons (pe_op op_mod (pe_callTy call_int1 rfl z_int bt_int (pa_cons (pv 3) pa_nil)) pe_int) pa_nil))) (pss_cons (ps_set (i := 3) sc__law_tape.nd rfl (by first | exact Or.inl rfl | exact Or.inr rfl) (pe_op op_fdivW (pv 3) pe_int)) pss_nil)) pss_nil) pss_nil)) pss_nil) (pss_cons (ps_for PassesOwn.never rfl (pi_range1 rfl z_range (pa_cons pe_int pa_nil)) (pg_name (i := 4) sc__law_tape.nd rfl (by first | exact Or.inl rfl | exact Or.inr rfl)) (pss_cons (ps_set (i := 5) sc__law_tape.nd rfl (by first | exact Or.inl rfl | exact Or.inr rfl) (pe_op op_mod (pe_callTy call_int1 rfl z_int bt_int (pa_cons (pe_op op_add (pe_op op_add (pe_op op_mulX (pv 3) pe_int) (pe_op op_mulX (pv 4) pe_int)) pe_int) pa_nil)) pe_int)) (pss_cons (ps_expr (pe_bm PySem.F.plainAttrs_list PySem.F.slot_list_append PySem.F.type_list_append mt_append (pv 1) (pa_cons (pe_op op_mod (pe_callTy call_int1 rfl z_int bt_int (pa_cons (pe_op op_add (pe_op op_mulX (pv 5) pe_int) (pe_op op_fdivW (pv 5) pe_int)) pa_nil)) pe_int) pa_nil))) pss_nil))) pss_nil)) pss_nil)))) (pss_cons (ps_ret (pv 1)) pss_nil))), ?_⟩
    rw [show start ["_law_script", "_law_tape_here", "_law_cell", "_law_number", "_law_k", "_law_first"] [u0] = ([some u0, none, none, none, none, none] : L2.St) from rfl]
    refine q_asgL (n := 1) w (el_lst (r := rInt) ([] : List Int) ea_nil) fun p11 B10 H10 x10 (w10 : Own K B10 M [⟨p11, (cLst rInt), ([] : List Int)⟩] H10) => ?_
    obtain ⟨s164, e16, hm⟩ := bindS hm
    refine q_fold w10 (ei_scr (ev_var rfl (((rScr rInt)).mono x10 f0))) _ (fun s12 B17 σ30 => ∃ o31 o32 o33 o34, σ30 = [some u0, some (.ref p11), o31, o32, o33, o34]) (fun s12 => [⟨p11, (cLst rInt), s12⟩]) (([] : List Int)) e16 (fun B9 x9 => ⟨_, _, _, _, rfl⟩) rfl ?_ ?_
    · skip
      rintro s12 x13 s174 v23 B17 B18 H19 σ30 hb14 x20 ⟨o31, o32, o33, o34, rfl⟩ x21 w22 h24 N25 K26 hN27
      replace w22 : Own K B18 M [⟨p11, (cLst rInt), s12⟩] H19 := w22
      refine g_name ?_
      obtain ⟨t35, e36, hb14⟩ := bindS hb14
      refine q_asg (n := 3) w22 (ev_mul (ev_int (i := 2)) (ev_intI (ev_varI rfl h24)) e36) fun v38 B37 H37 x37 (w37 : Own K B37 M [⟨p11, (cLst rInt), s12⟩] H37) h39 => ?_
      obtain ⟨s41, e42, hb14⟩ := bindS hb14
      refine q_cut (fun σ51 H48 => ∃ v49 B48, Ex B37 B48 ∧ Own K B48 M [⟨p11, (cLst rInt), s12⟩] H48 ∧ σ51 = [some u0, some (.ref p11), some v23, some v49, o33, o34] ∧ (rInt).is K B48 v49 s41) ?_ ?_
      · skip
        refine q_ifc w37 (et_test (ev_lt (ev_varI rfl h39) (ev_int (i := 0)))) (fun hb40 B43 H43 x43 (w43 : Own K B43 M [⟨p11, (cLst rInt), s12⟩] H43) => ?_) (fun hb40 B47 H47 x47 (w47 : Own K B47 M [⟨p11, (cLst rInt), s12⟩] H47) => ?_)
        · skip
          rw [if_pos hb40] at e42
          refine q_asg (n := 3) w43 (ev_sub (ev_neg (ev_int (i := 1))) (ev_varI rfl h39)) fun v45 B44 H44 x44 (w44 : Own K B44 M [⟨p11, (cLst rInt), s12⟩] H44) h46 => ?_
          replace e42 : some _ = some _ := e42
          cases e42
          exact ⟨v45, _, (x43.trans x44), w44, rfl, h46⟩
        rw [if_neg (by rw [hb40]; exact Bool.false_ne_true)] at e42
        replace e42 : some _ = some _ := e42
        cases e42
        exact ⟨v38, _, x47, w47, rfl, ((rInt).mono x47 h39)⟩
      rintro σ51' H48 ⟨v49, B48, x48, w48, rfl, h50⟩
      obtain ⟨t52, e53, hb14⟩ := bindS hb14
      obtain ⟨s55, e56, hb14⟩ := bindS hb14
      refine q_cut (fun σ163 H158 => ∃ v159 o161 o162 B158, Ex B48 B158 ∧ Own K B158 M [⟨p11, (cLst rInt), s55.2⟩] H158 ∧ σ163 = [some u0, some (.ref p11), some v23, some v159, o161, o162] ∧ (rInt).is K B158 v159 s55.1) ?_ ?_
      · skip
        refine q_ifc w48 (et_test (ev_ge (ev_varI rfl h50) (ev_pow (ev_int (i := 10)) (ev_int (i := 18)) e53))) (fun hb54 B57 H57 x57 (w57 : Own K B57 M [⟨p11, (cLst rInt), s12⟩] H57) => ?_) (fun hb54 B109 H109 x109 (w109 : Own K B109 M [⟨p11, (cLst rInt), s12⟩] H109) => ?_)
        · skip
          rw [if_pos hb54] at e56
          obtain ⟨s99, e62, e56⟩ := bindS e56
          refine q_fold w57 (ei_rng1 (ea_cons (ev_int (i := 40)) ea_nil) (by decide)) _ (fun s58 B63 σ76 => ∃ v77 o79, σ76 = [some u0, some (.ref p11), some v23, some v77, o79, o34] ∧ (rInt).is K B63 v77 s58.1) (fun s58 => [⟨p11, (cLst rInt), s58.2⟩]) ((s41, s12)) e62 (fun B9 x9 => ⟨v49, _, rfl, ((rInt).mono x9 ((rInt).mono x57 h50))⟩) rfl ?_ ?_
          · skip
            rintro s58 x59 s108 v69 B63 B64 H65 σ76 hb60 x66 ⟨v77, o79, rfl, h78⟩ x67 w68 h70 N71 K72 hN73
            replace w68 : Own K B64 M [⟨p11, (cLst rInt), s58.2⟩] H65 := w68
            refine g_name ?_
            obtain ⟨s81, e82, hb60⟩ := bindS hb60
            refine q_cut (fun σ98 H95 => ∃ v96 B95, Ex B64 B95 ∧ Own K B95 M [⟨p11, (cLst rInt), s81.2⟩] H95 ∧ σ98 = [some u0, some (.ref p11), some v23, some v96, some v69, o34] ∧ (rInt).is K B95 v96 s81.1) ?_ ?_
            · skip
              refine q_ifc w68 (et_test (ev_gt (ev_varI rfl h78) (ev_int (i := 0)))) (fun hb80 B83 H83 x83 (w83 : Own K B83 M [⟨p11, (cLst rInt), s58.2⟩] H83) => ?_) (fun hb80 B94 H94 x94 (w94 : Own K B94 M [⟨p11, (cLst rInt), s58.2⟩] H94) => ?_)
              · skip
                rw [if_pos hb80] at e82
                obtain ⟨t84, e85, e82⟩ := bindS e82
                obtain ⟨t86, e87, e82⟩ := bindS e82
                refine q_app (n := 0) (m := 1) w83 rfl (ev_mod (ev_intI (ev_varI rfl h78)) (ev_int (i := 1000)) e85) rfl ⟨0, _, rfl⟩ e87 fun B88 H88 x88 (w88 : Own K B88 M [⟨p11, (cLst rInt), (s58.2 ++ [t84])⟩] H88) => ?_
                obtain ⟨t89, e90, e82⟩ := bindS e82
                refine q_asg (n := 3) w88 (ev_div (ev_varI rfl h78) (ev_int (i := 1000)) e90) fun v92 B91 H91 x91 (w91 : Own K B91 M [⟨p11, (cLst rInt), (s58.2 ++ [t84])⟩] H91) h93 => ?_
                replace e82 : some _ = some _ := e82
                cases e82
                exact ⟨v92, _, ((x83.trans x88).trans x91), w91, rfl, h93⟩
              rw [if_neg (by rw [hb80]; exact Bool.false_ne_true)] at e82
              replace e82 : some _ = some _ := e82
              cases e82
              exact ⟨v77, _, x94, w94, rfl, ((rInt).mono (x67.trans x94) h78)⟩
            rintro σ98' H95 ⟨v96, B95, x95, w95, rfl, h97⟩
            replace hb60 : some _ = some _ := hb60
            cases hb60
            exact hN73 _ _ _ x95 w95 ⟨v96, _, rfl, h97⟩
          rintro B100 H101 σ104 x102 w103 ⟨v105, o107, rfl, h106⟩
          replace w103 : Own K B100 M [⟨p11, (cLst rInt), s99.2⟩] H101 := w103
          replace e56 : some _ = some _ := e56
          cases e56
          exact ⟨v105, _, _, _, (x57.trans x102), w103, rfl, h106⟩
        rw [if_neg (by rw [hb54]; exact Bool.false_ne_true)] at e56
        obtain ⟨s149, e114, e56⟩ := bindS e56
        refine q_fold w109 (ei_rng1 (ea_cons (ev_int (i := 3)) ea_nil) (by decide)) _ (fun s110 B115 σ128 => ∃ o129 o130, σ128 = [some u0, some (.ref p11), some v23, some v49, o129, o130]) (fun s110 => [⟨p11, (cLst rInt), s110⟩]) s12 e114 (fun B9 x9 => ⟨_, _, rfl⟩) rfl ?_ ?_
        · skip
          rintro s110 x111 s157 v121 B115 B116 H117 σ128 hb112 x118 ⟨o129, o130, rfl⟩ x119 w120 h122 N123 K124 hN125
          replace w120 : Own K B116 M [⟨p11, (cLst rInt), s110⟩] H117 := w120
          refine g_name ?_
          obtain ⟨t131, e132, hb112⟩ := bindS hb112
          obtain ⟨t133, e134, hb112⟩ := bindS hb112
          obtain ⟨t135, e136, hb112⟩ := bindS hb112
          refine q_asg (n := 5) w120 (ev_mod (ev_intI (ev_add (ev_add (ev_mul (ev_varI rfl h50) (ev_int (i := 48271)) e132) (ev_mul (ev_varI rfl h122) (ev_int (i := 40503)) e134)) (ev_int (i := 11)))) (ev_int (i := 2147483629)) e136) fun v138 B137 H137 x137 (w137 : Own K B137 M [⟨p11, (cLst rInt), s110⟩] H137) h139 => ?_
          obtain ⟨t140, e141, hb112⟩ := bindS hb112
          obtain ⟨t142, e143, hb112⟩ := bindS hb112
          obtain ⟨t144, e145, hb112⟩ := bindS hb112
          obtain ⟨t146, e147, hb112⟩ := bindS hb112
          refine q_app (n := 0) (m := 1) w137 rfl (ev_mod (ev_intI (ev_add (ev_mul (ev_varI rfl h139) (ev_int (i := 69621)) e141) (ev_div (ev_varI rfl h139) (ev_int (i := 65536)) e143))) (ev_int (i := 2147483629)) e145) rfl ⟨0, _, rfl⟩ e147 fun B148 H148 x148 (w148 : Own K B148 M [⟨p11, (cLst rInt), (s110 ++ [t144])⟩] H148) => ?_
          replace hb112 : some _ = some _ := hb112
          cases hb112
          exact hN125 _ _ _ (x137.trans x148) w148 ⟨_, _, rfl⟩
        rintro B150 H151 σ154 x152 w153 ⟨o155, o156, rfl⟩
        replace w153 : Own K B150 M [⟨p11, (cLst rInt), s149⟩] H151 := w153
        replace e56 : some _ = some _ := e56
        cases e56
        exact ⟨v49, _, _, _, (x109.trans x152), w153, rfl, ((rInt).mono (x109.trans x152) h50)⟩
      rintro σ163' H158 ⟨v159, o161, o162, B158, x158, w158, rfl, h160⟩
      replace hb14 : some _ = some _ := hb14
      cases hb14
      exact hN27 _ _ _ ((x37.trans x48).trans x158) w158 ⟨_, _, _, _, rfl⟩
    rintro B165 H166 σ169 x167 w168 ⟨o170, o171, o172, o173, rfl⟩
    replace w168 : Own K B165 M [⟨p11, (cLst rInt), s164⟩] H166 := w168
    replace hm : some _ = some _ := hm
    obtain rfl := Option.some.inj hm
    exact q_retC (n := 0) (m := 1) w168 rfl rfl fun v9 B9 x9 w9 h9 => k _ _ _ ((x10.trans x167).trans x9) w9 h9
noncomputable def m_l_draw (a0 : (List Int)) (a1 : Int) (a2 : Int) : Option Int :=
  if (decide (a1 < (a0.length : Int))) = true then
    Option.bind (ixL a0 a1) fun t12 =>
    Option.bind (modI t12 a2) fun t14 =>
    some t14
  else
    Option.bind (if (decide ((a0.length : Int) > (0 : Int))) = true then
      Option.bind (modI a1 ((a0.length : Int))) fun t24 =>
      Option.bind (ixL a0 t24) fun t26 =>
      some t26
    else
      some ((1 : Int))
    ) fun (s21 : Int) =>
    Option.bind (mulI ((s21 + a1)) ((a1 + (3 : Int)))) fun t36 =>
    Option.bind (mulI t36 ((7919 : Int))) fun t38 =>
    Option.bind (mulI a1 ((104729 : Int))) fun t40 =>
    Option.bind (modI ((t38 + t40)) ((65521 : Int))) fun t42 =>
    Option.bind (modI t42 a2) fun t44 =>
    some t44
def C__law_draw : List Arg → List Cell → Arg → List Cell → Prop := fun as L r L' => ∃ a0 a1 a2 c, as = [⟨(rLst rInt), a0⟩, ⟨rInt, a1⟩, ⟨rInt, a2⟩] ∧ L = [] ∧ m_l_draw a0 a1 a2 = some c ∧ r = ⟨rInt, c⟩ ∧ L' = []
theorem sc__law_draw : FnScope ["_law_tape_here", "_law_at", "_law_many", "_law_number"] ["_law_tape_here", "_law_at", "_law_many"] (defScope s__law_draw) := ⟨rfl, rfl, rfl, by decide +kernel, rfl, by decide +kernel, by decide +kernel⟩
set_option maxHeartbeats 0 in
theorem ok__law_draw (F : FunC K "_law_draw" s__law_draw f fd cc) (z_len : mg "len" = none) (z_int : mg "int" = none) : FnOk P w K mg base CX0 1 f fd ["_law_tape_here", "_law_at", "_law_many"] (spV K T C__law_draw) := by
  refine F.ok sc__law_draw (fun vs H Q E h => ?_) (fun A outer s H vs Q E hr h => ?_)
  · obtain ⟨B, M, L, as, r, L', hT, w, ha, ⟨_, _, _, _, rfl, _⟩, k⟩ := h
    exact args_len ha
  · skip
    obtain ⟨B, M, L, as, r, L', rfl, w, ha, ⟨a0, a1, a2, c, rfl, rfl, hm, rfl, rfl⟩, k⟩ := h
    obtain ⟨u0, u1, u2, rfl, f0, f1, f2⟩ := args3 ha
    replace f0 : ((rLst rInt)).is K B u0 a0 := f0
    replace f1 : (rInt).is K B u1 a1 := f1
    replace f2 : (rInt).is K B u2 a2 := f2
    unfold m_l_draw at hm
    refine ⟨_, (pss_cons (ps_if (pt_cmpR op_lt (pv 1) (pe_callB call_len_seq rfl z_len bt_len (pa_cons (pv 0) pa_nil)) (nomark _)) (pss_cons (ps_ret (pe_op op_mod (pe_callTy call_int1 rfl z_int bt_int (pa_cons (pe_ix ix_seq (pv 0) (pv 1) (fun _ _ => rfl)) pa_nil)) (pv 2))) pss_nil) pss_nil) (pss_cons (ps_set (i := 3) sc__law_draw.nd rfl (by first | exact Or.inl rfl | exact Or.inr rfl) pe_int) (Evl.pss_cut (ps_if (pt_cmpR op_gt (pe_callB call_len_seq rfl z_len bt_len (pa_cons (pv 0) pa_nil)) pe_int (nomark _)) (pss_cons (ps_set (i := 3) sc__law_draw.nd rfl (by first | exact Or.inl rfl | exact Or.inr rfl) (pe_ix ix_seq (pv 0) (pe_op op_mod (pe_callTy call_int1 rfl z_int bt_int (pa_cons (pv 1) pa_nil)) (pe_callB call_len_seq rfl z_len bt_len (pa_cons (pv 0) pa_nil))) (fun _ _ => rfl))) pss_nil) pss_nil) (pss_cons (ps_ret (pe_op op_mod (pe_op op_mod (pe_callTy call_int1 rfl z_int bt_int (pa_cons (pe_op op_add (pe_op op_mulX (pe_op op_mulX (pe_op op_add (pv 3) (pv 1)) (pe_op op_add (pv 1) pe_int)) pe_int) (pe_op op_mulX (pv 1) pe_int)) pa_nil)) pe_int) (pv 2))) pss_nil)))), ?_⟩
    rw [show start ["_law_tape_here", "_law_at", "_law_many", "_law_number"] [u0, u1, u2] = ([some u0, some u1, some u2, none] : L2.St) from rfl]
    refine q_if w (et_test (ev_lt (ev_varI rfl f1) (ev_len (ev_seqL (ev_var rfl f0))))) (fun hb10 B11 H11 x11 (w11 : Own K B11 M [] H11) => ?_) (fun hb10 B16 H16 x16 (w16 : Own K B16 M [] H16) => ?_)
    · skip
      rw [if_pos hb10] at hm
      obtain ⟨t12, e13, hm⟩ := bindS hm
      obtain ⟨t14, e15, hm⟩ := bindS hm
      replace hm : some _ = some _ := hm
      obtain rfl := Option.some.inj hm
      exact q_ret w11 (ev_mod (ev_intI (ev_ix (ev_seqL (ev_var rfl (((rLst rInt)).mono x11 f0))) (ev_varI rfl f1) e13)) (ev_varI rfl f2) e15) fun v9 B9 H9 x9 w9 h9 => k _ _ _ (x11.trans x9) w9 h9
    rw [if_neg (by rw [hb10]; exact Bool.false_ne_true)] at hm
    refine q_asg (n := 3) w16 (ev_int (i := 1)) fun v18 B17 H17 x17 (w17 : Own K B17 M [] H17) h19 => ?_
    obtain ⟨s21, e22, hm⟩ := bindS hm
    refine q_cut (fun σ35 H32 => ∃ v33 B32, Ex B17 B32 ∧ Own K B32 M [] H32 ∧ σ35 = [some u0, some u1, some u2, some v33] ∧ (rInt).is K B32 v33 s21) ?_ ?_
    · skip
      refine q_ifc w17 (et_test (ev_gt (ev_len (ev_seqL (ev_var rfl (((rLst rInt)).mono (x16.trans x17) f0)))) (ev_int (i := 0)))) (fun hb20 B23 H23 x23 (w23 : Own K B23 M [] H23) => ?_) (fun hb20 B31 H31 x31 (w31 : Own K B31 M [] H31) => ?_)
      · skip
        rw [if_pos hb20] at e22
        obtain ⟨t24, e25, e22⟩ := bindS e22
        obtain ⟨t26, e27, e22⟩ := bindS e22
        refine q_asg (n := 3) w23 (ev_ix (ev_seqL (ev_var rfl (((rLst rInt)).mono ((x16.trans x17).trans x23) f0))) (ev_mod (ev_intI (ev_varI rfl f1)) (ev_len (ev_seqL (ev_var rfl (((rLst rInt)).mono ((x16.trans x17).trans x23) f0)))) e25) e27) fun v29 B28 H28 x28 (w28 : Own K B28 M [] H28) h30 => ?_
        replace e22 : some _ = some _ := e22
        cases e22
        exact ⟨v29, _, (x23.trans x28), w28, rfl, h30⟩
      rw [if_neg (by rw [hb20]; exact Bool.false_ne_true)] at e22
      replace e22 : some _ = some _ := e22
      cases e22
      exact ⟨v18, _, x31, w31, rfl, ((rInt).mono x31 h19)⟩
    rintro σ35' H32 ⟨v33, B32, x32, w32, rfl, h34⟩
    obtain ⟨t36, e37, hm⟩ := bindS hm
    obtain ⟨t38, e39, hm⟩ := bindS hm
    obtain ⟨t40, e41, hm⟩ := bindS hm
    obtain ⟨t42, e43, hm⟩ := bindS hm
    obtain ⟨t44, e45, hm⟩ := bindS hm
    replace hm : some _ = some _ := hm
    obtain rfl := Option.some.inj hm
    exact q_ret w32 (ev_mod (ev_mod (ev_intI (ev_add (ev_mul (ev_mul (ev_add (ev_varI rfl h34) (ev_varI rfl f1)) (ev_add (ev_varI rfl f1) (ev_int (i := 3))) e37) (ev_int (i := 7919)) e39) (ev_mul (ev_varI rfl f1) (ev_int (i := 104729)) e41))) (ev_int (i := 65521)) e43) (ev_varI rfl f2) e45) fun v9 B9 H9 x9 w9 h9 => k _ _ _ (((x16.trans x17).trans x32).trans x9) w9 h9
noncomputable def m_l_take (a0 : ((List Int) × Int)) (a1 : Int) : Option (Int × ((List Int) × Int)) :=
  Option.bind (m_l_draw (((a0.1, (a0.2 + (1 : Int)))).1) (((a0.1, (a0.2 + (1 : Int)))).2) a1) fun t11 =>
  some (t11, (a0.1, (a0.2 + (1 : Int))))
def C__law_take : List Arg → List Cell → Arg → List Cell → Prop := fun as L r L' => ∃ a0 a1 p0 c, as = [⟨rRef, p0⟩, ⟨rInt, a1⟩] ∧ L = [⟨p0, (cL2 (rLst rInt) rInt), a0⟩] ∧ m_l_take a0 a1 = some c ∧ r = ⟨rInt, c.1⟩ ∧ L' = [⟨p0, (cL2 (rLst rInt) rInt), c.2⟩]
theorem sc__law_take : FnScope ["_law_state", "_law_many"] ["_law_state", "_law_many"] (defScope s__law_take) := ⟨rfl, rfl, rfl, by decide +kernel, rfl, by decide +kernel, by decide +kernel⟩
set_option maxHeartbeats 0 in
theorem ok__law_take (F : FunC K "_law_take" s__law_take f fd cc) (c__law_draw : Cl P w K mg base 1 "_law_draw" (spV K T C__law_draw) []) : FnOk P w K mg base CX0 2 f fd ["_law_state", "_law_many"] (spV K T C__law_take) := by
  refine F.ok sc__law_take (fun vs H Q E h => ?_) (fun A outer s H vs Q E hr h => ?_)
  · obtain ⟨B, M, L, as, r, L', hT, w, ha, ⟨_, _, _, _, rfl, _⟩, k⟩ := h
    exact args_len ha
  · skip
    obtain ⟨B, M, L, as, r, L', rfl, w, ha, ⟨a0, a1, p0, c, rfl, rfl, hm, rfl, rfl⟩, k⟩ := h
    obtain ⟨u0, u1, rfl, f0, f1⟩ := args2 ha
    replace f0 : u0 = V.ref p0 := f0
    subst f0
    replace f1 : (rInt).is K B u1 a1 := f1
    unfold m_l_take at hm
    refine ⟨_, (pss_cons (ps_asg (pe_op op_add (pe_ix ix_seq (pv 0) pe_int (fun _ _ => rfl)) pe_int) (pg_sub (pv 0) pe_int set_list)) (pss_cons (ps_ret (pe_c c__law_draw hr (by omega) rfl (pa_cons (pe_ix ix_seq (pv 0) pe_int (fun _ _ => rfl)) (pa_cons (pe_ix ix_seq (pv 0) pe_int (fun _ _ => rfl)) (pa_cons (pv 1) pa_nil))))) pss_nil)), ?_⟩
    rw [show start ["_law_state", "_law_many"] [.ref p0, u1] = ([some (.ref p0), some u1] : L2.St) from rfl]
    refine q_set1 (n := 0) w (ev_add (ev_l2snd (n := 0) rfl rfl) (ev_int (i := 1))) rfl rfl fun B10 H10 x10 (w10 : Own K B10 M [⟨p0, (cL2 (rLst rInt) rInt), (a0.1, (a0.2 + (1 : Int)))⟩] H10) => ?_
    obtain ⟨t11, e12, hm⟩ := bindS hm
    replace hm : some _ = some _ := hm
    obtain rfl := Option.some.inj hm
    exact q_ret w10 (ev_call (ea_cons (ev_l2fst (n := 0) rfl rfl) (ea_cons (ev_l2snd (n := 0) rfl rfl) (ea_cons (ev_varI rfl f1) ea_nil))) ⟨_, _, _, _, rfl, rfl, e12, rfl, rfl⟩) fun v9 B9 H9 x9 w9 h9 => k _ _ _ (x10.trans x9) w9 h9
noncomputable def F_m_l_equal (rec : PyData → PyData → Option Bool) (a0 : PyData) (a1 : PyData) : Option Bool :=
  if (isNoneD a1) = true then
    some (isNoneD a0)
  else
    if (isBoolD a1) = true then
      Option.bind ((if (isBoolD a0) = true then (Option.bind (eqvD a0 a1) fun t15 => some (t15)) else (some (false)))) fun t17 =>
      some t17
    else
      if (isIntD a1) = true then
        Option.bind ((if (isIntD a0) = true then (Option.bind ((if (!(isBoolD a0)) = true then (Option.bind (eqvD a0 a1) fun t23 => some (t23)) else (some (false)))) fun t25 => some (t25)) else (some (false)))) fun t28 =>
        some t28
      else
        if (isStrD a1) = true then
          Option.bind ((if (isStrD a0) = true then (Option.bind (eqvD a0 a1) fun t34 => some (t34)) else (some (false)))) fun t36 =>
          some t36
        else
          if ((isTupD a1) && (!(isTupD a0))) = true then
            some false
          else
            if ((isLstD a1) && (!(isLstD a0))) = true then
              some false
            else
              Option.bind (lenD a0) fun t46 =>
              Option.bind (lenD a1) fun t48 =>
              if (!decide (t46 = t48)) = true then
                some false
              else
                Option.bind (lenD a1) fun t53 =>
                Option.bind (small62 t53) fun t55 =>
                Option.bind (loopR (S := Unit) (R := Bool) (α := Int) (fun (s57 : Unit) (x58 : Int) => (
                  Option.bind (ixD a0 x58) fun t77 =>
                  Option.bind (ixD a1 x58) fun t79 =>
                  Option.bind (rec t77 t79) fun t81 =>
                  if (!t81) = true then
                    some (Stp.rt false)
                  else
                    some (Stp.nx (()))
                )) (()) ((rng 0 t53))) fun o60 =>
                match o60 with
                | .inl s86 =>
                  some true
                | .inr q9 => some q9
noncomputable def m_l_equal : Nat → PyData → PyData → Option Bool
  | 0 => fun _ _ => none
  | n + 1 => F_m_l_equal (m_l_equal n)
def C__law_equal (n : Nat) : List Arg → List Cell → Arg → List Cell → Prop := fun as L r L' => ∃ a0 a1 c, as = [⟨rDat, a0⟩, ⟨rDat, a1⟩] ∧ L = [] ∧ m_l_equal n a0 a1 = some c ∧ r = ⟨rBool, c⟩ ∧ L' = []
theorem sc__law_equal : FnScope ["_law_actual", "_law_due", "_law_k"] ["_law_actual", "_law_due"] (defScope s__law_equal) := ⟨rfl, rfl, rfl, by decide +kernel, rfl, by decide +kernel, by decide +kernel⟩
set_option maxHeartbeats 0 in
theorem ok__law_equal (F : FunC K "_law_equal" s__law_equal f fd cc) (z_isinstance : mg "isinstance" = none) (z_bool : mg "bool" = none) (z_int : mg "int" = none) (z_str : mg "str" = none) (z_tuple : mg "tuple" = none) (z_list : mg "list" = none) (z_len : mg "len" = none) (z_range : mg "range" = none) (n : Nat) (c__law_equal : Cl P w K mg base (0 + n) "_law_equal" (spV K T (C__law_equal n)) []) : FnOk P w K mg base CX0 (0 + n + 1) f fd ["_law_actual", "_law_due"] (spV K T (C__law_equal (n + 1))) := by
  refine F.ok sc__law_equal (fun vs H Q E h => ?_) (fun A outer s H vs Q E hr h => ?_)
  · obtain ⟨B, M, L, as, r, L', hT, w, ha, ⟨_, _, _, rfl, _⟩, k⟩ := h
    exact args_len ha
  · skip
    obtain ⟨B, M, L, as, r, L', rfl, w, ha, ⟨a0, a1, c, rfl, rfl, hm, rfl, rfl⟩, k⟩ := h
    obtain ⟨u0, u1, rfl, f0, f1⟩ := args2 ha
    replace f0 : (rDat).is K B u0 a0 := f0
    replace f1 : (rDat).is K B u1 a1 := f1
    have hu := room_hu hr
    replace hm : F_m_l_equal (m_l_equal n) a0 a1 = some c := hm
    unfold F_m_l_equal at hm
    refine ⟨_, (pss_cons (ps_if (pt_cmp (pc_isN (pv 1))) (pss_cons (ps_ret (pe_cmp (pc_isN (pv 0)))) pss_nil) pss_nil) (pss_cons (ps_if (pt_val (pe_callB call_isi rfl z_isinstance bt_isinstance (pa_cons (pv 1) (pa_cons (pe_bltn (v := .ty "bool") rfl z_bool bt_bool rfl) pa_nil)))) (pss_cons (ps_ret (pe_and (pe_callB call_isi rfl z_isinstance bt_isinstance (pa_cons (pv 0) (pa_cons (pe_bltn (v := .ty "bool") rfl z_bool bt_bool rfl) pa_nil))) (pe_one (pe_cmpR (op_eqD hu) (pv 0) (pv 1) (nomark _))))) pss_nil) pss_nil) (pss_cons (ps_if (pt_val (pe_callB call_isi rfl z_isinstance bt_isinstance (pa_cons (pv 1) (pa_cons (pe_bltn (v := .ty "int") rfl z_int bt_int rfl) pa_nil)))) (pss_cons (ps_ret (pe_and (pe_callB call_isi rfl z_isinstance bt_isinstance (pa_cons (pv 0) (pa_cons (pe_bltn (v := .ty "int") rfl z_int bt_int rfl) pa_nil))) (pe_and (pe_not (pe_callB call_isi rfl z_isinstance bt_isinstance (pa_cons (pv 0) (pa_cons (pe_bltn (v := .ty "bool") rfl z_bool bt_bool rfl) pa_nil)))) (pe_one (pe_cmpR (op_eqD hu) (pv 0) (pv 1) (nomark _)))))) pss_nil) pss_nil) (pss_cons (ps_if (pt_val (pe_callB call_isi rfl z_isinstance bt_isinstance (pa_cons (pv 1) (pa_cons (pe_bltn (v := .ty "str") rfl z_str bt_str rfl) pa_nil)))) (pss_cons (ps_ret (pe_and (pe_callB call_isi rfl z_isinstance bt_isinstance (pa_cons (pv 0) (pa_cons (pe_bltn (v := .ty "str") rfl z_str bt_str rfl) pa_nil))) (pe_one (pe_cmpR (op_eqD hu) (pv 0) (pv 1) (nomark _))))) pss_nil) pss_nil) (pss_cons (ps_if (PW.pt (pw_and (pt_val (pe_callB call_isi rfl z_isinstance bt_isinstance (pa_cons (pv 1) (pa_cons (pe_bltn (v := .ty "tuple") rfl z_tuple bt_tuple rfl) pa_nil)))) (pw_and1 (pt_not (pt_val (pe_callB call_isi rfl z_isinstance bt_isinstance (pa_cons (pv 0) (pa_cons (pe_bltn (v := .ty "tuple") rfl z_tuple bt_tuple rfl) pa_nil)))))))) (pss_cons (ps_ret pe_bl) pss_nil) pss_nil) (pss_cons (ps_if (PW.pt (pw_and (pt_val (pe_callB call_isi rfl z_isinstance bt_isinstance (pa_cons (pv 1) (pa_cons (pe_bltn (v := .ty "list") rfl z_list bt_list rfl) pa_nil)))) (pw_and1 (pt_not (pt_val (pe_callB call_isi rfl z_isinstance bt_isinstance (pa_cons (pv 0) (pa_cons (pe_bltn (v := .ty "list") rfl z_list bt_list rfl) pa_nil)))))))) (pss_cons (ps_ret pe_bl) pss_nil) pss_nil) (pss_cons (ps_if (pt_cmpR op_ne (pe_callB call_len_seq rfl z_len bt_len (pa_cons (pv 0) pa_nil)) (pe_callB call_len_seq rfl z_len bt_len (pa_cons (pv 1) pa_nil)) (nomark _)) (pss_cons (ps_ret pe_bl) pss_nil) pss_nil) (pss_cons (ps_for PassesOwn.never rfl (pi_range1 rfl z_range (pa_cons (pe_callB call_len_seq rfl z_len bt_len (pa_cons (pv 1) pa_nil)) pa_nil)) (pg_name (i := 2) sc__law_equal.nd rfl (by first | exact Or.inl rfl | exact Or.inr rfl)) (pss_cons (ps_if (pt_not (pt_val (pe_c c__law_equal hr (by omega) rfl (pa_cons (pe_ix ix_seq (pv 0) (pv 2) (fun _ _ => rfl)) (pa_cons (pe_ix ix_seq (pv 1) (pv 2) (fun _ _ => rfl)) pa_nil))))) (pss_cons (ps_ret pe_bl) pss_nil) pss_nil) pss_nil)) (pss_cons (ps_ret pe_bl) pss_nil))))))))), ?_⟩
    rw [show start ["_law_actual", "_law_due", "_law_k"] [u0, u1] = ([some u0, some u1, none] : L2.St) from rfl]
    refine q_if w (et_B (ev_isND (ev_var rfl f1))) (fun hb10 B11 H11 x11 (w11 : Own K B11 M [] H11) => ?_) (fun hb10 B12 H12 x12 (w12 : Own K B12 M [] H12) => ?_)
    · skip
      rw [if_pos hb10] at hm
      replace hm : some _ = some _ := hm
      obtain rfl := Option.some.inj hm
      exact q_ret w11 (ev_isND (ev_var rfl ((rDat).mono x11 f0))) fun v9 B9 H9 x9 w9 h9 => k _ _ _ (x11.trans x9) w9 h9
    rw [if_neg (by rw [hb10]; exact Bool.false_ne_true)] at hm
    refine q_if w12 (et_B (ev_isi "bool" isBoolD isi_bool (ev_var rfl ((rDat).mono x12 f1)))) (fun hb13 B14 H14 x14 (w14 : Own K B14 M [] H14) => ?_) (fun hb13 B20 H20 x20 (w20 : Own K B20 M [] H20) => ?_)
    · skip
      rw [if_pos hb13] at hm
      obtain ⟨t17, e18, hm⟩ := bindS hm
      replace hm : some _ = some _ := hm
      obtain rfl := Option.some.inj hm
      exact q_ret w14 (ev_andV (d := t17) (ev_isi "bool" isBoolD isi_bool (ev_var rfl ((rDat).mono (x12.trans x14) f0))) (fun hb19 => by rw [if_pos hb19] at e18; obtain ⟨t15, e16, e18⟩ := bindS e18; obtain rfl := Option.some.inj e18; exact (ev_eqvD (ev_var rfl ((rDat).mono (x12.trans x14) f0)) (ev_var rfl ((rDat).mono (x12.trans x14) f1)) e16)) (fun hb19 => by rw [if_neg (by rw [hb19]; exact Bool.false_ne_true)] at e18; obtain rfl := Option.some.inj e18; exact ⟨rfl, rfl⟩)) fun v9 B9 H9 x9 w9 h9 => k _ _ _ ((x12.trans x14).trans x9) w9 h9
    rw [if_neg (by rw [hb13]; exact Bool.false_ne_true)] at hm
    refine q_if w20 (et_B (ev_isi "int" isIntD isi_int (ev_var rfl ((rDat).mono (x12.trans x20) f1)))) (fun hb21 B22 H22 x22 (w22 : Own K B22 M [] H22) => ?_) (fun hb21 B31 H31 x31 (w31 : Own K B31 M [] H31) => ?_)
    · skip
      rw [if_pos hb21] at hm
      obtain ⟨t28, e29, hm⟩ := bindS hm
      replace hm : some _ = some _ := hm
      obtain rfl := Option.some.inj hm
      exact q_ret w22 (ev_andV (d := t28) (ev_isi "int" isIntD isi_int (ev_var rfl ((rDat).mono ((x12.trans x20).trans x22) f0))) (fun hb30 => by rw [if_pos hb30] at e29; obtain ⟨t25, e26, e29⟩ := bindS e29; obtain rfl := Option.some.inj e29; exact (ev_andV (d := t25) (ev_notV (ev_isi "bool" isBoolD isi_bool (ev_var rfl ((rDat).mono ((x12.trans x20).trans x22) f0)))) (fun hb27 => by rw [if_pos hb27] at e26; obtain ⟨t23, e24, e26⟩ := bindS e26; obtain rfl := Option.some.inj e26; exact (ev_eqvD (ev_var rfl ((rDat).mono ((x12.trans x20).trans x22) f0)) (ev_var rfl ((rDat).mono ((x12.trans x20).trans x22) f1)) e24)) (fun hb27 => by rw [if_neg (by rw [hb27]; exact Bool.false_ne_true)] at e26; obtain rfl := Option.some.inj e26; exact ⟨rfl, rfl⟩))) (fun hb30 => by rw [if_neg (by rw [hb30]; exact Bool.false_ne_true)] at e29; obtain rfl := Option.some.inj e29; exact ⟨rfl, rfl⟩)) fun v9 B9 H9 x9 w9 h9 => k _ _ _ (((x12.trans x20).trans x22).trans x9) w9 h9
    rw [if_neg (by rw [hb21]; exact Bool.false_ne_true)] at hm
    refine q_if w31 (et_B (ev_isi "str" isStrD isi_str (ev_var rfl ((rDat).mono ((x12.trans x20).trans x31) f1)))) (fun hb32 B33 H33 x33 (w33 : Own K B33 M [] H33) => ?_) (fun hb32 B39 H39 x39 (w39 : Own K B39 M [] H39) => ?_)
    · skip
      rw [if_pos hb32] at hm
      obtain ⟨t36, e37, hm⟩ := bindS hm
      replace hm : some _ = some _ := hm
      obtain rfl := Option.some.inj hm
      exact q_ret w33 (ev_andV (d := t36) (ev_isi "str" isStrD isi_str (ev_var rfl ((rDat).mono (((x12.trans x20).trans x31).trans x33) f0))) (fun hb38 => by rw [if_pos hb38] at e37; obtain ⟨t34, e35, e37⟩ := bindS e37; obtain rfl := Option.some.inj e37; exact (ev_eqvD (ev_var rfl ((rDat).mono (((x12.trans x20).trans x31).trans x33) f0)) (ev_var rfl ((rDat).mono (((x12.trans x20).trans x31).trans x33) f1)) e35)) (fun hb38 => by rw [if_neg (by rw [hb38]; exact Bool.false_ne_true)] at e37; obtain rfl := Option.some.inj e37; exact ⟨rfl, rfl⟩)) fun v9 B9 H9 x9 w9 h9 => k _ _ _ ((((x12.trans x20).trans x31).trans x33).trans x9) w9 h9
    rw [if_neg (by rw [hb32]; exact Bool.false_ne_true)] at hm
    refine q_if w39 (et_and (et_B (ev_isi "tuple" isTupD isi_tuple (ev_var rfl ((rDat).mono (((x12.trans x20).trans x31).trans x39) f1)))) fun _ => (et_not (et_B (ev_isi "tuple" isTupD isi_tuple (ev_var rfl ((rDat).mono (((x12.trans x20).trans x31).trans x39) f0)))))) (fun hb40 B41 H41 x41 (w41 : Own K B41 M [] H41) => ?_) (fun hb40 B42 H42 x42 (w42 : Own K B42 M [] H42) => ?_)
    · skip
      rw [if_pos hb40] at hm
      replace hm : some _ = some _ := hm
      obtain rfl := Option.some.inj hm
      exact q_ret w41 (ev_bl (b := false)) fun v9 B9 H9 x9 w9 h9 => k _ _ _ (((((x12.trans x20).trans x31).trans x39).trans x41).trans x9) w9 h9
    rw [if_neg (by rw [hb40]; exact Bool.false_ne_true)] at hm
    refine q_if w42 (et_and (et_B (ev_isi "list" isLstD isi_list (ev_var rfl ((rDat).mono ((((x12.trans x20).trans x31).trans x39).trans x42) f1)))) fun _ => (et_not (et_B (ev_isi "list" isLstD isi_list (ev_var rfl ((rDat).mono ((((x12.trans x20).trans x31).trans x39).trans x42) f0)))))) (fun hb43 B44 H44 x44 (w44 : Own K B44 M [] H44) => ?_) (fun hb43 B45 H45 x45 (w45 : Own K B45 M [] H45) => ?_)
    · skip
      rw [if_pos hb43] at hm
      replace hm : some _ = some _ := hm
      obtain rfl := Option.some.inj hm
      exact q_ret w44 (ev_bl (b := false)) fun v9 B9 H9 x9 w9 h9 => k _ _ _ ((((((x12.trans x20).trans x31).trans x39).trans x42).trans x44).trans x9) w9 h9
    rw [if_neg (by rw [hb43]; exact Bool.false_ne_true)] at hm
    obtain ⟨t46, e47, hm⟩ := bindS hm
    obtain ⟨t48, e49, hm⟩ := bindS hm
    refine q_if w45 (et_test (ev_neI (ev_lenD (ev_var rfl ((rDat).mono (((((x12.trans x20).trans x31).trans x39).trans x42).trans x45) f0)) e47) (ev_lenD (ev_var rfl ((rDat).mono (((((x12.trans x20).trans x31).trans x39).trans x42).trans x45) f1)) e49))) (fun hb50 B51 H51 x51 (w51 : Own K B51 M [] H51) => ?_) (fun hb50 B52 H52 x52 (w52 : Own K B52 M [] H52) => ?_)
    · skip
      rw [if_pos hb50] at hm
      replace hm : some _ = some _ := hm
      obtain rfl := Option.some.inj hm
      exact q_ret w51 (ev_bl (b := false)) fun v9 B9 H9 x9 w9 h9 => k _ _ _ (((((((x12.trans x20).trans x31).trans x39).trans x42).trans x45).trans x51).trans x9) w9 h9
    rw [if_neg (by rw [hb50]; exact Bool.false_ne_true)] at hm
    obtain ⟨t53, e54, hm⟩ := bindS hm
    obtain ⟨t55, e56, hm⟩ := bindS hm
    obtain ⟨o60, e61, hm⟩ := bindS hm
    refine q_forR w52 (ei_rng1 (ea_cons (ev_lenD (ev_var rfl ((rDat).mono ((((((x12.trans x20).trans x31).trans x39).trans x42).trans x45).trans x52) f1)) e54) ea_nil) e56) _ (fun s57 B62 σ75 => ∃ o76, σ75 = [some u0, some u1, o76]) (fun s57 => []) (()) e61 (fun B9 x9 => ⟨_, rfl⟩) rfl ?_ ?_
    · skip
      rintro s57 x58 s93 v68 B62 B63 H64 σ75 hb59 x65 ⟨o76, rfl⟩ x66 w67 h69 ho74 N70 K71 hN72 hB73
      replace w67 : Own K B63 M [] H64 := w67
      refine g_name ?_
      obtain ⟨t77, e78, hb59⟩ := bindS hb59
      obtain ⟨t79, e80, hb59⟩ := bindS hb59
      obtain ⟨t81, e82, hb59⟩ := bindS hb59
      refine q_if w67 (et_not (et_B (ev_call (ea_cons (ev_ixD (ev_var rfl ((rDat).mono ((((((((x12.trans x20).trans x31).trans x39).trans x42).trans x45).trans x52).trans x65).trans x66) f0)) (ev_varI rfl h69) e78) (ea_cons (ev_ixD (ev_var rfl ((rDat).mono ((((((((x12.trans x20).trans x31).trans x39).trans x42).trans x45).trans x52).trans x65).trans x66) f1)) (ev_varI rfl h69) e80) ea_nil)) ⟨_, _, _, rfl, rfl, e82, rfl, rfl⟩))) (fun hb83 B84 H84 x84 (w84 : Own K B84 M [] H84) => ?_) (fun hb83 B85 H85 x85 (w85 : Own K B85 M [] H85) => ?_)
      · skip
        rw [if_pos hb83] at hb59
        replace hb59 : some _ = some _ := hb59
        obtain rfl := Option.some.inj hb59
        obtain rfl := ho74 _ rfl
        replace hm : some _ = some _ := hm
        obtain rfl := Option.some.inj hm
        exact q_ret w84 (ev_bl (b := false)) fun v9 B9 H9 x9 w9 h9 => k _ _ _ ((((((((((x12.trans x20).trans x31).trans x39).trans x42).trans x45).trans x52).trans x65).trans x66).trans x84).trans x9) w9 h9
      rw [if_neg (by rw [hb83]; exact Bool.false_ne_true)] at hb59
      replace hb59 : some _ = some _ := hb59
      cases hb59
      exact hN72 _ _ _ _ rfl x85 w85 ⟨_, rfl⟩
    rintro s86 B87 H88 σ91 rfl x89 w90 ⟨o92, rfl⟩
    dsimp only at hm
    replace w90 : Own K B87 M [] H88 := w90
    replace hm : some _ = some _ := hm
    obtain rfl := Option.some.inj hm
    exact q_ret w90 (ev_bl (b := true)) fun v9 B9 H9 x9 w9 h9 => k _ _ _ ((((((((x12.trans x20).trans x31).trans x39).trans x42).trans x45).trans x52).trans x89).trans x9) w9 h9
theorem all__law_equal (F : FunC K "_law_equal" s__law_equal f fd cc) (z_isinstance : mg "isinstance" = none) (z_bool : mg "bool" = none) (z_int : mg "int" = none) (z_str : mg "str" = none) (z_tuple : mg "tuple" = none) (z_list : mg "list" = none) (z_len : mg "len" = none) (z_range : mg "range" = none) (mf : mg "_law_equal" = some (.ref f)) (kp : PySem.W.keepIn K (.ref f) = true) (bf : Binds K fd ["_law_actual", "_law_due"] []) : ∀ n, FnOk P w K mg base CX0 (0 + n) f fd ["_law_actual", "_law_due"] (spV K T (C__law_equal n))
  | 0 => fn_none fun _ _ _ _ ⟨_, _, _, _, _, h, _⟩ => (by cases h)
  | n + 1 => ok__law_equal F z_isinstance z_bool z_int z_str z_tuple z_list z_len z_range n ⟨f, fd, ["_law_actual", "_law_due"], [], all__law_equal F z_isinstance z_bool z_int z_str z_tuple z_list z_len z_range mf kp bf n, mf, kp, bf, .nil⟩
noncomputable def m_policy_costs (a0 : (List (List (Int × (List (Int × Int)))))) (a1 : (List Int)) (a2 : (List Int)) : Option (List (Option (Int × Int))) :=
  Option.bind (m_restricted a0 a1) fun t10 =>
  Option.bind (rgO 0 ((a0.length : Int))) fun t15 =>
  Option.bind (m_certain t10 t15 a2) fun t17 =>
  Option.bind (room t17.length) fun t51 =>
  Option.bind (compM (S := Unit) (β := Int) (fun (s22 : Unit) (x29 : Int) => ( if (!decide (x29 ∈ a2)) = true then ( some (some x29, ())) else some (none, ()))) (()) t17) fun t53 =>
  Option.bind (room t10.length) fun t84 =>
  Option.bind (compM (S := Unit) (β := (Int × Int)) (fun (s58 : Unit) (x65 : (List (Int × (List (Int × Int))))) => (Option.bind (ixL x65 ((0 : Int))) fun t82 => some (some ((t82.1, (1 : Int))), ()))) (()) t10) fun t86 =>
  Option.bind (repL ([((0 : Int), (1 : Int))]) ((a0.length : Int))) fun t92 =>
  Option.bind (m_filled t10 t53.1 t92 t86.1) fun t94 =>
  Option.bind (small62 ((a0.length : Int))) fun t99 =>
  Option.bind (room ((rng 0 ((a0.length : Int)))).length) fun t130 =>
  Option.bind (compM (S := Unit) (β := (Option (Int × Int))) (fun (s101 : Unit) (x108 : Int) => (Option.bind ((if (decide (x108 ∈ t17)) = true then (Option.bind (ixL t94 x108) fun t125 => some ((some t125))) else (some (none)))) fun t127 => some (some t127, ()))) (()) ((rng 0 ((a0.length : Int))))) fun t132 =>
  some t132.1
def C_policy_costs : List Arg → List Cell → Arg → List Cell → Prop := fun as L r L' => ∃ a0 a1 a2 c, as = [⟨(rTup (rTup (rT2 rInt (rTup (rT2 rInt rInt))))), a0⟩, ⟨(rTup rInt), a1⟩, ⟨(rLst rInt), a2⟩] ∧ L = [] ∧ m_policy_costs a0 a1 a2 = some c ∧ r = ⟨(rLst (rOpt (rT2 rInt rInt))), c⟩ ∧ L' = []
theorem sc_policy_costs : FnScope ["system", "policy", "targets", "chain", "fine", "unknown", "extra", "values", "state", "choices"] ["system", "policy", "targets"] (defScope s_policy_costs) := ⟨rfl, rfl, rfl, by decide +kernel, rfl, by decide +kernel, by decide +kernel⟩
set_option maxHeartbeats 0 in
theorem ok_policy_costs (F : FunC K "policy_costs" s_policy_costs f fd cc) (c_restricted : Cl P w K mg base 1 "restricted" (spV K T C_restricted) []) (c_certain : Cl P w K mg base 5 "certain" (spV K T C_certain) []) (c_filled : Cl P w K mg base 5 "filled" (spV K T C_filled) []) (g_ZERO : GV K mg "ZERO" (rT2 rInt rInt) (((0 : Int), (1 : Int)))) (z_list : mg "list" = none) (z_len : mg "len" = none) (z_range : mg "range" = none) : FnOk P w K mg base CX0 6 f fd ["system", "policy", "targets"] (spV K T C_policy_costs) := by
  obtain ⟨u_ZERO, v_ZERO, m_ZERO, rv_ZERO, i_ZERO⟩ := g_ZERO
  refine F.ok sc_policy_costs (fun vs H Q E h => ?_) (fun A outer s H vs Q E hr h => ?_)
  · obtain ⟨B, M, L, as, r, L', hT, w, ha, ⟨_, _, _, _, rfl, _⟩, k⟩ := h
    exact args_len ha
  · skip
    obtain ⟨B, M, L, as, r, L', rfl, w, ha, ⟨a0, a1, a2, c, rfl, rfl, hm, rfl, rfl⟩, k⟩ := h
    obtain ⟨u0, u1, u2, rfl, f0, f1, f2⟩ := args3 ha
    replace f0 : ((rTup (rTup (rT2 rInt (rTup (rT2 rInt rInt)))))).is K B u0 a0 := f0
    replace f1 : ((rTup rInt)).is K B u1 a1 := f1
    replace f2 : ((rLst rInt)).is K B u2 a2 := f2
    unfold m_policy_costs at hm
    refine ⟨_, (pss_cons (ps_set (i := 3) sc_policy_costs.nd rfl (by first | exact Or.inl rfl | exact Or.inr rfl) (pe_c c_restricted hr (by omega) rfl (pa_cons (pv 0) (pa_cons (pv 1) pa_nil)))) (pss_cons (ps_set (i := 4) sc_policy_costs.nd rfl (by first | exact Or.inl rfl | exact Or.inr rfl) (pe_c c_certain hr (by omega) rfl (pa_cons (pv 3) (pa_cons (pe_listRg rfl rfl z_list (prg_1 rfl z_range (pe_callB call_len_seq rfl z_len bt_len (pa_cons (pv 0) pa_nil)))) (pa_cons (pv 2) pa_nil))))) (pss_cons (ps_setLc (i := 5) rfl sc_policy_costs.nd rfl rfl rfl (pi_list (pv 4)) (blkOk_by (own := [("state", 8)]) (show blkC ["system", "policy", "targets", "chain", "fine", "unknown", "extra", "values", "state", "choices"] (defScope s_policy_costs) _ _ = true by decide +kernel)) (fun _ _ _ _ _ => (pg_name (i := 8) sc_policy_costs.nd rfl (by first | exact Or.inl rfl | exact Or.inr rfl))) (fun _ _ _ _ _ => (pts_one (pt_cmpR (show OpR _ _ (rIn K true) from op_notIn_seq) (pv 8) (pv 2) rfl))) (fun _ _ _ _ _ => (pv 8))) (pss_cons (ps_setLc (i := 6) rfl sc_policy_costs.nd rfl rfl rfl (pi_tup (pv 3)) (blkOk_by (own := [("choices", 9)]) (show blkC ["system", "policy", "targets", "chain", "fine", "unknown", "extra", "values", "state", "choices"] (defScope s_policy_costs) _ _ = true by decide +kernel)) (fun _ _ _ _ _ => (pg_name (i := 9) sc_policy_costs.nd rfl (by first | exact Or.inl rfl | exact Or.inr rfl))) (fun _ _ _ _ _ => pts_nil) (fun _ _ _ _ _ => (pe_tup (pa_cons (pe_ix (show IxR _ (rIx K) from ix_seq) (pe_ix (show IxR _ (rIx K) from ix_seq) (pv 9) pe_int (fun _ _ => rfl)) pe_int (fun _ _ => rfl)) (pa_cons pe_int pa_nil))))) (pss_cons (ps_set (i := 7) sc_policy_costs.nd rfl (by first | exact Or.inl rfl | exact Or.inr rfl) (pe_c c_filled hr (by omega) rfl (pa_cons (pv 3) (pa_cons (pv 5) (pa_cons (pe_op op_rep (pe_lst (pa_cons (pe_glob rfl m_ZERO rv_ZERO) pa_nil)) (pe_callB call_len_seq rfl z_len bt_len (pa_cons (pv 0) pa_nil))) (pa_cons (pv 6) pa_nil)))))) (pss_cons (ps_ret (pe_lc rfl sc_policy_costs.nd (pi_range1 rfl z_range (pa_cons (pe_callB call_len_seq rfl z_len bt_len (pa_cons (pv 0) pa_nil)) pa_nil)) (blkOk_by (own := [("state", 8)]) (show blkC ["system", "policy", "targets", "chain", "fine", "unknown", "extra", "values", "state", "choices"] (defScope s_policy_costs) _ _ = true by decide +kernel)) (fun _ _ _ _ _ => (pg_name (i := 8) sc_policy_costs.nd rfl (by first | exact Or.inl rfl | exact Or.inr rfl))) (fun _ _ _ _ _ => pts_nil) (fun _ _ _ _ _ => (pe_ifExp (pt_cmpR (show OpR _ _ (rIn K false) from op_in_seq) (pv 8) (pv 4) rfl) (pe_ix (show IxR _ (rIx K) from ix_seq) (pv 7) (pv 8) (fun _ _ => rfl)) pe_non)))) pss_nil)))))), ?_⟩
    rw [show start ["system", "policy", "targets", "chain", "fine", "unknown", "extra", "values", "state", "choices"] [u0, u1, u2] = ([some u0, some u1, some u2, none, none, none, none, none, none, none] : L2.St) from rfl]
    obtain ⟨t10, e11, hm⟩ := bindS hm
    refine q_asg (n := 3) w (ev_call (ea_cons (ev_var rfl f0) (ea_cons (ev_var rfl f1) ea_nil)) ⟨_, _, _, rfl, rfl, e11, rfl, rfl⟩) fun v13 B12 H12 x12 (w12 : Own K B12 M [] H12) h14 => ?_
    obtain ⟨t15, e16, hm⟩ := bindS hm
    obtain ⟨t17, e18, hm⟩ := bindS hm
    refine q_asg (n := 4) w12 (ev_call (ea_cons (ev_var rfl h14) (ea_cons (ev_frz (el_listRg1 (ev_len (ev_seqT (ev_var rfl (((rTup (rTup (rT2 rInt (rTup (rT2 rInt rInt)))))).mono x12 f0)))) e16)) (ea_cons (ev_var rfl (((rLst rInt)).mono x12 f2)) ea_nil))) ⟨_, _, _, _, rfl, rfl, e18, rfl, rfl⟩) fun v20 B19 H19 x19 (w19 : Own K B19 M [] H19) h21 => ?_
    obtain ⟨t51, e52, hm⟩ := bindS hm
    obtain ⟨t53, e54, hm⟩ := bindS hm
    refine q_asg (n := 5) w19 (ev_frz (el_lc (S := Unit) (ys := t53.1) (s1 := t53.2) (s0 := ()) (σ' := [some u0, some u1, some u2, some v13, some v20, none, none, none, none, none]) rInt (ei_lst (ev_var rfl h21)) _ (fun (s22 : Unit) => []) rfl e54 e52 rfl (by rintro s22 x29 o34 s35 v27 D32 a33 B23 H24 hb31 x25 w26 h28 PY36 PN37 qY38 qN39; replace w26 : Own K B23 M [⟨D32, (cLst rInt), a33⟩] H24 := w26; refine g_name ?_; refine ⟨rfl, ?_⟩; exact (et_test (ev_niI (ev_varI rfl h28) (ev_seqL (ev_var rfl (((rLst rInt)).mono ((x12.trans x19).trans x25) f2))))) B23 H24 (Ex.refl _) w26 _ fun B46 H47 x48 (w49 : Own K B46 M [⟨D32, (cLst rInt), a33⟩] H47) => lc_if (fun hq50 => by rw [if_pos hq50] at hb31; obtain ⟨rfl, rfl⟩ := Prod.mk.inj (Option.some.inj hb31); exact (ev_varI rfl h28) B46 H47 (Ex.refl _) w49 _ fun v40 B41 H42 x43 w44 h45 => qY38 v40 B41 H42 _ rfl (x48.trans x43) w44 h45) (fun hq50 => by rw [if_neg (by rw [hq50]; exact Bool.false_ne_true)] at hb31; obtain ⟨rfl, rfl⟩ := Prod.mk.inj (Option.some.inj hb31); exact qN39 B46 H47 rfl x48 w49)))) fun v56 B55 H55 x55 (w55 : Own K B55 M [] H55) h57 => ?_
    obtain ⟨t84, e85, hm⟩ := bindS hm
    obtain ⟨t86, e87, hm⟩ := bindS hm
    refine q_asg (n := 6) w55 (ev_frz (el_lc (S := Unit) (ys := t86.1) (s1 := t86.2) (s0 := ()) (σ' := [some u0, some u1, some u2, some v13, some v20, some v56, none, none, none, none]) (rT2 rInt rInt) (ei_tup (ev_var rfl (((rTup (rTup (rT2 rInt (rTup (rT2 rInt rInt)))))).mono (x19.trans x55) h14))) _ (fun (s58 : Unit) => []) rfl e87 e85 rfl (by rintro s58 x65 o70 s71 v63 D68 a69 B59 H60 hb67 x61 w62 h64 PY72 PN73 qY74 qN75; replace w62 : Own K B59 M [⟨D68, (cLst (rT2 rInt rInt)), a69⟩] H60 := w62; refine g_name ?_; refine ⟨rfl, ?_⟩; obtain ⟨t82, e83, hb67⟩ := bindS hb67; obtain ⟨rfl, rfl⟩ := Prod.mk.inj (Option.some.inj hb67); refine lc_yes ?_; exact (ev_T2 (ea_cons (ev_fst (ev_ix (ev_seqT (ev_var rfl h64)) (ev_int (i := 0)) e83)) (ea_cons (ev_int (i := 1)) ea_nil))) B59 H60 (Ex.refl _) w62 _ fun v76 B77 H78 x79 w80 h81 => qY74 v76 B77 H78 _ rfl x79 w80 h81))) fun v89 B88 H88 x88 (w88 : Own K B88 M [] H88) h90 => ?_
    obtain ⟨t92, e93, hm⟩ := bindS hm
    obtain ⟨t94, e95, hm⟩ := bindS hm
    refine q_asg (n := 7) w88 (ev_call (ea_cons (ev_var rfl (((rTup (rTup (rT2 rInt (rTup (rT2 rInt rInt)))))).mono ((x19.trans x55).trans x88) h14)) (ea_cons (ev_var rfl (((rLst rInt)).mono x88 h57)) (ea_cons (ev_frz (el_rep (el_lst (r := (rT2 rInt rInt)) [((0 : Int), (1 : Int))] (ea_cons (ev_k i_ZERO) ea_nil)) (fun p91 => (ev_len (ev_seqT (ev_var rfl (((rTup (rTup (rT2 rInt (rTup (rT2 rInt rInt)))))).mono (((x12.trans x19).trans x55).trans x88) f0))))) e93)) (ea_cons (ev_var rfl h90) ea_nil)))) ⟨_, _, _, _, _, rfl, rfl, e95, rfl, rfl⟩) fun v97 B96 H96 x96 (w96 : Own K B96 M [] H96) h98 => ?_
    obtain ⟨t99, e100, hm⟩ := bindS hm
    obtain ⟨t130, e131, hm⟩ := bindS hm
    obtain ⟨t132, e133, hm⟩ := bindS hm
    replace hm : some _ = some _ := hm
    obtain rfl := Option.some.inj hm
    exact q_ret w96 (ev_frz (el_lc (S := Unit) (ys := t132.1) (s1 := t132.2) (s0 := ()) (σ' := [some u0, some u1, some u2, some v13, some v20, some v56, some v89, some v97, none, none]) (rOpt (rT2 rInt rInt)) (ei_rng1 (ea_cons (ev_len (ev_seqT (ev_var rfl (((rTup (rTup (rT2 rInt (rTup (rT2 rInt rInt)))))).mono ((((x12.trans x19).trans x55).trans x88).trans x96) f0)))) ea_nil) e100) _ (fun (s101 : Unit) => []) rfl e133 e131 rfl (by rintro s101 x108 o113 s114 v106 D111 a112 B102 H103 hb110 x104 w105 h107 PY115 PN116 qY117 qN118; replace w105 : Own K B102 M [⟨D111, (cLst (rOpt (rT2 rInt rInt))), a112⟩] H103 := w105; refine g_name ?_; refine ⟨rfl, ?_⟩; obtain ⟨t127, e128, hb110⟩ := bindS hb110; obtain ⟨rfl, rfl⟩ := Prod.mk.inj (Option.some.inj hb110); refine lc_yes ?_; exact (ev_if (r := (rOpt (rT2 rInt rInt))) (a := t127) (L2 := [⟨D111, (cLst (rOpt (rT2 rInt rInt))), a112⟩]) (et_test (ev_inI (ev_varI rfl h107) (ev_seqL (ev_var rfl (((rLst rInt)).mono (((x55.trans x88).trans x96).trans x104) h21))))) (fun hb129 => by rw [if_pos hb129] at e128; obtain ⟨t125, e126, e128⟩ := bindS e128; obtain rfl := Option.some.inj e128; exact (ev_sm (ev_ix (ev_seqL (ev_var rfl (((rLst (rT2 rInt rInt))).mono x104 h98))) (ev_varI rfl h107) e126))) (fun hb129 => by rw [if_neg (by rw [hb129]; exact Bool.false_ne_true)] at e128; obtain rfl := Option.some.inj e128; exact (ev_non (r := (rT2 rInt rInt))))) B102 H103 (Ex.refl _) w105 _ fun v119 B120 H121 x122 w123 h124 => qY117 v119 B120 H121 _ rfl x122 w123 h124))) fun v9 B9 H9 x9 w9 h9 => k _ _ _ (((((x12.trans x19).trans x55).trans x88).trans x96).trans x9) w9 h9
noncomputable def m_l_ends (a0 : ((List Int) × Int)) (a1 : Int) : Option ((List (Int × Int)) × ((List Int) × Int)) :=
  Option.bind (m_l_take a0 a1) fun t12 =>
  Option.bind (small62 a1) fun t17 =>
  Option.bind (foldO (S := ((List (Int × Int)) × ((List Int) × Int))) (α := Int) (fun (s19 : ((List (Int × Int)) × ((List Int) × Int))) (x20 : Int) => (
    Option.bind ((if (decide (x20 = t12.1)) = true then (some (true, s19.2)) else (Option.bind (m_l_take s19.2 ((3 : Int))) fun t39 => some ((decide (t39.1 = (0 : Int))), t39.2)))) fun t41 =>
    Option.bind (if t41.1 = true then
      Option.bind (m_l_take t41.2 ((6 : Int))) fun t48 =>
      Option.bind (ixL ([(1 : Int), (1 : Int), (2 : Int), (3 : Int), (10 : Int), (1000 : Int)]) t48.1) fun t50 =>
      Option.bind (room s19.1.length) fun t52 =>
      some (((s19.1 ++ [(x20, t50)]), t48.2))
    else
      some ((s19.1, t41.2))
    ) fun (s45 : ((List (Int × Int)) × ((List Int) × Int))) =>
    some ((s45.1, s45.2))
  )) ((([] : List (Int × Int)), t12.2)) ((rng 0 a1))) fun s58 =>
  some (s58.1, s58.2)
def C__law_ends : List Arg → List Cell → Arg → List Cell → Prop := fun as L r L' => ∃ a0 a1 p0 c, as = [⟨rRef, p0⟩, ⟨rInt, a1⟩] ∧ L = [⟨p0, (cL2 (rLst rInt) rInt), a0⟩] ∧ m_l_ends a0 a1 = some c ∧ r = ⟨(rTup (rT2 rInt rInt)), c.1⟩ ∧ L' = [⟨p0, (cL2 (rLst rInt) rInt), c.2⟩]
theorem sc__law_ends : FnScope ["_law_state", "_law_many", "_law_ends_here", "_law_first", "_law_goal"] ["_law_state", "_law_many"] (defScope s__law_ends) := ⟨rfl, rfl, rfl, by decide +kernel, rfl, by decide +kernel, by decide +kernel⟩
set_option maxHeartbeats 0 in
theorem ok__law_ends (F : FunC K "_law_ends" s__law_ends f fd cc) (c__law_take : Cl P w K mg base 2 "_law_take" (spV K T C__law_take) []) (z_range : mg "range" = none) (z_tuple : mg "tuple" = none) : FnOk P w K mg base CX0 3 f fd ["_law_state", "_law_many"] (spV K T C__law_ends) := by
  refine F.ok sc__law_ends (fun vs H Q E h => ?_) (fun A outer s H vs Q E hr h => ?_)
  · obtain ⟨B, M, L, as, r, L', hT, w, ha, ⟨_, _, _, _, rfl, _⟩, k⟩ := h
    exact args_len ha
  · skip
    obtain ⟨B, M, L, as, r, L', rfl, w, ha, ⟨a0, a1, p0, c, rfl, rfl, hm, rfl, rfl⟩, k⟩ := h
    obtain ⟨u0, u1, rfl, f0, f1⟩ := args2 ha
    replace f0 : u0 = V.ref p0 := f0
    subst f0
    replace f1 : (rInt).is K B u1 a1 := f1
    unfold m_l_ends at hm
    refine ⟨_, (pss_cons (ps_set (i := 2) sc__law_ends.nd rfl (by first | exact Or.inl rfl | exact Or.inr rfl) (pe_lst pa_nil)) (pss_cons (ps_set (i := 3) sc__law_ends.nd rfl (by first | exact Or.inl rfl | exact Or.inr rfl) (pe_c c__law_take hr (by omega) rfl (pa_cons (pv 0) (pa_cons (pv 1) pa_nil)))) (pss_cons (ps_for PassesOwn.never rfl (pi_range1 rfl z_range (pa_cons (pv 1) pa_nil)) (pg_name (i := 4) sc__law_ends.nd rfl (by first | exact Or.inl rfl | exact Or.inr rfl)) (Evl.pss_cut (ps_if (PW.pt (pw_or (pt_cmpR op_eq (pv 4) (pv 3) (nomark _)) (pw_or1 (pt_cmpR op_eq (pe_c c__law_take hr (by omega) rfl (pa_cons (pv 0) (pa_cons pe_int pa_nil))) pe_int (nomark _))))) (pss_cons (ps_expr (pe_bm PySem.F.plainAttrs_list PySem.F.slot_list_append PySem.F.type_list_append mt_append (pv 2) (pa_cons (pe_tup (pa_cons (pv 4) (pa_cons (pe_ix ix_seq (pe_lst (pa_cons pe_int (pa_cons pe_int (pa_cons pe_int (pa_cons pe_int (pa_cons pe_int (pa_cons pe_int pa_nil))))))) (pe_c c__law_take hr (by omega) rfl (pa_cons (pv 0) (pa_cons pe_int pa_nil))) (fun _ _ => rfl)) pa_nil))) pa_nil))) pss_nil) pss_nil) pss_nil)) (pss_cons (ps_ret (pe_callTy call_tuple_of rfl z_tuple bt_tuple (pa_cons (pv 2) pa_nil))) pss_nil)))), ?_⟩
    rw [show start ["_law_state", "_law_many", "_law_ends_here", "_law_first", "_law_goal"] [.ref p0, u1] = ([some (.ref p0), some u1, none, none, none] : L2.St) from rfl]
    refine q_asgL (n := 2) w (el_lst (r := (rT2 rInt rInt)) ([] : List (Int × Int)) ea_nil) fun p11 B10 H10 x10 (w10 : Own K B10 M [⟨p11, (cLst (rT2 rInt rInt)), ([] : List (Int × Int))⟩, ⟨p0, (cL2 (rLst rInt) rInt), a0⟩] H10) => ?_
    obtain ⟨t12, e13, hm⟩ := bindS hm
    refine q_asg (n := 3) w10 (ev_callC 1 (x := ⟨p0, (cL2 (rLst rInt) rInt), a0⟩) (x' := ⟨p0, (cL2 (rLst rInt) rInt), t12.2⟩) (ea_cons (ev_varR rfl) (ea_cons (ev_varI rfl f1) ea_nil)) rfl ⟨_, _, _, _, rfl, rfl, e13, rfl, rfl⟩ rfl) fun v15 B14 H14 x14 (w14 : Own K B14 M [⟨p11, (cLst (rT2 rInt rInt)), ([] : List (Int × Int))⟩, ⟨p0, (cL2 (rLst rInt) rInt), t12.2⟩] H14) h16 => ?_
    obtain ⟨t17, e18, hm⟩ := bindS hm
    obtain ⟨s58, e23, hm⟩ := bindS hm
    refine q_fold w14 (ei_rng1 (ea_cons (ev_varI rfl f1) ea_nil) e18) _ (fun s19 B24 σ37 => ∃ o38, σ37 = [some (.ref p0), some u1, some (.ref p11), some v15, o38]) (fun s19 => [⟨p11, (cLst (rT2 rInt rInt)), s19.1⟩, ⟨p0, (cL2 (rLst rInt) rInt), s19.2⟩]) ((([] : List (Int × Int)), t12.2)) e23 (fun B9 x9 => ⟨_, rfl⟩) rfl ?_ ?_
    · skip
      rintro s19 x20 s65 v30 B24 B25 H26 σ37 hb21 x27 ⟨o38, rfl⟩ x28 w29 h31 N32 K33 hN34
      replace w29 : Own K B25 M [⟨p11, (cLst (rT2 rInt rInt)), s19.1⟩, ⟨p0, (cL2 (rLst rInt) rInt), s19.2⟩] H26 := w29
      refine g_name ?_
      obtain ⟨t41, e42, hb21⟩ := bindS hb21
      obtain ⟨s45, e46, hb21⟩ := bindS hb21
      refine q_cut (fun σ57 H56 => ∃ B56, Ex B25 B56 ∧ Own K B56 M [⟨p11, (cLst (rT2 rInt rInt)), s45.1⟩, ⟨p0, (cL2 (rLst rInt) rInt), s45.2⟩] H56 ∧ σ57 = [some (.ref p0), some u1, some (.ref p11), some v15, some v30]) ?_ ?_
      · skip
        refine q_ifc w29 (et_or' (d := t41.1) (et_test (ev_eqI (ev_varI rfl h31) (ev_varI rfl h16))) (fun hb43 => by rw [if_neg (by rw [hb43]; exact Bool.false_ne_true)] at e42; obtain ⟨t39, e40, e42⟩ := bindS e42; obtain rfl := Option.some.inj e42; exact (et_test (ev_eqI (ev_callC 1 (x := ⟨p0, (cL2 (rLst rInt) rInt), s19.2⟩) (x' := ⟨p0, (cL2 (rLst rInt) rInt), t39.2⟩) (ea_cons (ev_varR rfl) (ea_cons (ev_int (i := 3)) ea_nil)) rfl ⟨_, _, _, _, rfl, rfl, e40, rfl, rfl⟩ rfl) (ev_int (i := 0))))) (fun hb43 => by rw [if_pos hb43] at e42; obtain rfl := Option.some.inj e42; exact ⟨rfl, rfl⟩)) (fun hb44 B47 H47 x47 (w47 : Own K B47 M [⟨p11, (cLst (rT2 rInt rInt)), s19.1⟩, ⟨p0, (cL2 (rLst rInt) rInt), t41.2⟩] H47) => ?_) (fun hb44 B55 H55 x55 (w55 : Own K B55 M [⟨p11, (cLst (rT2 rInt rInt)), s19.1⟩, ⟨p0, (cL2 (rLst rInt) rInt), t41.2⟩] H55) => ?_)
        · skip
          rw [if_pos hb44] at e46
          obtain ⟨t48, e49, e46⟩ := bindS e46
          obtain ⟨t50, e51, e46⟩ := bindS e46
          obtain ⟨t52, e53, e46⟩ := bindS e46
          refine q_app (n := 0) (m := 2) w47 rfl (ev_T2 (ea_cons (ev_varI rfl h31) (ea_cons (ev_ix (ev_seqL (ev_frz (el_lst (r := rInt) [(1 : Int), (1 : Int), (2 : Int), (3 : Int), (10 : Int), (1000 : Int)] (ea_cons (ev_int (i := 1)) (ea_cons (ev_int (i := 1)) (ea_cons (ev_int (i := 2)) (ea_cons (ev_int (i := 3)) (ea_cons (ev_int (i := 10)) (ea_cons (ev_int (i := 1000)) ea_nil))))))))) (ev_callC 1 (x := ⟨p0, (cL2 (rLst rInt) rInt), t41.2⟩) (x' := ⟨p0, (cL2 (rLst rInt) rInt), t48.2⟩) (ea_cons (ev_varR rfl) (ea_cons (ev_int (i := 6)) ea_nil)) rfl ⟨_, _, _, _, rfl, rfl, e49, rfl, rfl⟩ rfl) e51) ea_nil))) rfl ⟨0, _, rfl⟩ e53 fun B54 H54 x54 (w54 : Own K B54 M [⟨p11, (cLst (rT2 rInt rInt)), (s19.1 ++ [(x20, t50)])⟩, ⟨p0, (cL2 (rLst rInt) rInt), t48.2⟩] H54) => ?_
          replace e46 : some _ = some _ := e46
          cases e46
          exact ⟨_, (x47.trans x54), w54, rfl⟩
        rw [if_neg (by rw [hb44]; exact Bool.false_ne_true)] at e46
        replace e46 : some _ = some _ := e46
        cases e46
        exact ⟨_, x55, w55, rfl⟩
      rintro σ57' H56 ⟨B56, x56, w56, rfl⟩
      replace hb21 : some _ = some _ := hb21
      cases hb21
      exact hN34 _ _ _ x56 w56 ⟨_, rfl⟩
    rintro B59 H60 σ63 x61 w62 ⟨o64, rfl⟩
    replace w62 : Own K B59 M [⟨p11, (cLst (rT2 rInt rInt)), s58.1⟩, ⟨p0, (cL2 (rLst rInt) rInt), s58.2⟩] H60 := w62
    replace hm : some _ = some _ := hm
    obtain rfl := Option.some.inj hm
    exact q_ret w62 (ev_tupOfC (n := 0) (ev_varR rfl) rfl) fun v9 B9 H9 x9 w9 h9 => k _ _ _ (((x10.trans x14).trans x61).trans x9) w9.tail h9
noncomputable def m_l_choices (a0 : ((List Int) × Int)) (a1 : Int) (a2 : Int) : Option ((List (Int × (List (Int × Int)))) × ((List Int) × Int)) :=
  Option.bind (m_l_take a0 a2) fun t12 =>
  Option.bind (small62 (((1 : Int) + t12.1))) fun t14 =>
  Option.bind (foldO (S := ((List (Int × (List (Int × Int)))) × ((List Int) × Int))) (α := Int) (fun (s16 : ((List (Int × (List (Int × Int)))) × ((List Int) × Int))) (x17 : Int) => (
    Option.bind (m_l_take s16.2 ((5 : Int))) fun t36 =>
    Option.bind (ixL ([(0 : Int), (1 : Int), (2 : Int), (5 : Int), (1000 : Int)]) t36.1) fun t38 =>
    Option.bind (m_l_ends t36.2 a1) fun t40 =>
    Option.bind (room s16.1.length) fun t42 =>
    some (((s16.1 ++ [(t38, t40.1)]), t40.2))
  )) ((([] : List (Int × (List (Int × Int)))), t12.2)) ((rng 0 (((1 : Int) + t12.1))))) fun s45 =>
  some (s45.1, s45.2)
def C__law_choices : List Arg → List Cell → Arg → List Cell → Prop := fun as L r L' => ∃ a0 a1 a2 p0 c, as = [⟨rRef, p0⟩, ⟨rInt, a1⟩, ⟨rInt, a2⟩] ∧ L = [⟨p0, (cL2 (rLst rInt) rInt), a0⟩] ∧ m_l_choices a0 a1 a2 = some c ∧ r = ⟨(rTup (rT2 rInt (rTup (rT2 rInt rInt)))), c.1⟩ ∧ L' = [⟨p0, (cL2 (rLst rInt) rInt), c.2⟩]
theorem sc__law_choices : FnScope ["_law_state", "_law_many", "_law_most", "_law_choices_here", "_law_k"] ["_law_state", "_law_many", "_law_most"] (defScope s__law_choices) := ⟨rfl, rfl, rfl, by decide +kernel, rfl, by decide +kernel, by decide +kernel⟩
set_option maxHeartbeats 0 in
theorem ok__law_choices (F : FunC K "_law_choices" s__law_choices f fd cc) (c__law_take : Cl P w K mg base 2 "_law_take" (spV K T C__law_take) []) (c__law_ends : Cl P w K mg base 3 "_law_ends" (spV K T C__law_ends) []) (z_range : mg "range" = none) (z_tuple : mg "tuple" = none) : FnOk P w K mg base CX0 4 f fd ["_law_state", "_law_many", "_law_most"] (spV K T C__law_choices) := by
  refine F.ok sc__law_choices (fun vs H Q E h => ?_) (fun A outer s H vs Q E hr h => ?_)
  · obtain ⟨B, M, L, as, r, L', hT, w, ha, ⟨_, _, _, _, _, rfl, _⟩, k⟩ := h
    exact args_len ha
  · skip
    obtain ⟨B, M, L, as, r, L', rfl, w, ha, ⟨a0, a1, a2, p0, c, rfl, rfl, hm, rfl, rfl⟩, k⟩ := h
    obtain ⟨u0, u1, u2, rfl, f0, f1, f2⟩ := args3 ha
    replace f0 : u0 = V.ref p0 := f0
    subst f0
    replace f1 : (rInt).is K B u1 a1 := f1
    replace f2 : (rInt).is K B u2 a2 := f2
    unfold m_l_choices at hm
    refine ⟨_, (pss_cons (ps_set (i := 3) sc__law_choices.nd rfl (by first | exact Or.inl rfl | exact Or.inr rfl) (pe_lst pa_nil)) (pss_cons (ps_for PassesOwn.never rfl (pi_range1 rfl z_range (pa_cons (pe_op op_add pe_int (pe_c c__law_take hr (by omega) rfl (pa_cons (pv 0) (pa_cons (pv 2) pa_nil)))) pa_nil)) (pg_name (i := 4) sc__law_choices.nd rfl (by first | exact Or.inl rfl | exact Or.inr rfl)) (pss_cons (ps_expr (pe_bm PySem.F.plainAttrs_list PySem.F.slot_list_append PySem.F.type_list_append mt_append (pv 3) (pa_cons (pe_tup (pa_cons (pe_ix ix_seq (pe_lst (pa_cons pe_int (pa_cons pe_int (pa_cons pe_int (pa_cons pe_int (pa_cons pe_int pa_nil)))))) (pe_c c__law_take hr (by omega) rfl (pa_cons (pv 0) (pa_cons pe_int pa_nil))) (fun _ _ => rfl)) (pa_cons (pe_c c__law_ends hr (by omega) rfl (pa_cons (pv 0) (pa_cons (pv 1) pa_nil))) pa_nil))) pa_nil))) pss_nil)) (pss_cons (ps_ret (pe_callTy call_tuple_of rfl z_tuple bt_tuple (pa_cons (pv 3) pa_nil))) pss_nil))), ?_⟩
    rw [show start ["_law_state", "_law_many", "_law_most", "_law_choices_here", "_law_k"] [.ref p0, u1, u2] = ([some (.ref p0), some u1, some u2, none, none] : L2.St) from rfl]
    refine q_asgL (n := 3) w (el_lst (r := (rT2 rInt (rTup (rT2 rInt rInt)))) ([] : List (Int × (List (Int × Int)))) ea_nil) fun p11 B10 H10 x10 (w10 : Own K B10 M [⟨p11, (cLst (rT2 rInt (rTup (rT2 rInt rInt)))), ([] : List (Int × (List (Int × Int))))⟩, ⟨p0, (cL2 (rLst rInt) rInt), a0⟩] H10) => ?_
    obtain ⟨t12, e13, hm⟩ := bindS hm
    obtain ⟨t14, e15, hm⟩ := bindS hm
    obtain ⟨s45, e20, hm⟩ := bindS hm
    refine q_fold w10 (ei_rng1 (ea_cons (ev_add (ev_int (i := 1)) (ev_callC 1 (x := ⟨p0, (cL2 (rLst rInt) rInt), a0⟩) (x' := ⟨p0, (cL2 (rLst rInt) rInt), t12.2⟩) (ea_cons (ev_varR rfl) (ea_cons (ev_varI rfl f2) ea_nil)) rfl ⟨_, _, _, _, rfl, rfl, e13, rfl, rfl⟩ rfl)) ea_nil) e15) _ (fun s16 B21 σ34 => ∃ o35, σ34 = [some (.ref p0), some u1, some u2, some (.ref p11), o35]) (fun s16 => [⟨p11, (cLst (rT2 rInt (rTup (rT2 rInt rInt)))), s16.1⟩, ⟨p0, (cL2 (rLst rInt) rInt), s16.2⟩]) ((([] : List (Int × (List (Int × Int)))), t12.2)) e20 (fun B9 x9 => ⟨_, rfl⟩) rfl ?_ ?_
    · skip
      rintro s16 x17 s52 v27 B21 B22 H23 σ34 hb18 x24 ⟨o35, rfl⟩ x25 w26 h28 N29 K30 hN31
      replace w26 : Own K B22 M [⟨p11, (cLst (rT2 rInt (rTup (rT2 rInt rInt)))), s16.1⟩, ⟨p0, (cL2 (rLst rInt) rInt), s16.2⟩] H23 := w26
      refine g_name ?_
      obtain ⟨t36, e37, hb18⟩ := bindS hb18
      obtain ⟨t38, e39, hb18⟩ := bindS hb18
      obtain ⟨t40, e41, hb18⟩ := bindS hb18
      obtain ⟨t42, e43, hb18⟩ := bindS hb18
      refine q_app (n := 0) (m := 3) w26 rfl (ev_T2 (ea_cons (ev_ix (ev_seqL (ev_frz (el_lst (r := rInt) [(0 : Int), (1 : Int), (2 : Int), (5 : Int), (1000 : Int)] (ea_cons (ev_int (i := 0)) (ea_cons (ev_int (i := 1)) (ea_cons (ev_int (i := 2)) (ea_cons (ev_int (i := 5)) (ea_cons (ev_int (i := 1000)) ea_nil)))))))) (ev_callC 1 (x := ⟨p0, (cL2 (rLst rInt) rInt), s16.2⟩) (x' := ⟨p0, (cL2 (rLst rInt) rInt), t36.2⟩) (ea_cons (ev_varR rfl) (ea_cons (ev_int (i := 5)) ea_nil)) rfl ⟨_, _, _, _, rfl, rfl, e37, rfl, rfl⟩ rfl) e39) (ea_cons (ev_callC 1 (x := ⟨p0, (cL2 (rLst rInt) rInt), t36.2⟩) (x' := ⟨p0, (cL2 (rLst rInt) rInt), t40.2⟩) (ea_cons (ev_varR rfl) (ea_cons (ev_varI rfl f1) ea_nil)) rfl ⟨_, _, _, _, rfl, rfl, e41, rfl, rfl⟩ rfl) ea_nil))) rfl ⟨0, _, rfl⟩ e43 fun B44 H44 x44 (w44 : Own K B44 M [⟨p11, (cLst (rT2 rInt (rTup (rT2 rInt rInt)))), (s16.1 ++ [(t38, t40.1)])⟩, ⟨p0, (cL2 (rLst rInt) rInt), t40.2⟩] H44) => ?_
      replace hb18 : some _ = some _ := hb18
      cases hb18
      exact hN31 _ _ _ x44 w44 ⟨_, rfl⟩
    rintro B46 H47 σ50 x48 w49 ⟨o51, rfl⟩
    replace w49 : Own K B46 M [⟨p11, (cLst (rT2 rInt (rTup (rT2 rInt rInt)))), s45.1⟩, ⟨p0, (cL2 (rLst rInt) rInt), s45.2⟩] H47 := w49
    replace hm : some _ = some _ := hm
    obtain rfl := Option.some.inj hm
    exact q_ret w49 (ev_tupOfC (n := 0) (ev_varR rfl) rfl) fun v9 B9 H9 x9 w9 h9 => k _ _ _ ((x10.trans x48).trans x9) w9.tail h9
noncomputable def m_l_system (a0 : ((List Int) × Int)) (a1 : Int) : Option ((List (List (Int × (List (Int × Int))))) × ((List Int) × Int)) :=
  Option.bind (m_l_take a0 a1) fun t10 =>
  Option.bind (small62 (((1 : Int) + t10.1))) fun t15 =>
  Option.bind (room ((rng 0 (((1 : Int) + t10.1)))).length) fun t43 =>
  Option.bind (compM (S := ((List Int) × Int)) (β := (List (Int × (List (Int × Int))))) (fun (s17 : ((List Int) × Int)) (x24 : Int) => (Option.bind (m_l_choices s17 (((1 : Int) + t10.1)) ((3 : Int))) fun t41 => some (some t41.1, t41.2))) t10.2 ((rng 0 (((1 : Int) + t10.1))))) fun t45 =>
  some (t45.1, t45.2)
def C__law_system : List Arg → List Cell → Arg → List Cell → Prop := fun as L r L' => ∃ a0 a1 p0 c, as = [⟨rRef, p0⟩, ⟨rInt, a1⟩] ∧ L = [⟨p0, (cL2 (rLst rInt) rInt), a0⟩] ∧ m_l_system a0 a1 = some c ∧ r = ⟨(rTup (rTup (rT2 rInt (rTup (rT2 rInt rInt))))), c.1⟩ ∧ L' = [⟨p0, (cL2 (rLst rInt) rInt), c.2⟩]
theorem sc__law_system : FnScope ["_law_state", "_law_most", "_law_many", "_law_k"] ["_law_state", "_law_most"] (defScope s__law_system) := ⟨rfl, rfl, rfl, by decide +kernel, rfl, by decide +kernel, by decide +kernel⟩
set_option maxHeartbeats 0 in
theorem ok__law_system (F : FunC K "_law_system" s__law_system f fd cc) (c__law_take : Cl P w K mg base 2 "_law_take" (spV K T C__law_take) []) (c__law_choices : Cl P w K mg base 4 "_law_choices" (spV K T C__law_choices) []) (z_range : mg "range" = none) (z_tuple : mg "tuple" = none) : FnOk P w K mg base CX0 5 f fd ["_law_state", "_law_most"] (spV K T C__law_system) := by
  refine F.ok sc__law_system (fun vs H Q E h => ?_) (fun A outer s H vs Q E hr h => ?_)
  · obtain ⟨B, M, L, as, r, L', hT, w, ha, ⟨_, _, _, _, rfl, _⟩, k⟩ := h
    exact args_len ha
  · skip
    obtain ⟨B, M, L, as, r, L', rfl, w, ha, ⟨a0, a1, p0, c, rfl, rfl, hm, rfl, rfl⟩, k⟩ := h
    obtain ⟨u0, u1, rfl, f0, f1⟩ := args2 ha
    replace f0 : u0 = V.ref p0 := f0
    subst f0
    replace f1 : (rInt).is K B u1 a1 := f1
    unfold m_l_system at hm
    refine ⟨_, (pss_cons (ps_set (i := 2) sc__law_system.nd rfl (by first | exact Or.inl rfl | exact Or.inr rfl) (pe_op op_add pe_int (pe_c c__law_take hr (by omega) rfl (pa_cons (pv 0) (pa_cons (pv 1) pa_nil))))) (pss_cons (ps_ret (pe_callTy call_tuple_of rfl z_tuple bt_tuple (pa_cons (pe_lc rfl sc__law_system.nd (pi_range1 rfl z_range (pa_cons (pv 2) pa_nil)) (blkOk_by (own := [("_law_k", 3)]) (show blkC ["_law_state", "_law_most", "_law_many", "_law_k"] (defScope s__law_system) _ _ = true by decide +kernel)) (fun _ _ _ _ _ => (pg_name (i := 3) sc__law_system.nd rfl (by first | exact Or.inl rfl | exact Or.inr rfl))) (fun _ _ _ _ _ => pts_nil) (fun _ _ _ _ _ => (pe_c c__law_choices hr (by omega) rfl (pa_cons (pv 0) (pa_cons (pv 2) (pa_cons pe_int pa_nil)))))) pa_nil))) pss_nil)), ?_⟩
    rw [show start ["_law_state", "_law_most", "_law_many", "_law_k"] [.ref p0, u1] = ([some (.ref p0), some u1, none, none] : L2.St) from rfl]
    obtain ⟨t10, e11, hm⟩ := bindS hm
    refine q_asg (n := 2) w (ev_add (ev_int (i := 1)) (ev_callC 0 (x := ⟨p0, (cL2 (rLst rInt) rInt), a0⟩) (x' := ⟨p0, (cL2 (rLst rInt) rInt), t10.2⟩) (ea_cons (ev_varR rfl) (ea_cons (ev_varI rfl f1) ea_nil)) rfl ⟨_, _, _, _, rfl, rfl, e11, rfl, rfl⟩ rfl)) fun v13 B12 H12 x12 (w12 : Own K B12 M [⟨p0, (cL2 (rLst rInt) rInt), t10.2⟩] H12) h14 => ?_
    obtain ⟨t15, e16, hm⟩ := bindS hm
    obtain ⟨t43, e44, hm⟩ := bindS hm
    obtain ⟨t45, e46, hm⟩ := bindS hm
    replace hm : some _ = some _ := hm
    obtain rfl := Option.some.inj hm
    exact q_ret w12 (ev_tupOfL (ev_frz (el_lc (S := ((List Int) × Int)) (ys := t45.1) (s1 := t45.2) (s0 := t10.2) (σ' := [some (.ref p0), some u1, some v13, none]) (rTup (rT2 rInt (rTup (rT2 rInt rInt)))) (ei_rng1 (ea_cons (ev_varI rfl h14) ea_nil) e16) _ (fun (s17 : ((List Int) × Int)) => [⟨p0, (cL2 (rLst rInt) rInt), s17⟩]) rfl e46 e44 rfl (by rintro s17 x24 o29 s30 v22 D27 a28 B18 H19 hb26 x20 w21 h23 PY31 PN32 qY33 qN34; replace w21 : Own K B18 M [⟨D27, (cLst (rTup (rT2 rInt (rTup (rT2 rInt rInt))))), a28⟩, ⟨p0, (cL2 (rLst rInt) rInt), s17⟩] H19 := w21; refine g_name ?_; refine ⟨rfl, ?_⟩; obtain ⟨t41, e42, hb26⟩ := bindS hb26; obtain ⟨rfl, rfl⟩ := Prod.mk.inj (Option.some.inj hb26); refine lc_yes ?_; exact (ev_callC 1 (x := ⟨p0, (cL2 (rLst rInt) rInt), s17⟩) (x' := ⟨p0, (cL2 (rLst rInt) rInt), t41.2⟩) (ea_cons (ev_varR rfl) (ea_cons (ev_varI rfl h14) (ea_cons (ev_int (i := 3)) ea_nil))) rfl ⟨_, _, _, _, _, rfl, rfl, e42, rfl, rfl⟩ rfl) B18 H19 (Ex.refl _) w21 _ fun v35 B36 H37 x38 w39 h40 => qY33 v35 B36 H37 _ rfl x38 w39 h40)))) fun v9 B9 H9 x9 w9 h9 => k _ _ _ (x12.trans x9) w9 h9
noncomputable def m_l_some (a0 : ((List Int) × Int)) (a1 : Int) (a2 : Int) : Option ((List Int) × ((List Int) × Int)) :=
  Option.bind (small62 a1) fun t10 =>
  Option.bind (room ((rng 0 a1)).length) fun t43 =>
  Option.bind (compM (S := ((List Int) × Int)) (β := Int) (fun (s12 : ((List Int) × Int)) (x19 : Int) => (Option.bind (m_l_take s12 a2) fun t36 => if (decide (t36.1 = (0 : Int))) = true then ( some (some x19, t36.2)) else some (none, t36.2))) a0 ((rng 0 a1))) fun t45 =>
  Option.bind (m_l_take t45.2 ((2 : Int))) fun t50 =>
  Option.bind (if (decide (t50.1 = (0 : Int))) = true then
    some ((t45.1.reverse, t50.2))
  else
    some ((t45.1, t50.2))
  ) fun (s53 : ((List Int) × ((List Int) × Int))) =>
  some (s53.1, s53.2)
def C__law_some : List Arg → List Cell → Arg → List Cell → Prop := fun as L r L' => ∃ a0 a1 a2 p0 c, as = [⟨rRef, p0⟩, ⟨rInt, a1⟩, ⟨rInt, a2⟩] ∧ L = [⟨p0, (cL2 (rLst rInt) rInt), a0⟩] ∧ m_l_some a0 a1 a2 = some c ∧ r = ⟨(rLst rInt), c.1⟩ ∧ L' = [⟨p0, (cL2 (rLst rInt) rInt), c.2⟩]
theorem sc__law_some : FnScope ["_law_state", "_law_many", "_law_share", "_law_found", "_law_k"] ["_law_state", "_law_many", "_law_share"] (defScope s__law_some) := ⟨rfl, rfl, rfl, by decide +kernel, rfl, by decide +kernel, by decide +kernel⟩
set_option maxHeartbeats 0 in
theorem ok__law_some (F : FunC K "_law_some" s__law_some f fd cc) (c__law_take : Cl P w K mg base 2 "_law_take" (spV K T C__law_take) []) (z_range : mg "range" = none) : FnOk P w K mg base CX0 3 f fd ["_law_state", "_law_many", "_law_share"] (spV K T C__law_some) := by
  refine F.ok sc__law_some (fun vs H Q E h => ?_) (fun A outer s H vs Q E hr h => ?_)
  · obtain ⟨B, M, L, as, r, L', hT, w, ha, ⟨_, _, _, _, _, rfl, _⟩, k⟩ := h
    exact args_len ha
  · skip
    obtain ⟨B, M, L, as, r, L', rfl, w, ha, ⟨a0, a1, a2, p0, c, rfl, rfl, hm, rfl, rfl⟩, k⟩ := h
    obtain ⟨u0, u1, u2, rfl, f0, f1, f2⟩ := args3 ha
    replace f0 : u0 = V.ref p0 := f0
    subst f0
    replace f1 : (rInt).is K B u1 a1 := f1
    replace f2 : (rInt).is K B u2 a2 := f2
    unfold m_l_some at hm
    refine ⟨_, (pss_cons (ps_setLc (i := 3) rfl sc__law_some.nd rfl rfl rfl (pi_range1 rfl z_range (pa_cons (pv 1) pa_nil)) (blkOk_by (own := [("_law_k", 4)]) (show blkC ["_law_state", "_law_many", "_law_share", "_law_found", "_law_k"] (defScope s__law_some) _ _ = true by decide +kernel)) (fun _ _ _ _ _ => (pg_name (i := 4) sc__law_some.nd rfl (by first | exact Or.inl rfl | exact Or.inr rfl))) (fun _ _ _ _ _ => (pts_one (pt_cmpR op_eq (pe_c c__law_take hr (by omega) rfl (pa_cons (pv 0) (pa_cons (pv 2) pa_nil))) pe_int (nomark _)))) (fun _ _ _ _ _ => (pv 4))) (Evl.pss_cut (ps_if (pt_cmpR op_eq (pe_c c__law_take hr (by omega) rfl (pa_cons (pv 0) (pa_cons pe_int pa_nil))) pe_int (nomark _)) (pss_cons (ps_set (i := 3) sc__law_some.nd rfl (by first | exact Or.inl rfl | exact Or.inr rfl) (pe_revL (pv 3))) pss_nil) pss_nil) (pss_cons (ps_ret (pv 3)) pss_nil))), ?_⟩
    rw [show start ["_law_state", "_law_many", "_law_share", "_law_found", "_law_k"] [.ref p0, u1, u2] = ([some (.ref p0), some u1, some u2, none, none] : L2.St) from rfl]
    obtain ⟨t10, e11, hm⟩ := bindS hm
    obtain ⟨t43, e44, hm⟩ := bindS hm
    obtain ⟨t45, e46, hm⟩ := bindS hm
    refine q_asg (n := 3) w (ev_frz (el_lc (S := ((List Int) × Int)) (ys := t45.1) (s1 := t45.2) (s0 := a0) (σ' := [some (.ref p0), some u1, some u2, none, none]) rInt (ei_rng1 (ea_cons (ev_varI rfl f1) ea_nil) e11) _ (fun (s12 : ((List Int) × Int)) => [⟨p0, (cL2 (rLst rInt) rInt), s12⟩]) rfl e46 e44 rfl (by rintro s12 x19 o24 s25 v17 D22 a23 B13 H14 hb21 x15 w16 h18 PY26 PN27 qY28 qN29; replace w16 : Own K B13 M [⟨D22, (cLst rInt), a23⟩, ⟨p0, (cL2 (rLst rInt) rInt), s12⟩] H14 := w16; refine g_name ?_; refine ⟨rfl, ?_⟩; obtain ⟨t36, e37, hb21⟩ := bindS hb21; exact (et_test (ev_eqI (ev_callC 1 (x := ⟨p0, (cL2 (rLst rInt) rInt), s12⟩) (x' := ⟨p0, (cL2 (rLst rInt) rInt), t36.2⟩) (ea_cons (ev_varR rfl) (ea_cons (ev_varI rfl f2) ea_nil)) rfl ⟨_, _, _, _, rfl, rfl, e37, rfl, rfl⟩ rfl) (ev_int (i := 0)))) B13 H14 (Ex.refl _) w16 _ fun B38 H39 x40 (w41 : Own K B38 M [⟨D22, (cLst rInt), a23⟩, ⟨p0, (cL2 (rLst rInt) rInt), t36.2⟩] H39) => lc_if (fun hq42 => by rw [if_pos hq42] at hb21; obtain ⟨rfl, rfl⟩ := Prod.mk.inj (Option.some.inj hb21); exact (ev_varI rfl h18) B38 H39 (Ex.refl _) w41 _ fun v30 B31 H32 x33 w34 h35 => qY28 v30 B31 H32 _ rfl (x40.trans x33) w34 h35) (fun hq42 => by rw [if_neg (by rw [hq42]; exact Bool.false_ne_true)] at hb21; obtain ⟨rfl, rfl⟩ := Prod.mk.inj (Option.some.inj hb21); exact qN29 B38 H39 rfl x40 w41)))) fun v48 B47 H47 x47 (w47 : Own K B47 M [⟨p0, (cL2 (rLst rInt) rInt), t45.2⟩] H47) h49 => ?_
    obtain ⟨t50, e51, hm⟩ := bindS hm
    obtain ⟨s53, e54, hm⟩ := bindS hm
    refine q_cut (fun σ63 H60 => ∃ v61 B60, Ex B47 B60 ∧ Own K B60 M [⟨p0, (cL2 (rLst rInt) rInt), s53.2⟩] H60 ∧ σ63 = [some (.ref p0), some u1, some u2, some v61, none] ∧ ((rLst rInt)).is K B60 v61 s53.1) ?_ ?_
    · skip
      refine q_ifc w47 (et_test (ev_eqI (ev_callC 0 (x := ⟨p0, (cL2 (rLst rInt) rInt), t45.2⟩) (x' := ⟨p0, (cL2 (rLst rInt) rInt), t50.2⟩) (ea_cons (ev_varR rfl) (ea_cons (ev_int (i := 2)) ea_nil)) rfl ⟨_, _, _, _, rfl, rfl, e51, rfl, rfl⟩ rfl) (ev_int (i := 0)))) (fun hb52 B55 H55 x55 (w55 : Own K B55 M [⟨p0, (cL2 (rLst rInt) rInt), t50.2⟩] H55) => ?_) (fun hb52 B59 H59 x59 (w59 : Own K B59 M [⟨p0, (cL2 (rLst rInt) rInt), t50.2⟩] H59) => ?_)
      · skip
        rw [if_pos hb52] at e54
        refine q_asg (n := 3) w55 (ev_frz (el_revL (ev_var rfl (((rLst rInt)).mono x55 h49)))) fun v57 B56 H56 x56 (w56 : Own K B56 M [⟨p0, (cL2 (rLst rInt) rInt), t50.2⟩] H56) h58 => ?_
        replace e54 : some _ = some _ := e54
        cases e54
        exact ⟨v57, _, (x55.trans x56), w56, rfl, h58⟩
      rw [if_neg (by rw [hb52]; exact Bool.false_ne_true)] at e54
      replace e54 : some _ = some _ := e54
      cases e54
      exact ⟨v48, _, x59, w59, rfl, (((rLst rInt)).mono x59 h49)⟩
    rintro σ63' H60 ⟨v61, B60, x60, w60, rfl, h62⟩
    replace hm : some _ = some _ := hm
    obtain rfl := Option.some.inj hm
    exact q_ret w60 (ev_var rfl h62) fun v9 B9 H9 x9 w9 h9 => k _ _ _ ((x47.trans x60).trans x9) w9 h9
noncomputable def m_l_ratio (a0 : Int) (a1 : Int) : Option (Int × Int) :=
  Option.bind (if (decide (a1 < (0 : Int))) = true then
    some ((((0 : Int) - a0), ((0 : Int) - a1)))
  else
    some ((a0, a1))
  ) fun (s11 : (Int × Int)) =>
  Option.bind (loopB (S := (Int × Int)) (α := Int) (fun (s33 : (Int × Int)) (x34 : Int) => (
    if (decide (s33.2 = (0 : Int))) = true then
      some (Stp.bk ((s33.1, s33.2)))
    else
      Option.bind (modI s33.1 s33.2) fun t61 =>
      some (Stp.nx ((s33.2, t61)))
  )) ((s11.2, (absI s11.1))) ((rng 0 ((2000 : Int))))) fun s72 =>
  Option.bind (divI s11.1 s72.1) fun t84 =>
  Option.bind (divI s11.2 s72.1) fun t86 =>
  some (t84, t86)
def C__law_ratio : List Arg → List Cell → Arg → List Cell → Prop := fun as L r L' => ∃ a0 a1 c, as = [⟨rInt, a0⟩, ⟨rInt, a1⟩] ∧ L = [] ∧ m_l_ratio a0 a1 = some c ∧ r = ⟨(rT2 rInt rInt), c⟩ ∧ L' = []
theorem sc__law_ratio : FnScope ["_law_n", "_law_d", "_law_a", "_law_b", "_law_k", "_law_rest"] ["_law_n", "_law_d"] (defScope s__law_ratio) := ⟨rfl, rfl, rfl, by decide +kernel, rfl, by decide +kernel, by decide +kernel⟩
set_option maxHeartbeats 0 in
theorem ok__law_ratio (F : FunC K "_law_ratio" s__law_ratio f fd cc) (z_abs : mg "abs" = none) (z_range : mg "range" = none) (z_int : mg "int" = none) : FnOk P w K mg base CX0 1 f fd ["_law_n", "_law_d"] (spV K T C__law_ratio) := by
  refine F.ok sc__law_ratio (fun vs H Q E h => ?_) (fun A outer s H vs Q E hr h => ?_)
  · obtain ⟨B, M, L, as, r, L', hT, w, ha, ⟨_, _, _, rfl, _⟩, k⟩ := h
    exact args_len ha
  · skip
    obtain ⟨B, M, L, as, r, L', rfl, w, ha, ⟨a0, a1, c, rfl, rfl, hm, rfl, rfl⟩, k⟩ := h
    obtain ⟨u0, u1, rfl, f0, f1⟩ := args2 ha
    replace f0 : (rInt).is K B u0 a0 := f0
    replace f1 : (rInt).is K B u1 a1 := f1
    unfold m_l_ratio at hm
    refine ⟨_, (Evl.pss_cut (ps_if (pt_cmpR op_lt (pv 1) pe_int (nomark _)) (pss_cons (ps_set (i := 0) sc__law_ratio.nd rfl (by first | exact Or.inl rfl | exact Or.inr rfl) (pe_op op_sub pe_int (pv 0))) (pss_cons (ps_set (i := 1) sc__law_ratio.nd rfl (by first | exact Or.inl rfl | exact Or.inr rfl) (pe_op op_sub pe_int (pv 1))) pss_nil)) pss_nil) (pss_cons (ps_set (i := 2) sc__law_ratio.nd rfl (by first | exact Or.inl rfl | exact Or.inr rfl) (pe_callB call_abs rfl z_abs bt_abs (pa_cons (pv 0) pa_nil))) (pss_cons (ps_set (i := 3) sc__law_ratio.nd rfl (by first | exact Or.inl rfl | exact Or.inr rfl) (pv 1)) (pss_cons (ps_for PassesOwn.never rfl (pi_range1 rfl z_range (pa_cons pe_int pa_nil)) (pg_name (i := 4) sc__law_ratio.nd rfl (by first | exact Or.inl rfl | exact Or.inr rfl)) (pss_cons (ps_if (pt_cmpR op_eq (pv 2) pe_int (nomark _)) (pss_cons ps_break pss_nil) pss_nil) (pss_cons (ps_set (i := 5) sc__law_ratio.nd rfl (by first | exact Or.inl rfl | exact Or.inr rfl) (pe_op op_mod (pe_callTy call_int1 rfl z_int bt_int (pa_cons (pv 3) pa_nil)) (pv 2))) (pss_cons (ps_set (i := 3) sc__law_ratio.nd rfl (by first | exact Or.inl rfl | exact Or.inr rfl) (pv 2)) (pss_cons (ps_set (i := 2) sc__law_ratio.nd rfl (by first | exact Or.inl rfl | exact Or.inr rfl) (pv 5)) pss_nil))))) (pss_cons (ps_ret (pe_tup (pa_cons (pe_op op_fdivW (pv 0) (pv 3)) (pa_cons (pe_op op_fdivW (pv 1) (pv 3)) pa_nil)))) pss_nil))))), ?_⟩
    rw [show start ["_law_n", "_law_d", "_law_a", "_law_b", "_law_k", "_law_rest"] [u0, u1] = ([some u0, some u1, none, none, none, none] : L2.St) from rfl]
    obtain ⟨s11, e12, hm⟩ := bindS hm
    refine q_cut (fun σ26 H21 => ∃ v22 v24 B21, Ex B B21 ∧ Own K B21 M [] H21 ∧ σ26 = [some v22, some v24, none, none, none, none] ∧ (rInt).is K B21 v22 s11.1 ∧ (rInt).is K B21 v24 s11.2) ?_ ?_
    · skip
      refine q_ifc w (et_test (ev_lt (ev_varI rfl f1) (ev_int (i := 0)))) (fun hb10 B13 H13 x13 (w13 : Own K B13 M [] H13) => ?_) (fun hb10 B20 H20 x20 (w20 : Own K B20 M [] H20) => ?_)
      · skip
        rw [if_pos hb10] at e12
        refine q_asg (n := 0) w13 (ev_sub (ev_int (i := 0)) (ev_varI rfl f0)) fun v15 B14 H14 x14 (w14 : Own K B14 M [] H14) h16 => ?_
        refine q_asg (n := 1) w14 (ev_sub (ev_int (i := 0)) (ev_varI rfl f1)) fun v18 B17 H17 x17 (w17 : Own K B17 M [] H17) h19 => ?_
        replace e12 : some _ = some _ := e12
        cases e12
        exact ⟨v15, v18, _, ((x13.trans x14).trans x17), w17, rfl, ((rInt).mono x17 h16), h19⟩
      rw [if_neg (by rw [hb10]; exact Bool.false_ne_true)] at e12
      replace e12 : some _ = some _ := e12
      cases e12
      exact ⟨u0, u1, _, x20, w20, rfl, ((rInt).mono x20 f0), ((rInt).mono x20 f1)⟩
    rintro σ26' H21 ⟨v22, v24, B21, x21, w21, rfl, h23, h25⟩
    refine q_asg (n := 2) w21 (ev_abs (ev_varI rfl h23)) fun v28 B27 H27 x27 (w27 : Own K B27 M [] H27) h29 => ?_
    refine q_asg (n := 3) w27 (ev_varI rfl h25) fun v31 B30 H30 x30 (w30 : Own K B30 M [] H30) h32 => ?_
    obtain ⟨s72, e37, hm⟩ := bindS hm
    refine q_forB w30 (ei_rng1 (ea_cons (ev_int (i := 2000)) ea_nil) (by decide)) _ (fun s33 B38 σ51 => ∃ v52 v54 o56 o57, σ51 = [some v22, some v24, some v54, some v52, o56, o57] ∧ (rInt).is K B38 v52 s33.1 ∧ (rInt).is K B38 v54 s33.2) (fun s33 => []) ((s11.2, (absI s11.1))) e37 (fun B9 x9 => ⟨v31, v28, _, _, rfl, ((rInt).mono x9 h32), ((rInt).mono x9 ((rInt).mono x30 h29))⟩) rfl ?_ ?_
    · skip
      rintro s33 x34 s88 v44 B38 B39 H40 σ51 hb35 x41 ⟨v52, v54, o56, o57, rfl, h53, h55⟩ x42 w43 h45 N46 K47 hN48 hB49
      replace w43 : Own K B39 M [] H40 := w43
      refine g_name ?_
      refine q_if w43 (et_test (ev_eqI (ev_varI rfl h55) (ev_int (i := 0)))) (fun hb58 B59 H59 x59 (w59 : Own K B59 M [] H59) => ?_) (fun hb58 B60 H60 x60 (w60 : Own K B60 M [] H60) => ?_)
      · skip
        rw [if_pos hb58] at hb35
        replace hb35 : some _ = some _ := hb35
        cases hb35
        exact hB49 _ _ _ _ rfl x59 w59 ⟨v52, v54, _, _, rfl, ((rInt).mono (x42.trans x59) h53), ((rInt).mono (x42.trans x59) h55)⟩
      rw [if_neg (by rw [hb58]; exact Bool.false_ne_true)] at hb35
      obtain ⟨t61, e62, hb35⟩ := bindS hb35
      refine q_asg (n := 5) w60 (ev_mod (ev_intI (ev_varI rfl h53)) (ev_varI rfl h55) e62) fun v64 B63 H63 x63 (w63 : Own K B63 M [] H63) h65 => ?_
      refine q_asg (n := 3) w63 (ev_varI rfl h55) fun v67 B66 H66 x66 (w66 : Own K B66 M [] H66) h68 => ?_
      refine q_asg (n := 2) w66 (ev_varI rfl h65) fun v70 B69 H69 x69 (w69 : Own K B69 M [] H69) h71 => ?_
      replace hb35 : some _ = some _ := hb35
      cases hb35
      exact hN48 _ _ _ _ rfl (((x60.trans x63).trans x66).trans x69) w69 ⟨v67, v70, _, _, rfl, ((rInt).mono x69 h68), h71⟩
    rintro B73 H74 σ77 x75 w76 ⟨v78, v80, o82, o83, rfl, h79, h81⟩
    replace w76 : Own K B73 M [] H74 := w76
    obtain ⟨t84, e85, hm⟩ := bindS hm
    obtain ⟨t86, e87, hm⟩ := bindS hm
    replace hm : some _ = some _ := hm
    obtain rfl := Option.some.inj hm
    exact q_ret w76 (ev_T2 (ea_cons (ev_div (ev_varI rfl h23) (ev_varI rfl h79) e85) (ea_cons (ev_div (ev_varI rfl h25) (ev_varI rfl h79) e87) ea_nil))) fun v9 B9 H9 x9 w9 h9 => k _ _ _ ((((x21.trans x27).trans x30).trans x75).trans x9) w9 h9
noncomputable def m_l_plus (a0 : (Int × Int)) (a1 : (Int × Int)) : Option (Int × Int) :=
  Option.bind (mulI a0.1 a1.2) fun t10 =>
  Option.bind (mulI a1.1 a0.2) fun t12 =>
  Option.bind (mulI a0.2 a1.2) fun t14 =>
  Option.bind (m_l_ratio ((t10 + t12)) t14) fun t16 =>
  some t16
def C__law_plus : List Arg → List Cell → Arg → List Cell → Prop := fun as L r L' => ∃ a0 a1 c, as = [⟨(rT2 rInt rInt), a0⟩, ⟨(rT2 rInt rInt), a1⟩] ∧ L = [] ∧ m_l_plus a0 a1 = some c ∧ r = ⟨(rT2 rInt rInt), c⟩ ∧ L' = []
theorem sc__law_plus : FnScope ["_law_a", "_law_b"] ["_law_a", "_law_b"] (defScope s__law_plus) := ⟨rfl, rfl, rfl, by decide +kernel, rfl, by decide +kernel, by decide +kernel⟩
set_option maxHeartbeats 0 in
theorem ok__law_plus (F : FunC K "_law_plus" s__law_plus f fd cc) (c__law_ratio : Cl P w K mg base 1 "_law_ratio" (spV K T C__law_ratio) []) : FnOk P w K mg base CX0 2 f fd ["_law_a", "_law_b"] (spV K T C__law_plus) := by
  refine F.ok sc__law_plus (fun vs H Q E h => ?_) (fun A outer s H vs Q E hr h => ?_)
  · obtain ⟨B, M, L, as, r, L', hT, w, ha, ⟨_, _, _, rfl, _⟩, k⟩ := h
    exact args_len ha
  · skip
    obtain ⟨B, M, L, as, r, L', rfl, w, ha, ⟨a0, a1, c, rfl, rfl, hm, rfl, rfl⟩, k⟩ := h
    obtain ⟨u0, u1, rfl, f0, f1⟩ := args2 ha
    replace f0 : ((rT2 rInt rInt)).is K B u0 a0 := f0
    replace f1 : ((rT2 rInt rInt)).is K B u1 a1 := f1
    unfold m_l_plus at hm
    refine ⟨_, (pss_cons (ps_ret (pe_c c__law_ratio hr (by omega) rfl (pa_cons (pe_op op_add (pe_op op_mulX (pe_ix ix_seq (pv 0) pe_int (fun _ _ => rfl)) (pe_ix ix_seq (pv 1) pe_int (fun _ _ => rfl))) (pe_op op_mulX (pe_ix ix_seq (pv 1) pe_int (fun _ _ => rfl)) (pe_ix ix_seq (pv 0) pe_int (fun _ _ => rfl)))) (pa_cons (pe_op op_mulX (pe_ix ix_seq (pv 0) pe_int (fun _ _ => rfl)) (pe_ix ix_seq (pv 1) pe_int (fun _ _ => rfl))) pa_nil)))) pss_nil), ?_⟩
    rw [show start ["_law_a", "_law_b"] [u0, u1] = ([some u0, some u1] : L2.St) from rfl]
    obtain ⟨t10, e11, hm⟩ := bindS hm
    obtain ⟨t12, e13, hm⟩ := bindS hm
    obtain ⟨t14, e15, hm⟩ := bindS hm
    obtain ⟨t16, e17, hm⟩ := bindS hm
    replace hm : some _ = some _ := hm
    obtain rfl := Option.some.inj hm
    exact q_ret w (ev_call (ea_cons (ev_add (ev_mul (ev_fst (ev_var rfl f0)) (ev_snd (ev_var rfl f1)) e11) (ev_mul (ev_fst (ev_var rfl f1)) (ev_snd (ev_var rfl f0)) e13)) (ea_cons (ev_mul (ev_snd (ev_var rfl f0)) (ev_snd (ev_var rfl f1)) e15) ea_nil)) ⟨_, _, _, rfl, rfl, e17, rfl, rfl⟩) fun v9 B9 H9 x9 w9 h9 => k _ _ _ ((Ex.refl _).trans x9) w9 h9
noncomputable def m_l_times (a0 : (Int × Int)) (a1 : (Int × Int)) : Option (Int × Int) :=
  Option.bind (mulI a0.1 a1.1) fun t10 =>
  Option.bind (mulI a0.2 a1.2) fun t12 =>
  Option.bind (m_l_ratio t10 t12) fun t14 =>
  some t14
def C__law_times : List Arg → List Cell → Arg → List Cell → Prop := fun as L r L' => ∃ a0 a1 c, as = [⟨(rT2 rInt rInt), a0⟩, ⟨(rT2 rInt rInt), a1⟩] ∧ L = [] ∧ m_l_times a0 a1 = some c ∧ r = ⟨(rT2 rInt rInt), c⟩ ∧ L' = []
theorem sc__law_times : FnScope ["_law_a", "_law_b"] ["_law_a", "_law_b"] (defScope s__law_times) := ⟨rfl, rfl, rfl, by decide +kernel, rfl, by decide +kernel, by decide +kernel⟩
set_option maxHeartbeats 0 in
theorem ok__law_times (F : FunC K "_law_times" s__law_times f fd cc) (c__law_ratio : Cl P w K mg base 1 "_law_ratio" (spV K T C__law_ratio) []) : FnOk P w K mg base CX0 2 f fd ["_law_a", "_law_b"] (spV K T C__law_times) := by
  refine F.ok sc__law_times (fun vs H Q E h => ?_) (fun A outer s H vs Q E hr h => ?_)
  · obtain ⟨B, M, L, as, r, L', hT, w, ha, ⟨_, _, _, rfl, _⟩, k⟩ := h
    exact args_len ha
  · skip
    obtain ⟨B, M, L, as, r, L', rfl, w, ha, ⟨a0, a1, c, rfl, rfl, hm, rfl, rfl⟩, k⟩ := h
    obtain ⟨u0, u1, rfl, f0, f1⟩ := args2 ha
    replace f0 : ((rT2 rInt rInt)).is K B u0 a0 := f0
    replace f1 : ((rT2 rInt rInt)).is K B u1 a1 := f1
    unfold m_l_times at hm
    refine ⟨_, (pss_cons (ps_ret (pe_c c__law_ratio hr (by omega) rfl (pa_cons (pe_op op_mulX (pe_ix ix_seq (pv 0) pe_int (fun _ _ => rfl)) (pe_ix ix_seq (pv 1) pe_int (fun _ _ => rfl))) (pa_cons (pe_op op_mulX (pe_ix ix_seq (pv 0) pe_int (fun _ _ => rfl)) (pe_ix ix_seq (pv 1) pe_int (fun _ _ => rfl))) pa_nil)))) pss_nil), ?_⟩
    rw [show start ["_law_a", "_law_b"] [u0, u1] = ([some u0, some u1] : L2.St) from rfl]
    obtain ⟨t10, e11, hm⟩ := bindS hm
    obtain ⟨t12, e13, hm⟩ := bindS hm
    obtain ⟨t14, e15, hm⟩ := bindS hm
    replace hm : some _ = some _ := hm
    obtain rfl := Option.some.inj hm
    exact q_ret w (ev_call (ea_cons (ev_mul (ev_fst (ev_var rfl f0)) (ev_fst (ev_var rfl f1)) e11) (ea_cons (ev_mul (ev_snd (ev_var rfl f0)) (ev_snd (ev_var rfl f1)) e13) ea_nil)) ⟨_, _, _, rfl, rfl, e15, rfl, rfl⟩) fun v9 B9 H9 x9 w9 h9 => k _ _ _ ((Ex.refl _).trans x9) w9 h9
noncomputable def m_l_over (a0 : (Int × Int)) (a1 : (Int × Int)) : Option (Int × Int) :=
  Option.bind (mulI a0.1 a1.2) fun t10 =>
  Option.bind (mulI a0.2 a1.1) fun t12 =>
  Option.bind (m_l_ratio t10 t12) fun t14 =>
  some t14
def C__law_over : List Arg → List Cell → Arg → List Cell → Prop := fun as L r L' => ∃ a0 a1 c, as = [⟨(rT2 rInt rInt), a0⟩, ⟨(rT2 rInt rInt), a1⟩] ∧ L = [] ∧ m_l_over a0 a1 = some c ∧ r = ⟨(rT2 rInt rInt), c⟩ ∧ L' = []
theorem sc__law_over : FnScope ["_law_a", "_law_b"] ["_law_a", "_law_b"] (defScope s__law_over) := ⟨rfl, rfl, rfl, by decide +kernel, rfl, by decide +kernel, by decide +kernel⟩
set_option maxHeartbeats 0 in
theorem ok__law_over (F : FunC K "_law_over" s__law_over f fd cc) (c__law_ratio : Cl P w K mg base 1 "_law_ratio" (spV K T C__law_ratio) []) : FnOk P w K mg base CX0 2 f fd ["_law_a", "_law_b"] (spV K T C__law_over) := by
  refine F.ok sc__law_over (fun vs H Q E h => ?_) (fun A outer s H vs Q E hr h => ?_)
  · obtain ⟨B, M, L, as, r, L', hT, w, ha, ⟨_, _, _, rfl, _⟩, k⟩ := h
    exact args_len ha
  · skip
    obtain ⟨B, M, L, as, r, L', rfl, w, ha, ⟨a0, a1, c, rfl, rfl, hm, rfl, rfl⟩, k⟩ := h
    obtain ⟨u0, u1, rfl, f0, f1⟩ := args2 ha
    replace f0 : ((rT2 rInt rInt)).is K B u0 a0 := f0
    replace f1 : ((rT2 rInt rInt)).is K B u1 a1 := f1
    unfold m_l_over at hm
    refine ⟨_, (pss_cons (ps_ret (pe_c c__law_ratio hr (by omega) rfl (pa_cons (pe_op op_mulX (pe_ix ix_seq (pv 0) pe_int (fun _ _ => rfl)) (pe_ix ix_seq (pv 1) pe_int (fun _ _ => rfl))) (pa_cons (pe_op op_mulX (pe_ix ix_seq (pv 0) pe_int (fun _ _ => rfl)) (pe_ix ix_seq (pv 1) pe_int (fun _ _ => rfl))) pa_nil)))) pss_nil), ?_⟩
    rw [show start ["_law_a", "_law_b"] [u0, u1] = ([some u0, some u1] : L2.St) from rfl]
    obtain ⟨t10, e11, hm⟩ := bindS hm
    obtain ⟨t12, e13, hm⟩ := bindS hm
    obtain ⟨t14, e15, hm⟩ := bindS hm
    replace hm : some _ = some _ := hm
    obtain rfl := Option.some.inj hm
    exact q_ret w (ev_call (ea_cons (ev_mul (ev_fst (ev_var rfl f0)) (ev_snd (ev_var rfl f1)) e11) (ea_cons (ev_mul (ev_snd (ev_var rfl f0)) (ev_fst (ev_var rfl f1)) e13) ea_nil)) ⟨_, _, _, rfl, rfl, e15, rfl, rfl⟩) fun v9 B9 H9 x9 w9 h9 => k _ _ _ ((Ex.refl _).trans x9) w9 h9
noncomputable def m_l_solve (a0 : (List (List (Int × Int)))) (a1 : (List (Int × Int))) : Option (Option (List (Int × Int))) :=
  Option.bind (small62 ((a0.length : Int))) fun t10 =>
  Option.bind (room ((rng 0 ((a0.length : Int)))).length) fun t42 =>
  Option.bind (compM (S := Unit) (β := (List (Int × Int))) (fun (s12 : Unit) (x19 : Int) => (Option.bind (ixL a0 x19) fun t36 => Option.bind (ixL a1 x19) fun t38 => Option.bind (catT t36 ([t38])) fun t40 => some (some t40, ()))) (()) ((rng 0 ((a0.length : Int))))) fun t44 =>
  Option.bind (small62 ((t44.1.length : Int))) fun t51 =>
  Option.bind (loopR (S := (List (List (Int × Int)))) (R := (Option (List (Int × Int)))) (α := Int) (fun (s53 : (List (List (Int × Int)))) (x54 : Int) => (
    Option.bind (small62 x54) fun t77 =>
    Option.bind (small62 ((t44.1.length : Int))) fun t79 =>
    Option.bind (room ((rng x54 ((t44.1.length : Int)))).length) fun t114 =>
    Option.bind (compM (S := Unit) (β := Int) (fun (s81 : Unit) (x88 : Int) => (Option.bind (ixL s53 x88) fun t105 => Option.bind (ixL t105 x54) fun t107 => if (!decide (t107.1 = (0 : Int))) = true then ( some (some x88, ())) else some (none, ()))) (()) ((rng x54 ((t44.1.length : Int))))) fun t116 =>
    if (decide ((t116.1.length : Int) = (0 : Int))) = true then
      some (Stp.rt none)
    else
      Option.bind (ixL t116.1 ((0 : Int))) fun t124 =>
      Option.bind (ixL s53 t124) fun t126 =>
      Option.bind (ixL s53 x54) fun t131 =>
      Option.bind (ixL t116.1 ((0 : Int))) fun t133 =>
      Option.bind (ixO s53.length t133) fun t135 =>
      Option.bind (room t126.length) fun t166 =>
      Option.bind (compM (S := Unit) (β := (Int × Int)) (fun (s138 : Unit) (x145 : (Int × Int)) => (Option.bind (ixL t126 x54) fun t162 => Option.bind (m_l_over x145 t162) fun t164 => some (some t164, ()))) (()) t126) fun t168 =>
      Option.bind (ixO ((s53.set t135 t131)).length x54) fun t173 =>
      Option.bind (small62 ((t44.1.length : Int))) fun t176 =>
      Option.bind (foldO (S := (List (List (Int × Int)))) (α := Int) (fun (s178 : (List (List (Int × Int)))) (x179 : Int) => (
        Option.bind ((if (!decide (x179 = x54)) = true then (Option.bind (ixL s178 x179) fun t199 => Option.bind (ixL t199 x54) fun t201 => some ((!decide (t201.1 = (0 : Int))))) else (some (false)))) fun t203 =>
        Option.bind (if t203 = true then
          Option.bind (ixL s178 x179) fun t210 =>
          Option.bind (ixL t210 x54) fun t212 =>
          Option.bind (ixL s178 x179) fun t214 =>
          Option.bind (ixL t214 x54) fun t216 =>
          Option.bind (small62 (((t44.1.length : Int) + (1 : Int)))) fun t221 =>
          Option.bind (room ((rng 0 (((t44.1.length : Int) + (1 : Int))))).length) fun t257 =>
          Option.bind (compM (S := Unit) (β := (Int × Int)) (fun (s223 : Unit) (x230 : Int) => (Option.bind (ixL s178 x179) fun t247 => Option.bind (ixL t247 x230) fun t249 => Option.bind (ixL t168.1 x230) fun t251 => Option.bind (m_l_times ((((0 : Int) - t212.1), t216.2)) t251) fun t253 => Option.bind (m_l_plus t249 t253) fun t255 => some (some t255, ()))) (()) ((rng 0 (((t44.1.length : Int) + (1 : Int)))))) fun t259 =>
          Option.bind (ixO s178.length x179) fun t261 =>
          some ((s178.set t261 t259.1))
        else
          some s178
        ) fun (s207 : (List (List (Int × Int)))) =>
        some s207
      )) ((((s53.set t135 t131)).set t173 t168.1)) ((rng 0 ((t44.1.length : Int))))) fun s268 =>
      some (Stp.nx s268)
  )) t44.1 ((rng 0 ((t44.1.length : Int))))) fun o56 =>
  match o56 with
  | .inl s277 =>
    Option.bind (room s277.length) fun t318 =>
    Option.bind (compM (S := Unit) (β := (Int × Int)) (fun (s292 : Unit) (x299 : (List (Int × Int))) => (Option.bind (ixL x299 ((-(1 : Int)))) fun t316 => some (some t316, ()))) (()) s277) fun t320 =>
    some (some t320.1)
  | .inr q9 => some q9
def C__law_solve : List Arg → List Cell → Arg → List Cell → Prop := fun as L r L' => ∃ a0 a1 c, as = [⟨(rLst (rLst (rT2 rInt rInt))), a0⟩, ⟨(rLst (rT2 rInt rInt)), a1⟩] ∧ L = [] ∧ m_l_solve a0 a1 = some c ∧ r = ⟨(rOpt (rLst (rT2 rInt rInt))), c⟩ ∧ L' = []
theorem sc__law_solve : FnScope ["_law_rows", "_law_right", "_law_table", "_law_size", "_law_column", "_law_found", "_law_chosen", "_law_k", "_law_less", "_law_row", "_law_item", "_law_j"] ["_law_rows", "_law_right"] (defScope s__law_solve) := ⟨rfl, rfl, rfl, by decide +kernel, rfl, by decide +kernel, by decide +kernel⟩
set_option maxHeartbeats 0 in
theorem ok__law_solve (F : FunC K "_law_solve" s__law_solve f fd cc) (c__law_over : Cl P w K mg base 2 "_law_over" (spV K T C__law_over) []) (c__law_plus : Cl P w K mg base 2 "_law_plus" (spV K T C__law_plus) []) (c__law_times : Cl P w K mg base 2 "_law_times" (spV K T C__law_times) []) (z_range : mg "range" = none) (z_len : mg "len" = none) (z_list : mg "list" = none) : FnOk P w K mg base CX0 3 f fd ["_law_rows", "_law_right"] (spV K T C__law_solve) := by
  refine F.ok sc__law_solve (fun vs H Q E h => ?_) (fun A outer s H vs Q E hr h => ?_)
  · obtain ⟨B, M, L, as, r, L', hT, w, ha, ⟨_, _, _, rfl, _⟩, k⟩ := h
    exact args_len ha
  · skip
    obtain ⟨B, M, L, as, r, L', rfl, w, ha, ⟨a0, a1, c, rfl, rfl, hm, rfl, rfl⟩, k⟩ := h
    obtain ⟨u0, u1, rfl, f0, f1⟩ := args2 ha
    replace f0 : ((rLst (rLst (rT2 rInt rInt)))).is K B u0 a0 := f0
    replace f1 : ((rLst (rT2 rInt rInt))).is K B u1 a1 := f1
    unfold m_l_solve at hm
    refine ⟨_, (pss_cons (ps_set (i := 2) sc__law_solve.nd rfl (by first | exact Or.inl rfl | exact Or.inr rfl) (pe_lc rfl sc__law_solve.nd (pi_range1 rfl z_range (pa_cons (pe_callB call_len_seq rfl z_len bt_len (pa_cons (pv 0) pa_nil)) pa_nil)) (blkOk_by (own := [("_law_k", 7)]) (show blkC ["_law_rows", "_law_right", "_law_table", "_law_size", "_law_column", "_law_found", "_law_chosen", "_law_k", "_law_less", "_law_row", "_law_item", "_law_j"] (defScope s__law_solve) _ _ = true by decide +kernel)) (fun _ _ _ _ _ => (pg_name (i := 7) sc__law_solve.nd rfl (by first | exact Or.inl rfl | exact Or.inr rfl))) (fun _ _ _ _ _ => pts_nil) (fun _ _ _ _ _ => (pe_op op_cat (pe_callTy (show CallR _ _ (rListOf K) from call_list_of) rfl z_list bt_list (pa_cons (pe_ix (show IxR _ (rIx K) from ix_seq) (pv 0) (pv 7) (fun _ _ => rfl)) pa_nil)) (pe_lst (pa_cons (pe_ix (show IxR _ (rIx K) from ix_seq) (pv 1) (pv 7) (fun _ _ => rfl)) pa_nil)))))) (pss_cons (ps_set (i := 3) sc__law_solve.nd rfl (by first | exact Or.inl rfl | exact Or.inr rfl) (pe_callB call_len_seq rfl z_len bt_len (pa_cons (pv 2) pa_nil))) (pss_cons (ps_for PassesOwn.never rfl (pi_range1 rfl z_range (pa_cons (pv 3) pa_nil)) (pg_name (i := 4) sc__law_solve.nd rfl (by first | exact Or.inl rfl | exact Or.inr rfl)) (pss_cons (ps_setLc (i := 5) rfl sc__law_solve.nd rfl rfl rfl (pi_range2 rfl z_range (pa_cons (pv 4) (pa_cons (pv 3) pa_nil))) (blkOk_by (own := [("_law_k", 7)]) (show blkC ["_law_rows", "_law_right", "_law_table", "_law_size", "_law_column", "_law_found", "_law_chosen", "_law_k", "_law_less", "_law_row", "_law_item", "_law_j"] (defScope s__law_solve) _ _ = true by decide +kernel)) (fun _ _ _ _ _ => (pg_name (i := 7) sc__law_solve.nd rfl (by first | exact Or.inl rfl | exact Or.inr rfl))) (fun _ _ _ _ _ => (pts_one (pt_cmpR op_ne (pe_ix (show IxR _ (rIx K) from ix_seq) (pe_ix (show IxR _ (rIx K) from ix_seq) (pe_ix (show IxR _ (rIx K) from ix_seq) (pv 2) (pv 7) (fun _ _ => rfl)) (pv 4) (fun _ _ => rfl)) pe_int (fun _ _ => rfl)) pe_int (nomark _)))) (fun _ _ _ _ _ => (pv 7))) (pss_cons (ps_if (pt_cmpR op_eq (pe_callB call_len_seq rfl z_len bt_len (pa_cons (pv 5) pa_nil)) pe_int (nomark _)) (pss_cons (ps_ret pe_non) pss_nil) pss_nil) (pss_cons (ps_set (i := 6) sc__law_solve.nd rfl (by first | exact Or.inl rfl | exact Or.inr rfl) (pe_ix ix_seq (pv 2) (pe_ix ix_seq (pv 5) pe_int (fun _ _ => rfl)) (fun _ _ => rfl))) (pss_cons (ps_asg (pe_ix ix_seq (pv 2) (pv 4) (fun _ _ => rfl)) (pg_sub (pv 2) (pe_ix ix_seq (pv 5) pe_int (fun _ _ => rfl)) set_list)) (pss_cons (ps_set (i := 6) sc__law_solve.nd rfl (by first | exact Or.inl rfl | exact Or.inr rfl) (pe_lc rfl sc__law_solve.nd (pi_list (pv 6)) (blkOk_by (own := [("_law_item", 10)]) (show blkC ["_law_rows", "_law_right", "_law_table", "_law_size", "_law_column", "_law_found", "_law_chosen", "_law_k", "_law_less", "_law_row", "_law_item", "_law_j"] (defScope s__law_solve) _ _ = true by decide +kernel)) (fun _ _ _ _ _ => (pg_name (i := 10) sc__law_solve.nd rfl (by first | exact Or.inl rfl | exact Or.inr rfl))) (fun _ _ _ _ _ => pts_nil) (fun _ _ _ _ _ => (pe_c c__law_over hr (by omega) rfl (pa_cons (pv 10) (pa_cons (pe_ix (show IxR _ (rIx K) from ix_seq) (pv 6) (pv 4) (fun _ _ => rfl)) pa_nil)))))) (pss_cons (ps_asg (pv 6) (pg_sub (pv 2) (pv 4) set_list)) (pss_cons (ps_for PassesOwn.never rfl (pi_range1 rfl z_range (pa_cons (pv 3) pa_nil)) (pg_name (i := 7) sc__law_solve.nd rfl (by first | exact Or.inl rfl | exact Or.inr rfl)) (Evl.pss_cut (ps_if (PW.pt (pw_and (pt_cmpR op_ne (pv 7) (pv 4) (nomark _)) (pw_and1 (pt_cmpR op_ne (pe_ix ix_seq (pe_ix ix_seq (pe_ix ix_seq (pv 2) (pv 7) (fun _ _ => rfl)) (pv 4) (fun _ _ => rfl)) pe_int (fun _ _ => rfl)) pe_int (nomark _))))) (pss_cons (ps_set (i := 8) sc__law_solve.nd rfl (by first | exact Or.inl rfl | exact Or.inr rfl) (pe_tup (pa_cons (pe_op op_sub pe_int (pe_ix ix_seq (pe_ix ix_seq (pe_ix ix_seq (pv 2) (pv 7) (fun _ _ => rfl)) (pv 4) (fun _ _ => rfl)) pe_int (fun _ _ => rfl))) (pa_cons (pe_ix ix_seq (pe_ix ix_seq (pe_ix ix_seq (pv 2) (pv 7) (fun _ _ => rfl)) (pv 4) (fun _ _ => rfl)) pe_int (fun _ _ => rfl)) pa_nil)))) (pss_cons (ps_asg (pe_lc rfl sc__law_solve.nd (pi_range1 rfl z_range (pa_cons (pe_op op_add (pv 3) pe_int) pa_nil)) (blkOk_by (own := [("_law_j", 11)]) (show blkC ["_law_rows", "_law_right", "_law_table", "_law_size", "_law_column", "_law_found", "_law_chosen", "_law_k", "_law_less", "_law_row", "_law_item", "_law_j"] (defScope s__law_solve) _ _ = true by decide +kernel)) (fun _ _ _ _ _ => (pg_name (i := 11) sc__law_solve.nd rfl (by first | exact Or.inl rfl | exact Or.inr rfl))) (fun _ _ _ _ _ => pts_nil) (fun _ _ _ _ _ => (pe_c c__law_plus hr (by omega) rfl (pa_cons (pe_ix (show IxR _ (rIx K) from ix_seq) (pe_ix (show IxR _ (rIx K) from ix_seq) (pv 2) (pv 7) (fun _ _ => rfl)) (pv 11) (fun _ _ => rfl)) (pa_cons (pe_c c__law_times hr (by omega) rfl (pa_cons (pv 8) (pa_cons (pe_ix (show IxR _ (rIx K) from ix_seq) (pv 6) (pv 11) (fun _ _ => rfl)) pa_nil))) pa_nil))))) (pg_sub (pv 2) (pv 7) set_list)) pss_nil)) pss_nil) pss_nil)) pss_nil)))))))) (pss_cons (ps_ret (pe_lc rfl sc__law_solve.nd (pi_list (pv 2)) (blkOk_by (own := [("_law_row", 9)]) (show blkC ["_law_rows", "_law_right", "_law_table", "_law_size", "_law_column", "_law_found", "_law_chosen", "_law_k", "_law_less", "_law_row", "_law_item", "_law_j"] (defScope s__law_solve) _ _ = true by decide +kernel)) (fun _ _ _ _ _ => (pg_name (i := 9) sc__law_solve.nd rfl (by first | exact Or.inl rfl | exact Or.inr rfl))) (fun _ _ _ _ _ => pts_nil) (fun _ _ _ _ _ => (pe_ix (show IxR _ (rIx K) from ix_seq) (pv 9) (pe_un un_neg pe_int) (fun _ _ => rfl))))) pss_nil)))), ?_⟩
    rw [show start ["_law_rows", "_law_right", "_law_table", "_law_size", "_law_column", "_law_found", "_law_chosen", "_law_k", "_law_less", "_law_row", "_law_item", "_law_j"] [u0, u1] = ([some u0, some u1, none, none, none, none, none, none, none, none, none, none] : L2.St) from rfl]
    obtain ⟨t10, e11, hm⟩ := bindS hm
    obtain ⟨t42, e43, hm⟩ := bindS hm
    obtain ⟨t44, e45, hm⟩ := bindS hm
    refine q_asgL (n := 2) w (el_lc (S := Unit) (ys := t44.1) (s1 := t44.2) (s0 := ()) (σ' := [some u0, some u1, none, none, none, none, none, none, none, none, none, none]) (rLst (rT2 rInt rInt)) (ei_rng1 (ea_cons (ev_len (ev_seqL (ev_var rfl f0))) ea_nil) e11) _ (fun (s12 : Unit) => []) rfl e45 e43 rfl (by rintro s12 x19 o24 s25 v17 D22 a23 B13 H14 hb21 x15 w16 h18 PY26 PN27 qY28 qN29; replace w16 : Own K B13 M [⟨D22, (cLst (rLst (rT2 rInt rInt))), a23⟩] H14 := w16; refine g_name ?_; refine ⟨rfl, ?_⟩; obtain ⟨t36, e37, hb21⟩ := bindS hb21; obtain ⟨t38, e39, hb21⟩ := bindS hb21; obtain ⟨t40, e41, hb21⟩ := bindS hb21; obtain ⟨rfl, rfl⟩ := Prod.mk.inj (Option.some.inj hb21); refine lc_yes ?_; exact (ev_frz (el_cat (ev_frz (el_listOf (ev_seqL (ev_ix (ev_seqL (ev_var rfl (((rLst (rLst (rT2 rInt rInt)))).mono x15 f0))) (ev_varI rfl h18) e37)))) (ev_frz (el_lst (r := (rT2 rInt rInt)) [t38] (ea_cons (ev_ix (ev_seqL (ev_var rfl (((rLst (rT2 rInt rInt))).mono x15 f1))) (ev_varI rfl h18) e39) ea_nil))) e41)) B13 H14 (Ex.refl _) w16 _ fun v30 B31 H32 x33 w34 h35 => qY28 v30 B31 H32 _ rfl x33 w34 h35)) fun p47 B46 H46 x46 (w46 : Own K B46 M [⟨p47, (cLst (rLst (rT2 rInt rInt))), t44.1⟩] H46) => ?_
    refine q_asg (n := 3) w46 (ev_lenC (n := 0) (ev_varR rfl) rfl) fun v49 B48 H48 x48 (w48 : Own K B48 M [⟨p47, (cLst (rLst (rT2 rInt rInt))), t44.1⟩] H48) h50 => ?_
    obtain ⟨t51, e52, hm⟩ := bindS hm
    obtain ⟨o56, e57, hm⟩ := bindS hm
    refine q_forR w48 (ei_rng1 (ea_cons (ev_varI rfl h50) ea_nil) e52) _ (fun s53 B58 σ71 => ∃ o72 o73 o74 o75 o76, σ71 = [some u0, some u1, some (.ref p47), some v49, o72, o73, o74, o75, o76, none, none, none]) (fun s53 => [⟨p47, (cLst (rLst (rT2 rInt rInt))), s53⟩]) t44.1 e57 (fun B9 x9 => ⟨_, _, _, _, _, rfl⟩) rfl ?_ ?_
    · skip
      rintro s53 x54 s322 v64 B58 B59 H60 σ71 hb55 x61 ⟨o72, o73, o74, o75, o76, rfl⟩ x62 w63 h65 ho70 N66 K67 hN68 hB69
      replace w63 : Own K B59 M [⟨p47, (cLst (rLst (rT2 rInt rInt))), s53⟩] H60 := w63
      refine g_name ?_
      obtain ⟨t77, e78, hb55⟩ := bindS hb55
      obtain ⟨t79, e80, hb55⟩ := bindS hb55
      obtain ⟨t114, e115, hb55⟩ := bindS hb55
      obtain ⟨t116, e117, hb55⟩ := bindS hb55
      refine q_asg (n := 5) w63 (ev_frz (el_lc (S := Unit) (ys := t116.1) (s1 := t116.2) (s0 := ()) (σ' := [some u0, some u1, some (.ref p47), some v49, some v64, o73, o74, none, o76, none, none, none]) rInt (ei_rng2 (ea_cons (ev_varI rfl h65) (ea_cons (ev_varI rfl h50) ea_nil)) e78 e80) _ (fun (s81 : Unit) => [⟨p47, (cLst (rLst (rT2 rInt rInt))), s53⟩]) rfl e117 e115 rfl (by rintro s81 x88 o93 s94 v86 D91 a92 B82 H83 hb90 x84 w85 h87 PY95 PN96 qY97 qN98; replace w85 : Own K B82 M [⟨D91, (cLst rInt), a92⟩, ⟨p47, (cLst (rLst (rT2 rInt rInt))), s53⟩] H83 := w85; refine g_name ?_; refine ⟨rfl, ?_⟩; obtain ⟨t105, e106, hb90⟩ := bindS hb90; obtain ⟨t107, e108, hb90⟩ := bindS hb90; exact (et_test (ev_neI (ev_fst (ev_ix (ev_seqL (ev_ixC (n := 1) (ev_varR rfl) (ev_varI rfl h87) rfl e106)) (ev_varI rfl h65) e108)) (ev_int (i := 0)))) B82 H83 (Ex.refl _) w85 _ fun B109 H110 x111 (w112 : Own K B109 M [⟨D91, (cLst rInt), a92⟩, ⟨p47, (cLst (rLst (rT2 rInt rInt))), s53⟩] H110) => lc_if (fun hq113 => by rw [if_pos hq113] at hb90; obtain ⟨rfl, rfl⟩ := Prod.mk.inj (Option.some.inj hb90); exact (ev_varI rfl h87) B109 H110 (Ex.refl _) w112 _ fun v99 B100 H101 x102 w103 h104 => qY97 v99 B100 H101 _ rfl (x111.trans x102) w103 h104) (fun hq113 => by rw [if_neg (by rw [hq113]; exact Bool.false_ne_true)] at hb90; obtain ⟨rfl, rfl⟩ := Prod.mk.inj (Option.some.inj hb90); exact qN98 B109 H110 rfl x111 w112)))) fun v119 B118 H118 x118 (w118 : Own K B118 M [⟨p47, (cLst (rLst (rT2 rInt rInt))), s53⟩] H118) h120 => ?_
      refine q_if w118 (et_test (ev_eqI (ev_len (ev_seqL (ev_var rfl h120))) (ev_int (i := 0)))) (fun hb121 B122 H122 x122 (w122 : Own K B122 M [⟨p47, (cLst (rLst (rT2 rInt rInt))), s53⟩] H122) => ?_) (fun hb121 B123 H123 x123 (w123 : Own K B123 M [⟨p47, (cLst (rLst (rT2 rInt rInt))), s53⟩] H123) => ?_)
      · skip
        rw [if_pos hb121] at hb55
        replace hb55 : some _ = some _ := hb55
        obtain rfl := Option.some.inj hb55
        obtain rfl := ho70 _ rfl
        replace hm : some _ = some _ := hm
        obtain rfl := Option.some.inj hm
        exact q_ret w122 (ev_non (r := (rLst (rT2 rInt rInt)))) fun v9 B9 H9 x9 w9 h9 => k _ _ _ ((((((x46.trans x48).trans x61).trans x62).trans x118).trans x122).trans x9) w9.tail h9
      rw [if_neg (by rw [hb121]; exact Bool.false_ne_true)] at hb55
      obtain ⟨t124, e125, hb55⟩ := bindS hb55
      obtain ⟨t126, e127, hb55⟩ := bindS hb55
      refine q_asg (n := 6) w123 (ev_ixC (n := 0) (ev_varR rfl) (ev_ix (ev_seqL (ev_var rfl (((rLst rInt)).mono x123 h120))) (ev_int (i := 0)) e125) rfl e127) fun v129 B128 H128 x128 (w128 : Own K B128 M [⟨p47, (cLst (rLst (rT2 rInt rInt))), s53⟩] H128) h130 => ?_
      obtain ⟨t131, e132, hb55⟩ := bindS hb55
      obtain ⟨t133, e134, hb55⟩ := bindS hb55
      obtain ⟨t135, e136, hb55⟩ := bindS hb55
      refine q_setC (n := 0) w128 (ev_ixC (n := 0) (ev_varR rfl) (ev_varI rfl h65) rfl e132) rfl (ev_ix (ev_seqL (ev_var rfl (((rLst rInt)).mono (x123.trans x128) h120))) (ev_int (i := 0)) e134) rfl e136 fun B137 H137 x137 (w137 : Own K B137 M [⟨p47, (cLst (rLst (rT2 rInt rInt))), (s53.set t135 t131)⟩] H137) => ?_
      obtain ⟨t166, e167, hb55⟩ := bindS hb55
      obtain ⟨t168, e169, hb55⟩ := bindS hb55
      refine q_asg (n := 6) w137 (ev_frz (el_lc (S := Unit) (ys := t168.1) (s1 := t168.2) (s0 := ()) (σ' := [some u0, some u1, some (.ref p47), some v49, some v64, some v119, some v129, o75, o76, none, none, none]) (rT2 rInt rInt) (ei_lst (ev_var rfl (((rLst (rT2 rInt rInt))).mono x137 h130))) _ (fun (s138 : Unit) => [⟨p47, (cLst (rLst (rT2 rInt rInt))), (s53.set t135 t131)⟩]) rfl e169 e167 rfl (by rintro s138 x145 o150 s151 v143 D148 a149 B139 H140 hb147 x141 w142 h144 PY152 PN153 qY154 qN155; replace w142 : Own K B139 M [⟨D148, (cLst (rT2 rInt rInt)), a149⟩, ⟨p47, (cLst (rLst (rT2 rInt rInt))), (s53.set t135 t131)⟩] H140 := w142; refine g_name ?_; refine ⟨rfl, ?_⟩; obtain ⟨t162, e163, hb147⟩ := bindS hb147; obtain ⟨t164, e165, hb147⟩ := bindS hb147; obtain ⟨rfl, rfl⟩ := Prod.mk.inj (Option.some.inj hb147); refine lc_yes ?_; exact (ev_call (ea_cons (ev_var rfl h144) (ea_cons (ev_ix (ev_seqL (ev_var rfl (((rLst (rT2 rInt rInt))).mono (x137.trans x141) h130))) (ev_varI rfl h65) e163) ea_nil)) ⟨_, _, _, rfl, rfl, e165, rfl, rfl⟩) B139 H140 (Ex.refl _) w142 _ fun v156 B157 H158 x159 w160 h161 => qY154 v156 B157 H158 _ rfl x159 w160 h161))) fun v171 B170 H170 x170 (w170 : Own K B170 M [⟨p47, (cLst (rLst (rT2 rInt rInt))), (s53.set t135 t131)⟩] H170) h172 => ?_
      obtain ⟨t173, e174, hb55⟩ := bindS hb55
      refine q_setC (n := 0) w170 (ev_var rfl h172) rfl (ev_varI rfl h65) rfl e174 fun B175 H175 x175 (w175 : Own K B175 M [⟨p47, (cLst (rLst (rT2 rInt rInt))), (((s53.set t135 t131)).set t173 t168.1)⟩] H175) => ?_
      obtain ⟨t176, e177, hb55⟩ := bindS hb55
      obtain ⟨s268, e182, hb55⟩ := bindS hb55
      refine q_fold w175 (ei_rng1 (ea_cons (ev_varI rfl h50) ea_nil) e177) _ (fun s178 B183 σ196 => ∃ o197 o198, σ196 = [some u0, some u1, some (.ref p47), some v49, some v64, some v119, some v171, o197, o198, none, none, none]) (fun s178 => [⟨p47, (cLst (rLst (rT2 rInt rInt))), s178⟩]) ((((s53.set t135 t131)).set t173 t168.1)) e182 (fun B9 x9 => ⟨_, _, rfl⟩) rfl ?_ ?_
      · skip
        rintro s178 x179 s276 v189 B183 B184 H185 σ196 hb180 x186 ⟨o197, o198, rfl⟩ x187 w188 h190 N191 K192 hN193
        replace w188 : Own K B184 M [⟨p47, (cLst (rLst (rT2 rInt rInt))), s178⟩] H185 := w188
        refine g_name ?_
        obtain ⟨t203, e204, hb180⟩ := bindS hb180
        obtain ⟨s207, e208, hb180⟩ := bindS hb180
        refine q_cut (fun σ267 H265 => ∃ o266 B265, Ex B184 B265 ∧ Own K B265 M [⟨p47, (cLst (rLst (rT2 rInt rInt))), s207⟩] H265 ∧ σ267 = [some u0, some u1, some (.ref p47), some v49, some v64, some v119, some v171, some v189, o266, none, none, none]) ?_ ?_
        · skip
          refine q_ifc w188 (et_and' (d := t203) (et_test (ev_neI (ev_varI rfl h190) (ev_varI rfl h65))) (fun hb205 => by rw [if_pos hb205] at e204; obtain ⟨t199, e200, e204⟩ := bindS e204; obtain ⟨t201, e202, e204⟩ := bindS e204; obtain rfl := Option.some.inj e204; exact (et_test (ev_neI (ev_fst (ev_ix (ev_seqL (ev_ixC (n := 0) (ev_varR rfl) (ev_varI rfl h190) rfl e200)) (ev_varI rfl h65) e202)) (ev_int (i := 0))))) (fun hb205 => by rw [if_neg (by rw [hb205]; exact Bool.false_ne_true)] at e204; obtain rfl := Option.some.inj e204; exact ⟨rfl, rfl⟩)) (fun hb206 B209 H209 x209 (w209 : Own K B209 M [⟨p47, (cLst (rLst (rT2 rInt rInt))), s178⟩] H209) => ?_) (fun hb206 B264 H264 x264 (w264 : Own K B264 M [⟨p47, (cLst (rLst (rT2 rInt rInt))), s178⟩] H264) => ?_)
          · skip
            rw [if_pos hb206] at e208
            obtain ⟨t210, e211, e208⟩ := bindS e208
            obtain ⟨t212, e213, e208⟩ := bindS e208
            obtain ⟨t214, e215, e208⟩ := bindS e208
            obtain ⟨t216, e217, e208⟩ := bindS e208
            refine q_asg (n := 8) w209 (ev_T2 (ea_cons (ev_sub (ev_int (i := 0)) (ev_fst (ev_ix (ev_seqL (ev_ixC (n := 0) (ev_varR rfl) (ev_varI rfl h190) rfl e211)) (ev_varI rfl h65) e213))) (ea_cons (ev_snd (ev_ix (ev_seqL (ev_ixC (n := 0) (ev_varR rfl) (ev_varI rfl h190) rfl e215)) (ev_varI rfl h65) e217)) ea_nil))) fun v219 B218 H218 x218 (w218 : Own K B218 M [⟨p47, (cLst (rLst (rT2 rInt rInt))), s178⟩] H218) h220 => ?_
            obtain ⟨t221, e222, e208⟩ := bindS e208
            obtain ⟨t257, e258, e208⟩ := bindS e208
            obtain ⟨t259, e260, e208⟩ := bindS e208
            obtain ⟨t261, e262, e208⟩ := bindS e208
            refine q_setC (n := 0) w218 (ev_frz (el_lc (S := Unit) (ys := t259.1) (s1 := t259.2) (s0 := ()) (σ' := [some u0, some u1, some (.ref p47), some v49, some v64, some v119, some v171, some v189, some v219, none, none, none]) (rT2 rInt rInt) (ei_rng1 (ea_cons (ev_add (ev_varI rfl h50) (ev_int (i := 1))) ea_nil) e222) _ (fun (s223 : Unit) => [⟨p47, (cLst (rLst (rT2 rInt rInt))), s178⟩]) rfl e260 e258 rfl (by rintro s223 x230 o235 s236 v228 D233 a234 B224 H225 hb232 x226 w227 h229 PY237 PN238 qY239 qN240; replace w227 : Own K B224 M [⟨D233, (cLst (rT2 rInt rInt)), a234⟩, ⟨p47, (cLst (rLst (rT2 rInt rInt))), s178⟩] H225 := w227; refine g_name ?_; refine ⟨rfl, ?_⟩; obtain ⟨t247, e248, hb232⟩ := bindS hb232; obtain ⟨t249, e250, hb232⟩ := bindS hb232; obtain ⟨t251, e252, hb232⟩ := bindS hb232; obtain ⟨t253, e254, hb232⟩ := bindS hb232; obtain ⟨t255, e256, hb232⟩ := bindS hb232; obtain ⟨rfl, rfl⟩ := Prod.mk.inj (Option.some.inj hb232); refine lc_yes ?_; exact (ev_call (ea_cons (ev_ix (ev_seqL (ev_ixC (n := 1) (ev_varR rfl) (ev_varI rfl h190) rfl e248)) (ev_varI rfl h229) e250) (ea_cons (ev_call (ea_cons (ev_var rfl (((rT2 rInt rInt)).mono x226 h220)) (ea_cons (ev_ix (ev_seqL (ev_var rfl (((rLst (rT2 rInt rInt))).mono (((((x175.trans x186).trans x187).trans x209).trans x218).trans x226) h172))) (ev_varI rfl h229) e252) ea_nil)) ⟨_, _, _, rfl, rfl, e254, rfl, rfl⟩) ea_nil)) ⟨_, _, _, rfl, rfl, e256, rfl, rfl⟩) B224 H225 (Ex.refl _) w227 _ fun v241 B242 H243 x244 w245 h246 => qY239 v241 B242 H243 _ rfl x244 w245 h246))) rfl (ev_varI rfl h190) rfl e262 fun B263 H263 x263 (w263 : Own K B263 M [⟨p47, (cLst (rLst (rT2 rInt rInt))), (s178.set t261 t259.1)⟩] H263) => ?_
            replace e208 : some _ = some _ := e208
            cases e208
            exact ⟨_, _, ((x209.trans x218).trans x263), w263, rfl⟩
          rw [if_neg (by rw [hb206]; exact Bool.false_ne_true)] at e208
          replace e208 : some _ = some _ := e208
          cases e208
          exact ⟨_, _, x264, w264, rfl⟩
        rintro σ267' H265 ⟨o266, B265, x265, w265, rfl⟩
        replace hb180 : some _ = some _ := hb180
        cases hb180
        exact hN193 _ _ _ x265 w265 ⟨_, _, rfl⟩
      rintro B269 H270 σ273 x271 w272 ⟨o274, o275, rfl⟩
      replace w272 : Own K B269 M [⟨p47, (cLst (rLst (rT2 rInt rInt))), s268⟩] H270 := w272
      replace hb55 : some _ = some _ := hb55
      cases hb55
      exact hN68 _ _ _ _ rfl ((((((x118.trans x123).trans x128).trans x137).trans x170).trans x175).trans x271) w272 ⟨_, _, _, _, _, rfl⟩
    rintro s277 B278 H279 σ282 rfl x280 w281 ⟨o283, o284, o285, o286, o287, rfl⟩
    dsimp only at hm
    replace w281 : Own K B278 M [⟨p47, (cLst (rLst (rT2 rInt rInt))), s277⟩] H279 := w281
    obtain ⟨B288, x289, w290, h291⟩ := frz_step (n := 0) w281 rfl
    replace w290 : Own K B288 M [] H279 := w290
    obtain ⟨t318, e319, hm⟩ := bindS hm
    obtain ⟨t320, e321, hm⟩ := bindS hm
    replace hm : some _ = some _ := hm
    obtain rfl := Option.some.inj hm
    exact q_ret w290 (ev_sm (ev_frz (el_lc (S := Unit) (ys := t320.1) (s1 := t320.2) (s0 := ()) (σ' := [some u0, some u1, some (.ref p47), some v49, o283, o284, o285, o286, o287, none, none, none]) (rT2 rInt rInt) (ei_lst (ev_var rfl h291)) _ (fun (s292 : Unit) => []) rfl e321 e319 rfl (by rintro s292 x299 o304 s305 v297 D302 a303 B293 H294 hb301 x295 w296 h298 PY306 PN307 qY308 qN309; replace w296 : Own K B293 M [⟨D302, (cLst (rT2 rInt rInt)), a303⟩] H294 := w296; refine g_name ?_; refine ⟨rfl, ?_⟩; obtain ⟨t316, e317, hb301⟩ := bindS hb301; obtain ⟨rfl, rfl⟩ := Prod.mk.inj (Option.some.inj hb301); refine lc_yes ?_; exact (ev_ix (ev_seqL (ev_var rfl h298)) (ev_neg (ev_int (i := 1))) e317) B293 H294 (Ex.refl _) w296 _ fun v310 B311 H312 x313 w314 h315 => qY308 v310 B311 H312 _ rfl x313 w314 h315)))) fun v9 B9 H9 x9 w9 h9 => k _ _ _ ((((x46.trans x48).trans x280).trans x289).trans x9) w9 h9
noncomputable def m_l_chain (a0 : (List (List (Int × (List (Int × Int)))))) (a1 : (List Int)) : Option (List (Int × (List (Int × (Int × Int))))) :=
  Option.bind (small62 ((a0.length : Int))) fun t12 =>
  Option.bind (foldO (S := (List (Int × (List (Int × (Int × Int)))))) (α := Int) (fun (s14 : (List (Int × (List (Int × (Int × Int)))))) (x15 : Int) => (
    Option.bind (ixL a0 x15) fun t37 =>
    Option.bind (ixL a1 x15) fun t39 =>
    Option.bind (ixL t37 t39) fun t41 =>
    Option.bind (room t41.2.length) fun t74 =>
    Option.bind (compM (S := Unit) (β := Int) (fun (s50 : Unit) (x57 : (Int × Int)) => ( some (some x57.2, ()))) (()) t41.2) fun t76 =>
    Option.bind (room t41.2.length) fun t107 =>
    Option.bind (compM (S := Unit) (β := (Int × (Int × Int))) (fun (s81 : Unit) (x88 : (Int × Int)) => (Option.bind (m_l_ratio x88.2 t76.1.sum) fun t105 => some (some ((x88.1, t105)), ()))) (()) t41.2) fun t109 =>
    Option.bind (room s14.length) fun t111 =>
    some ((s14 ++ [(t41.1, t109.1)]))
  )) (([] : List (Int × (List (Int × (Int × Int)))))) ((rng 0 ((a0.length : Int))))) fun s114 =>
  some s114
def C__law_chain : List Arg → List Cell → Arg → List Cell → Prop := fun as L r L' => ∃ a0 a1 c, as = [⟨(rTup (rTup (rT2 rInt (rTup (rT2 rInt rInt))))), a0⟩, ⟨(rTup rInt), a1⟩] ∧ L = [] ∧ m_l_chain a0 a1 = some c ∧ r = ⟨(rLst (rT2 rInt (rLst (rT2 rInt (rT2 rInt rInt))))), c⟩ ∧ L' = []
theorem sc__law_chain : FnScope ["_law_system_here", "_law_policy", "_law_chain_here", "_law_k", "_law_cost", "_law_ends_here", "_law_whole", "_law_end"] ["_law_system_here", "_law_policy"] (defScope s__law_chain) := ⟨rfl, rfl, rfl, by decide +kernel, rfl, by decide +kernel, by decide +kernel⟩
set_option maxHeartbeats 0 in
theorem ok__law_chain (F : FunC K "_law_chain" s__law_chain f fd cc) (c__law_ratio : Cl P w K mg base 1 "_law_ratio" (spV K T C__law_ratio) []) (z_range : mg "range" = none) (z_len : mg "len" = none) (z_sum : mg "sum" = none) : FnOk P w K mg base CX0 2 f fd ["_law_system_here", "_law_policy"] (spV K T C__law_chain) := by
  refine F.ok sc__law_chain (fun vs H Q E h => ?_) (fun A outer s H vs Q E hr h => ?_)
  · obtain ⟨B, M, L, as, r, L', hT, w, ha, ⟨_, _, _, rfl, _⟩, k⟩ := h
    exact args_len ha
  · skip
    obtain ⟨B, M, L, as, r, L', rfl, w, ha, ⟨a0, a1, c, rfl, rfl, hm, rfl, rfl⟩, k⟩ := h
    obtain ⟨u0, u1, rfl, f0, f1⟩ := args2 ha
    replace f0 : ((rTup (rTup (rT2 rInt (rTup (rT2 rInt rInt)))))).is K B u0 a0 := f0
    replace f1 : ((rTup rInt)).is K B u1 a1 := f1
    unfold m_l_chain at hm
    refine ⟨_, (pss_cons (ps_set (i := 2) sc__law_chain.nd rfl (by first | exact Or.inl rfl | exact Or.inr rfl) (pe_lst pa_nil)) (pss_cons (ps_for PassesOwn.never rfl (pi_range1 rfl z_range (pa_cons (pe_callB call_len_seq rfl z_len bt_len (pa_cons (pv 0) pa_nil)) pa_nil)) (pg_name (i := 3) sc__law_chain.nd rfl (by first | exact Or.inl rfl | exact Or.inr rfl)) (pss_cons (ps_asg (pe_ix ix_seq (pe_ix ix_seq (pv 0) (pv 3) (fun _ _ => rfl)) (pe_ix ix_seq (pv 1) (pv 3) (fun _ _ => rfl)) (fun _ _ => rfl)) (pg_tup rfl (pgs_cons (pg_name (i := 4) sc__law_chain.nd rfl (by first | exact Or.inl rfl | exact Or.inr rfl)) (pgs_cons (pg_name (i := 5) sc__law_chain.nd rfl (by first | exact Or.inl rfl | exact Or.inr rfl)) pgs_nil)))) (pss_cons (ps_set (i := 6) sc__law_chain.nd rfl (by first | exact Or.inl rfl | exact Or.inr rfl) (pe_callB (cr_sum rfl) rfl z_sum bt_sum (pa_cons (pe_lc rfl sc__law_chain.nd (pi_tup (pv 5)) (blkOk_by (own := [("_law_end", 7)]) (show blkC ["_law_system_here", "_law_policy", "_law_chain_here", "_law_k", "_law_cost", "_law_ends_here", "_law_whole", "_law_end"] (defScope s__law_chain) _ _ = true by decide +kernel)) (fun _ _ _ _ _ => (pg_name (i := 7) sc__law_chain.nd rfl (by first | exact Or.inl rfl | exact Or.inr rfl))) (fun _ _ _ _ _ => pts_nil) (fun _ _ _ _ _ => (pe_ix (show IxR _ (rIx K) from ix_seq) (pv 7) pe_int (fun _ _ => rfl)))) pa_nil))) (pss_cons (ps_expr (pe_bm PySem.F.plainAttrs_list PySem.F.slot_list_append PySem.F.type_list_append mt_append (pv 2) (pa_cons (pe_tup (pa_cons (pv 4) (pa_cons (pe_lc rfl sc__law_chain.nd (pi_tup (pv 5)) (blkOk_by (own := [("_law_end", 7)]) (show blkC ["_law_system_here", "_law_policy", "_law_chain_here", "_law_k", "_law_cost", "_law_ends_here", "_law_whole", "_law_end"] (defScope s__law_chain) _ _ = true by decide +kernel)) (fun _ _ _ _ _ => (pg_name (i := 7) sc__law_chain.nd rfl (by first | exact Or.inl rfl | exact Or.inr rfl))) (fun _ _ _ _ _ => pts_nil) (fun _ _ _ _ _ => (pe_tup (pa_cons (pe_ix (show IxR _ (rIx K) from ix_seq) (pv 7) pe_int (fun _ _ => rfl)) (pa_cons (pe_c c__law_ratio hr (by omega) rfl (pa_cons (pe_ix (show IxR _ (rIx K) from ix_seq) (pv 7) pe_int (fun _ _ => rfl)) (pa_cons (pv 6) pa_nil))) pa_nil))))) pa_nil))) pa_nil))) pss_nil)))) (pss_cons (ps_ret (pv 2)) pss_nil))), ?_⟩
    rw [show start ["_law_system_here", "_law_policy", "_law_chain_here", "_law_k", "_law_cost", "_law_ends_here", "_law_whole", "_law_end"] [u0, u1] = ([some u0, some u1, none, none, none, none, none, none] : L2.St) from rfl]
    refine q_asgL (n := 2) w (el_lst (r := (rT2 rInt (rLst (rT2 rInt (rT2 rInt rInt))))) ([] : List (Int × (List (Int × (Int × Int))))) ea_nil) fun p11 B10 H10 x10 (w10 : Own K B10 M [⟨p11, (cLst (rT2 rInt (rLst (rT2 rInt (rT2 rInt rInt))))), ([] : List (Int × (List (Int × (Int × Int)))))⟩] H10) => ?_
    obtain ⟨t12, e13, hm⟩ := bindS hm
    obtain ⟨s114, e18, hm⟩ := bindS hm
    refine q_fold w10 (ei_rng1 (ea_cons (ev_len (ev_seqT (ev_var rfl (((rTup (rTup (rT2 rInt (rTup (rT2 rInt rInt)))))).mono x10 f0)))) ea_nil) e13) _ (fun s14 B19 σ32 => ∃ o33 o34 o35 o36, σ32 = [some u0, some u1, some (.ref p11), o33, o34, o35, o36, none]) (fun s14 => [⟨p11, (cLst (rT2 rInt (rLst (rT2 rInt (rT2 rInt rInt))))), s14⟩]) (([] : List (Int × (List (Int × (Int × Int)))))) e18 (fun B9 x9 => ⟨_, _, _, _, rfl⟩) rfl ?_ ?_
    · skip
      rintro s14 x15 s124 v25 B19 B20 H21 σ32 hb16 x22 ⟨o33, o34, o35, o36, rfl⟩ x23 w24 h26 N27 K28 hN29
      replace w24 : Own K B20 M [⟨p11, (cLst (rT2 rInt (rLst (rT2 rInt (rT2 rInt rInt))))), s14⟩] H21 := w24
      refine g_name ?_
      obtain ⟨t37, e38, hb16⟩ := bindS hb16
      obtain ⟨t39, e40, hb16⟩ := bindS hb16
      obtain ⟨t41, e42, hb16⟩ := bindS hb16
      refine q_unp w24 (ev_ix (ev_seqT (ev_ix (ev_seqT (ev_var rfl (((rTup (rTup (rT2 rInt (rTup (rT2 rInt rInt)))))).mono ((x10.trans x22).trans x23) f0))) (ev_varI rfl h26) e38)) (ev_ix (ev_seqT (ev_var rfl (((rTup rInt)).mono ((x10.trans x22).trans x23) f1))) (ev_varI rfl h26) e40) e42) fun v44 B43 H43 x43 (w43 : Own K B43 M [⟨p11, (cLst (rT2 rInt (rLst (rT2 rInt (rT2 rInt rInt))))), s14⟩] H43) h45 => ?_
      refine g_T2 h45 w43 fun v46 v47 h48 h49 => ?_
      refine g_cons ?_
      refine g_name ?_
      refine g_cons ?_
      refine g_name ?_
      refine g_nil ?_
      obtain ⟨t74, e75, hb16⟩ := bindS hb16
      obtain ⟨t76, e77, hb16⟩ := bindS hb16
      refine q_asg (n := 6) w43 (ev_sumL (ev_frz (el_lc (S := Unit) (ys := t76.1) (s1 := t76.2) (s0 := ()) (σ' := [some u0, some u1, some (.ref p11), some v25, some v46, some v47, o36, none]) rInt (ei_tup (ev_var rfl h49)) _ (fun (s50 : Unit) => [⟨p11, (cLst (rT2 rInt (rLst (rT2 rInt (rT2 rInt rInt))))), s14⟩]) rfl e77 e75 rfl (by rintro s50 x57 o62 s63 v55 D60 a61 B51 H52 hb59 x53 w54 h56 PY64 PN65 qY66 qN67; replace w54 : Own K B51 M [⟨D60, (cLst rInt), a61⟩, ⟨p11, (cLst (rT2 rInt (rLst (rT2 rInt (rT2 rInt rInt))))), s14⟩] H52 := w54; refine g_name ?_; refine ⟨rfl, ?_⟩; obtain ⟨rfl, rfl⟩ := Prod.mk.inj (Option.some.inj hb59); refine lc_yes ?_; exact (ev_snd (ev_var rfl h56)) B51 H52 (Ex.refl _) w54 _ fun v68 B69 H70 x71 w72 h73 => qY66 v68 B69 H70 _ rfl x71 w72 h73)))) fun v79 B78 H78 x78 (w78 : Own K B78 M [⟨p11, (cLst (rT2 rInt (rLst (rT2 rInt (rT2 rInt rInt))))), s14⟩] H78) h80 => ?_
      obtain ⟨t107, e108, hb16⟩ := bindS hb16
      obtain ⟨t109, e110, hb16⟩ := bindS hb16
      obtain ⟨t111, e112, hb16⟩ := bindS hb16
      refine q_app (n := 0) (m := 2) w78 rfl (ev_T2 (ea_cons (ev_varI rfl h48) (ea_cons (ev_frz (el_lc (S := Unit) (ys := t109.1) (s1 := t109.2) (s0 := ()) (σ' := [some u0, some u1, some (.ref p11), some v25, some v46, some v47, some v79, none]) (rT2 rInt (rT2 rInt rInt)) (ei_tup (ev_var rfl (((rTup (rT2 rInt rInt))).mono x78 h49))) _ (fun (s81 : Unit) => [⟨p11, (cLst (rT2 rInt (rLst (rT2 rInt (rT2 rInt rInt))))), s14⟩]) rfl e110 e108 rfl (by rintro s81 x88 o93 s94 v86 D91 a92 B82 H83 hb90 x84 w85 h87 PY95 PN96 qY97 qN98; replace w85 : Own K B82 M [⟨D91, (cLst (rT2 rInt (rT2 rInt rInt))), a92⟩, ⟨p11, (cLst (rT2 rInt (rLst (rT2 rInt (rT2 rInt rInt))))), s14⟩] H83 := w85; refine g_name ?_; refine ⟨rfl, ?_⟩; obtain ⟨t105, e106, hb90⟩ := bindS hb90; obtain ⟨rfl, rfl⟩ := Prod.mk.inj (Option.some.inj hb90); refine lc_yes ?_; exact (ev_T2 (ea_cons (ev_fst (ev_var rfl h87)) (ea_cons (ev_call (ea_cons (ev_snd (ev_var rfl h87)) (ea_cons (ev_varI rfl h80) ea_nil)) ⟨_, _, _, rfl, rfl, e106, rfl, rfl⟩) ea_nil))) B82 H83 (Ex.refl _) w85 _ fun v99 B100 H101 x102 w103 h104 => qY97 v99 B100 H101 _ rfl x102 w103 h104))) ea_nil))) rfl ⟨0, _, rfl⟩ e112 fun B113 H113 x113 (w113 : Own K B113 M [⟨p11, (cLst (rT2 rInt (rLst (rT2 rInt (rT2 rInt rInt))))), (s14 ++ [(t41.1, t109.1)])⟩] H113) => ?_
      replace hb16 : some _ = some _ := hb16
      cases hb16
      exact hN29 _ _ _ ((x43.trans x78).trans x113) w113 ⟨_, _, _, _, rfl⟩
    rintro B115 H116 σ119 x117 w118 ⟨o120, o121, o122, o123, rfl⟩
    replace w118 : Own K B115 M [⟨p11, (cLst (rT2 rInt (rLst (rT2 rInt (rT2 rInt rInt))))), s114⟩] H116 := w118
    replace hm : some _ = some _ := hm
    obtain rfl := Option.some.inj hm
    exact q_retC (n := 0) (m := 2) w118 rfl rfl fun v9 B9 x9 w9 h9 => k _ _ _ ((x10.trans x117).trans x9) w9 h9
noncomputable def m_l_filled (a0 : (List (Int × (List (Int × (Int × Int)))))) (a1 : (List Int)) (a2 : (List (Int × Int))) (a3 : (List (Int × Int))) : Option (List (Int × Int)) :=
  Option.bind (foldO (S := ((List (Int × Int)) × (List (List (Int × Int))))) (α := Int) (fun (s14 : ((List (Int × Int)) × (List (List (Int × Int))))) (x15 : Int) => (
    Option.bind (room a1.length) fun t63 =>
    Option.bind (compM (S := Unit) (β := (Int × Int)) (fun (s39 : Unit) (x46 : Int) => ( some (some (((if (decide (x46 = x15)) = true then (1 : Int) else 0), (1 : Int))), ()))) (()) a1) fun t65 =>
    Option.bind (ixL a3 x15) fun t69 =>
    Option.bind (ixL a0 x15) fun t74 =>
    Option.bind (foldO (S := ((Int × Int) × (List (Int × Int)))) (α := (Int × (Int × Int))) (fun (s76 : ((Int × Int) × (List (Int × Int)))) (x77 : (Int × (Int × Int))) => (
      Option.bind (if (decide (x77.1 ∈ a1)) = true then
        Option.bind (idxI a1 x77.1) fun t108 =>
        Option.bind (ixL s76.2 t108) fun t113 =>
        Option.bind (m_l_plus t113 ((((0 : Int) - x77.2.1), x77.2.2))) fun t115 =>
        Option.bind (ixO s76.2.length t108) fun t117 =>
        some ((s76.1, (s76.2.set t117 t115)))
      else
        Option.bind (ixL a2 x77.1) fun t121 =>
        Option.bind (m_l_times x77.2 t121) fun t123 =>
        Option.bind (m_l_plus s76.1 t123) fun t125 =>
        some ((t125, s76.2))
      ) fun (s105 : ((Int × Int) × (List (Int × Int)))) =>
      some ((s105.1, s105.2))
    )) ((t69, t65.1)) t74.2) fun s135 =>
    Option.bind (room s14.2.length) fun t146 =>
    Option.bind (room s14.1.length) fun t149 =>
    some (((s14.1 ++ [s135.1]), (s14.2 ++ [s135.2])))
  )) ((([] : List (Int × Int)), ([] : List (List (Int × Int))))) a1) fun s153 =>
  Option.bind (m_l_solve s153.2 s153.1) fun t173 =>
  Option.bind (small62 ((a1.length : Int))) fun t180 =>
  Option.bind (foldO (S := (List (Int × Int))) (α := Int) (fun (s182 : (List (Int × Int))) (x183 : Int) => (
    Option.bind (t173) fun t202 =>
    Option.bind (ixL t202 x183) fun t204 =>
    Option.bind (ixL a1 x183) fun t206 =>
    Option.bind (ixO s182.length t206) fun t208 =>
    some ((s182.set t208 t204))
  )) a2 ((rng 0 ((a1.length : Int))))) fun s211 =>
  some s211
def C__law_filled : List Arg → List Cell → Arg → List Cell → Prop := fun as L r L' => ∃ a0 a1 a2 a3 c, as = [⟨(rLst (rT2 rInt (rLst (rT2 rInt (rT2 rInt rInt))))), a0⟩, ⟨(rLst rInt), a1⟩, ⟨(rLst (rT2 rInt rInt)), a2⟩, ⟨(rLst (rT2 rInt rInt)), a3⟩] ∧ L = [] ∧ m_l_filled a0 a1 a2 a3 = some c ∧ r = ⟨(rLst (rT2 rInt rInt)), c⟩ ∧ L' = []
theorem sc__law_filled : FnScope ["_law_chain_here", "_law_unknown", "_law_known", "_law_extra", "_law_rows", "_law_right", "_law_one", "_law_row", "_law_side", "_law_goal", "_law_chance", "_law_at", "_law_found", "_law_values", "_law_k", "_law_other"] ["_law_chain_here", "_law_unknown", "_law_known", "_law_extra"] (defScope s__law_filled) := ⟨rfl, rfl, rfl, by decide +kernel, rfl, by decide +kernel, by decide +kernel⟩
set_option maxHeartbeats 0 in
theorem ok__law_filled (F : FunC K "_law_filled" s__law_filled f fd cc) (c__law_plus : Cl P w K mg base 2 "_law_plus" (spV K T C__law_plus) []) (c__law_times : Cl P w K mg base 2 "_law_times" (spV K T C__law_times) []) (c__law_solve : Cl P w K mg base 3 "_law_solve" (spV K T C__law_solve) []) (z_int : mg "int" = none) (z_list : mg "list" = none) (z_range : mg "range" = none) (z_len : mg "len" = none) : FnOk P w K mg base CX0 4 f fd ["_law_chain_here", "_law_unknown", "_law_known", "_law_extra"] (spV K T C__law_filled) := by
  refine F.ok sc__law_filled (fun vs H Q E h => ?_) (fun A outer s H vs Q E hr h => ?_)
  · obtain ⟨B, M, L, as, r, L', hT, w, ha, ⟨_, _, _, _, _, rfl, _⟩, k⟩ := h
    exact args_len ha
  · skip
    obtain ⟨B, M, L, as, r, L', rfl, w, ha, ⟨a0, a1, a2, a3, c, rfl, rfl, hm, rfl, rfl⟩, k⟩ := h
    obtain ⟨u0, u1, u2, u3, rfl, f0, f1, f2, f3⟩ := args4 ha
    replace f0 : ((rLst (rT2 rInt (rLst (rT2 rInt (rT2 rInt rInt)))))).is K B u0 a0 := f0
    replace f1 : ((rLst rInt)).is K B u1 a1 := f1
    replace f2 : ((rLst (rT2 rInt rInt))).is K B u2 a2 := f2
    replace f3 : ((rLst (rT2 rInt rInt))).is K B u3 a3 := f3
    unfold m_l_filled at hm
    refine ⟨_, (pss_cons (ps_set (i := 4) sc__law_filled.nd rfl (by first | exact Or.inl rfl | exact Or.inr rfl) (pe_lst pa_nil)) (pss_cons (ps_set (i := 5) sc__law_filled.nd rfl (by first | exact Or.inl rfl | exact Or.inr rfl) (pe_lst pa_nil)) (pss_cons (ps_for PassesOwn.never rfl (pi_list (pv 1)) (pg_name (i := 6) sc__law_filled.nd rfl (by first | exact Or.inl rfl | exact Or.inr rfl)) (pss_cons (ps_setLc (i := 7) rfl sc__law_filled.nd rfl rfl rfl (pi_list (pv 1)) (blkOk_by (own := [("_law_other", 15)]) (show blkC ["_law_chain_here", "_law_unknown", "_law_known", "_law_extra", "_law_rows", "_law_right", "_law_one", "_law_row", "_law_side", "_law_goal", "_law_chance", "_law_at", "_law_found", "_law_values", "_law_k", "_law_other"] (defScope s__law_filled) _ _ = true by decide +kernel)) (fun _ _ _ _ _ => (pg_name (i := 15) sc__law_filled.nd rfl (by first | exact Or.inl rfl | exact Or.inr rfl))) (fun _ _ _ _ _ => pts_nil) (fun _ _ _ _ _ => (pe_tup (pa_cons (pe_callTy call_int1 rfl z_int bt_int (pa_cons (pe_cmpR op_eq (pv 15) (pv 6) (nomark _)) pa_nil)) (pa_cons pe_int pa_nil))))) (pss_cons (ps_set (i := 8) sc__law_filled.nd rfl (by first | exact Or.inl rfl | exact Or.inr rfl) (pe_ix ix_seq (pv 3) (pv 6) (fun _ _ => rfl))) (pss_cons (ps_for PassesOwn.never rfl (pi_list (pe_ix ix_seq (pe_ix ix_seq (pv 0) (pv 6) (fun _ _ => rfl)) pe_int (fun _ _ => rfl))) (pg_tup rfl (pgs_cons (pg_name (i := 9) sc__law_filled.nd rfl (by first | exact Or.inl rfl | exact Or.inr rfl)) (pgs_cons (pg_name (i := 10) sc__law_filled.nd rfl (by first | exact Or.inl rfl | exact Or.inr rfl)) pgs_nil))) (Evl.pss_cut (ps_if (pt_cmpR op_in_seq (pv 9) (pv 1) rfl) (pss_cons (ps_set (i := 11) sc__law_filled.nd rfl (by first | exact Or.inl rfl | exact Or.inr rfl) (pe_bm PySem.F.plainAttrs_list PySem.F.slot_list_index PySem.F.type_list_index mt_index (pv 1) (pa_cons (pv 9) pa_nil))) (pss_cons (ps_asg (pe_c c__law_plus hr (by omega) rfl (pa_cons (pe_ix ix_seq (pv 7) (pv 11) (fun _ _ => rfl)) (pa_cons (pe_tup (pa_cons (pe_op op_sub pe_int (pe_ix ix_seq (pv 10) pe_int (fun _ _ => rfl))) (pa_cons (pe_ix ix_seq (pv 10) pe_int (fun _ _ => rfl)) pa_nil))) pa_nil))) (pg_sub (pv 7) (pv 11) set_list)) pss_nil)) (pss_cons (ps_set (i := 8) sc__law_filled.nd rfl (by first | exact Or.inl rfl | exact Or.inr rfl) (pe_c c__law_plus hr (by omega) rfl (pa_cons (pv 8) (pa_cons (pe_c c__law_times hr (by omega) rfl (pa_cons (pv 10) (pa_cons (pe_ix ix_seq (pv 2) (pv 9) (fun _ _ => rfl)) pa_nil))) pa_nil)))) pss_nil)) pss_nil)) (pss_cons (ps_expr (pe_bm PySem.F.plainAttrs_list PySem.F.slot_list_append PySem.F.type_list_append mt_append (pv 4) (pa_cons (pv 7) pa_nil))) (pss_cons (ps_expr (pe_bm PySem.F.plainAttrs_list PySem.F.slot_list_append PySem.F.type_list_append mt_append (pv 5) (pa_cons (pv 8) pa_nil))) pss_nil)))))) (pss_cons (ps_set (i := 12) sc__law_filled.nd rfl (by first | exact Or.inl rfl | exact Or.inr rfl) (pe_c c__law_solve hr (by omega) rfl (pa_cons (pv 4) (pa_cons (pv 5) pa_nil)))) (pss_cons (ps_set (i := 13) sc__law_filled.nd rfl (by first | exact Or.inl rfl | exact Or.inr rfl) (pe_callTy call_list_of rfl z_list bt_list (pa_cons (pv 2) pa_nil))) (pss_cons (ps_for PassesOwn.never rfl (pi_range1 rfl z_range (pa_cons (pe_callB call_len_seq rfl z_len bt_len (pa_cons (pv 1) pa_nil)) pa_nil)) (pg_name (i := 14) sc__law_filled.nd rfl (by first | exact Or.inl rfl | exact Or.inr rfl)) (pss_cons (ps_asg (pe_ix ix_seq (pv 12) (pv 14) (fun _ _ => rfl)) (pg_sub (pv 13) (pe_ix ix_seq (pv 1) (pv 14) (fun _ _ => rfl)) set_list)) pss_nil)) (pss_cons (ps_ret (pv 13)) pss_nil))))))), ?_⟩
    rw [show start ["_law_chain_here", "_law_unknown", "_law_known", "_law_extra", "_law_rows", "_law_right", "_law_one", "_law_row", "_law_side", "_law_goal", "_law_chance", "_law_at", "_law_found", "_law_values", "_law_k", "_law_other"] [u0, u1, u2, u3] = ([some u0, some u1, some u2, some u3, none, none, none, none, none, none, none, none, none, none, none, none] : L2.St) from rfl]
    refine q_asgL (n := 4) w (el_lst (r := (rLst (rT2 rInt rInt))) ([] : List (List (Int × Int))) ea_nil) fun p11 B10 H10 x10 (w10 : Own K B10 M [⟨p11, (cLst (rLst (rT2 rInt rInt))), ([] : List (List (Int × Int)))⟩] H10) => ?_
    refine q_asgL (n := 5) w10 (el_lst (r := (rT2 rInt rInt)) ([] : List (Int × Int)) ea_nil) fun p13 B12 H12 x12 (w12 : Own K B12 M [⟨p13, (cLst (rT2 rInt rInt)), ([] : List (Int × Int))⟩, ⟨p11, (cLst (rLst (rT2 rInt rInt))), ([] : List (List (Int × Int)))⟩] H12) => ?_
    obtain ⟨s153, e18, hm⟩ := bindS hm
    refine q_fold w12 (ei_lst (ev_var rfl (((rLst rInt)).mono (x10.trans x12) f1))) _ (fun s14 B19 σ32 => ∃ o33 o34 o35 o36 o37 o38, σ32 = [some u0, some u1, some u2, some u3, some (.ref p11), some (.ref p13), o33, o34, o35, o36, o37, o38, none, none, none, none]) (fun s14 => [⟨p13, (cLst (rT2 rInt rInt)), s14.1⟩, ⟨p11, (cLst (rLst (rT2 rInt rInt))), s14.2⟩]) ((([] : List (Int × Int)), ([] : List (List (Int × Int))))) e18 (fun B9 x9 => ⟨_, _, _, _, _, _, rfl⟩) rfl ?_ ?_
    · skip
      rintro s14 x15 s219 v25 B19 B20 H21 σ32 hb16 x22 ⟨o33, o34, o35, o36, o37, o38, rfl⟩ x23 w24 h26 N27 K28 hN29
      replace w24 : Own K B20 M [⟨p13, (cLst (rT2 rInt rInt)), s14.1⟩, ⟨p11, (cLst (rLst (rT2 rInt rInt))), s14.2⟩] H21 := w24
      refine g_name ?_
      obtain ⟨t63, e64, hb16⟩ := bindS hb16
      obtain ⟨t65, e66, hb16⟩ := bindS hb16
      refine q_asgL (n := 7) w24 (el_lc (S := Unit) (ys := t65.1) (s1 := t65.2) (s0 := ()) (σ' := [some u0, some u1, some u2, some u3, some (.ref p11), some (.ref p13), some v25, o34, o35, o36, o37, o38, none, none, none, none]) (rT2 rInt rInt) (ei_lst (ev_var rfl (((rLst rInt)).mono (((x10.trans x12).trans x22).trans x23) f1))) _ (fun (s39 : Unit) => [⟨p13, (cLst (rT2 rInt rInt)), s14.1⟩, ⟨p11, (cLst (rLst (rT2 rInt rInt))), s14.2⟩]) rfl e66 e64 rfl (by rintro s39 x46 o51 s52 v44 D49 a50 B40 H41 hb48 x42 w43 h45 PY53 PN54 qY55 qN56; replace w43 : Own K B40 M [⟨D49, (cLst (rT2 rInt rInt)), a50⟩, ⟨p13, (cLst (rT2 rInt rInt)), s14.1⟩, ⟨p11, (cLst (rLst (rT2 rInt rInt))), s14.2⟩] H41 := w43; refine g_name ?_; refine ⟨rfl, ?_⟩; obtain ⟨rfl, rfl⟩ := Prod.mk.inj (Option.some.inj hb48); refine lc_yes ?_; exact (ev_T2 (ea_cons (ev_intB (ev_eqI (ev_varI rfl h45) (ev_varI rfl h26))) (ea_cons (ev_int (i := 1)) ea_nil))) B40 H41 (Ex.refl _) w43 _ fun v57 B58 H59 x60 w61 h62 => qY55 v57 B58 H59 _ rfl x60 w61 h62)) fun p68 B67 H67 x67 (w67 : Own K B67 M [⟨p68, (cLst (rT2 rInt rInt)), t65.1⟩, ⟨p13, (cLst (rT2 rInt rInt)), s14.1⟩, ⟨p11, (cLst (rLst (rT2 rInt rInt))), s14.2⟩] H67) => ?_
      obtain ⟨t69, e70, hb16⟩ := bindS hb16
      refine q_asg (n := 8) w67 (ev_ix (ev_seqL (ev_var rfl (((rLst (rT2 rInt rInt))).mono ((((x10.trans x12).trans x22).trans x23).trans x67) f3))) (ev_varI rfl h26) e70) fun v72 B71 H71 x71 (w71 : Own K B71 M [⟨p68, (cLst (rT2 rInt rInt)), t65.1⟩, ⟨p13, (cLst (rT2 rInt rInt)), s14.1⟩, ⟨p11, (cLst (rLst (rT2 rInt rInt))), s14.2⟩] H71) h73 => ?_
      obtain ⟨t74, e75, hb16⟩ := bindS hb16
      obtain ⟨s135, e80, hb16⟩ := bindS hb16
      refine q_fold w71 (ei_lst (ev_snd (ev_ix (ev_seqL (ev_var rfl (((rLst (rT2 rInt (rLst (rT2 rInt (rT2 rInt rInt)))))).mono (((((x10.trans x12).trans x22).trans x23).trans x67).trans x71) f0))) (ev_varI rfl h26) e75))) _ (fun s76 B81 σ94 => ∃ v95 o97 o98 o99, σ94 = [some u0, some u1, some u2, some u3, some (.ref p11), some (.ref p13), some v25, some (.ref p68), some v95, o97, o98, o99, none, none, none, none] ∧ ((rT2 rInt rInt)).is K B81 v95 s76.1) (fun s76 => [⟨p68, (cLst (rT2 rInt rInt)), s76.2⟩, ⟨p13, (cLst (rT2 rInt rInt)), s14.1⟩, ⟨p11, (cLst (rLst (rT2 rInt rInt))), s14.2⟩]) ((t69, t65.1)) e80 (fun B9 x9 => ⟨v72, _, _, _, rfl, (((rT2 rInt rInt)).mono x9 h73)⟩) rfl ?_ ?_
      · skip
        rintro s76 x77 s152 v87 B81 B82 H83 σ94 hb78 x84 ⟨v95, o97, o98, o99, rfl, h96⟩ x85 w86 h88 N89 K90 hN91
        replace w86 : Own K B82 M [⟨p68, (cLst (rT2 rInt rInt)), s76.2⟩, ⟨p13, (cLst (rT2 rInt rInt)), s14.1⟩, ⟨p11, (cLst (rLst (rT2 rInt rInt))), s14.2⟩] H83 := w86
        refine g_T2 h88 w86 fun v100 v101 h102 h103 => ?_
        refine g_cons ?_
        refine g_name ?_
        refine g_cons ?_
        refine g_name ?_
        refine g_nil ?_
        obtain ⟨s105, e106, hb78⟩ := bindS hb78
        refine q_cut (fun σ134 H130 => ∃ v131 o133 B130, Ex B82 B130 ∧ Own K B130 M [⟨p68, (cLst (rT2 rInt rInt)), s105.2⟩, ⟨p13, (cLst (rT2 rInt rInt)), s14.1⟩, ⟨p11, (cLst (rLst (rT2 rInt rInt))), s14.2⟩] H130 ∧ σ134 = [some u0, some u1, some u2, some u3, some (.ref p11), some (.ref p13), some v25, some (.ref p68), some v131, some v100, some v101, o133, none, none, none, none] ∧ ((rT2 rInt rInt)).is K B130 v131 s105.1) ?_ ?_
        · skip
          refine q_ifc w86 (et_test (ev_inI (ev_varI rfl h102) (ev_seqL (ev_var rfl (((rLst rInt)).mono (((((((x10.trans x12).trans x22).trans x23).trans x67).trans x71).trans x84).trans x85) f1))))) (fun hb104 B107 H107 x107 (w107 : Own K B107 M [⟨p68, (cLst (rT2 rInt rInt)), s76.2⟩, ⟨p13, (cLst (rT2 rInt rInt)), s14.1⟩, ⟨p11, (cLst (rLst (rT2 rInt rInt))), s14.2⟩] H107) => ?_) (fun hb104 B120 H120 x120 (w120 : Own K B120 M [⟨p68, (cLst (rT2 rInt rInt)), s76.2⟩, ⟨p13, (cLst (rT2 rInt rInt)), s14.1⟩, ⟨p11, (cLst (rLst (rT2 rInt rInt))), s14.2⟩] H120) => ?_)
          · skip
            rw [if_pos hb104] at e106
            obtain ⟨t108, e109, e106⟩ := bindS e106
            refine q_asg (n := 11) w107 (ev_index (ev_var rfl (((rLst rInt)).mono ((((((((x10.trans x12).trans x22).trans x23).trans x67).trans x71).trans x84).trans x85).trans x107) f1)) (ev_varI rfl h102) e109) fun v111 B110 H110 x110 (w110 : Own K B110 M [⟨p68, (cLst (rT2 rInt rInt)), s76.2⟩, ⟨p13, (cLst (rT2 rInt rInt)), s14.1⟩, ⟨p11, (cLst (rLst (rT2 rInt rInt))), s14.2⟩] H110) h112 => ?_
            obtain ⟨t113, e114, e106⟩ := bindS e106
            obtain ⟨t115, e116, e106⟩ := bindS e106
            obtain ⟨t117, e118, e106⟩ := bindS e106
            refine q_setC (n := 0) w110 (ev_call (ea_cons (ev_ixC (n := 0) (ev_varR rfl) (ev_varI rfl h112) rfl e114) (ea_cons (ev_T2 (ea_cons (ev_sub (ev_int (i := 0)) (ev_fst (ev_var rfl (((rT2 rInt rInt)).mono (x107.trans x110) h103)))) (ea_cons (ev_snd (ev_var rfl (((rT2 rInt rInt)).mono (x107.trans x110) h103))) ea_nil))) ea_nil)) ⟨_, _, _, rfl, rfl, e116, rfl, rfl⟩) rfl (ev_varI rfl h112) rfl e118 fun B119 H119 x119 (w119 : Own K B119 M [⟨p68, (cLst (rT2 rInt rInt)), (s76.2.set t117 t115)⟩, ⟨p13, (cLst (rT2 rInt rInt)), s14.1⟩, ⟨p11, (cLst (rLst (rT2 rInt rInt))), s14.2⟩] H119) => ?_
            replace e106 : some _ = some _ := e106
            cases e106
            exact ⟨v95, _, _, ((x107.trans x110).trans x119), w119, rfl, (((rT2 rInt rInt)).mono (((x85.trans x107).trans x110).trans x119) h96)⟩
          rw [if_neg (by rw [hb104]; exact Bool.false_ne_true)] at e106
          obtain ⟨t121, e122, e106⟩ := bindS e106
          obtain ⟨t123, e124, e106⟩ := bindS e106
          obtain ⟨t125, e126, e106⟩ := bindS e106
          refine q_asg (n := 8) w120 (ev_call (ea_cons (ev_var rfl (((rT2 rInt rInt)).mono (x85.trans x120) h96)) (ea_cons (ev_call (ea_cons (ev_var rfl (((rT2 rInt rInt)).mono x120 h103)) (ea_cons (ev_ix (ev_seqL (ev_var rfl (((rLst (rT2 rInt rInt))).mono ((((((((x10.trans x12).trans x22).trans x23).trans x67).trans x71).trans x84).trans x85).trans x120) f2))) (ev_varI rfl h102) e122) ea_nil)) ⟨_, _, _, rfl, rfl, e124, rfl, rfl⟩) ea_nil)) ⟨_, _, _, rfl, rfl, e126, rfl, rfl⟩) fun v128 B127 H127 x127 (w127 : Own K B127 M [⟨p68, (cLst (rT2 rInt rInt)), s76.2⟩, ⟨p13, (cLst (rT2 rInt rInt)), s14.1⟩, ⟨p11, (cLst (rLst (rT2 rInt rInt))), s14.2⟩] H127) h129 => ?_
          replace e106 : some _ = some _ := e106
          cases e106
          exact ⟨v128, _, _, (x120.trans x127), w127, rfl, h129⟩
        rintro σ134' H130 ⟨v131, o133, B130, x130, w130, rfl, h132⟩
        replace hb78 : some _ = some _ := hb78
        cases hb78
        exact hN91 _ _ _ x130 w130 ⟨v131, _, _, _, rfl, h132⟩
      rintro B136 H137 σ140 x138 w139 ⟨v141, o143, o144, o145, rfl, h142⟩
      replace w139 : Own K B136 M [⟨p68, (cLst (rT2 rInt rInt)), s135.2⟩, ⟨p13, (cLst (rT2 rInt rInt)), s14.1⟩, ⟨p11, (cLst (rLst (rT2 rInt rInt))), s14.2⟩] H137 := w139
      obtain ⟨t146, e147, hb16⟩ := bindS hb16
      refine q_app (n := 1) (m := 4) w139 rfl (ev_frzC (n := 0) (ev_varR rfl) rfl) rfl ⟨2, _, rfl⟩ e147 fun B148 H148 x148 (w148 : Own K B148 M [⟨p13, (cLst (rT2 rInt rInt)), s14.1⟩, ⟨p11, (cLst (rLst (rT2 rInt rInt))), (s14.2 ++ [s135.2])⟩] H148) => ?_
      obtain ⟨t149, e150, hb16⟩ := bindS hb16
      refine q_app (n := 0) (m := 5) w148 rfl (ev_var rfl (((rT2 rInt rInt)).mono x148 h142)) rfl ⟨0, _, rfl⟩ e150 fun B151 H151 x151 (w151 : Own K B151 M [⟨p13, (cLst (rT2 rInt rInt)), (s14.1 ++ [s135.1])⟩, ⟨p11, (cLst (rLst (rT2 rInt rInt))), (s14.2 ++ [s135.2])⟩] H151) => ?_
      replace hb16 : some _ = some _ := hb16
      cases hb16
      exact hN29 _ _ _ ((((x67.trans x71).trans x138).trans x148).trans x151) w151 ⟨_, _, _, _, _, _, rfl⟩
    rintro B154 H155 σ158 x156 w157 ⟨o159, o160, o161, o162, o163, o164, rfl⟩
    replace w157 : Own K B154 M [⟨p13, (cLst (rT2 rInt rInt)), s153.1⟩, ⟨p11, (cLst (rLst (rT2 rInt rInt))), s153.2⟩] H155 := w157
    obtain ⟨B165, x166, w167, h168⟩ := frz_step (n := 1) w157 rfl
    replace w167 : Own K B165 M [⟨p13, (cLst (rT2 rInt rInt)), s153.1⟩] H155 := w167
    obtain ⟨B169, x170, w171, h172⟩ := frz_step (n := 0) w167 rfl
    replace w171 : Own K B169 M [] H155 := w171
    obtain ⟨t173, e174, hm⟩ := bindS hm
    refine q_asg (n := 12) w171 (ev_call (ea_cons (ev_var rfl (((rLst (rLst (rT2 rInt rInt)))).mono x170 h168)) (ea_cons (ev_var rfl h172) ea_nil)) ⟨_, _, _, rfl, rfl, e174, rfl, rfl⟩) fun v176 B175 H175 x175 (w175 : Own K B175 M [] H175) h177 => ?_
    refine q_asgL (n := 13) w175 (el_listOf (ev_seqL (ev_var rfl (((rLst (rT2 rInt rInt))).mono (((((x10.trans x12).trans x156).trans x166).trans x170).trans x175) f2)))) fun p179 B178 H178 x178 (w178 : Own K B178 M [⟨p179, (cLst (rT2 rInt rInt)), a2⟩] H178) => ?_
    obtain ⟨t180, e181, hm⟩ := bindS hm
    obtain ⟨s211, e186, hm⟩ := bindS hm
    refine q_fold w178 (ei_rng1 (ea_cons (ev_len (ev_seqL (ev_var rfl (((rLst rInt)).mono ((((((x10.trans x12).trans x156).trans x166).trans x170).trans x175).trans x178) f1)))) ea_nil) e181) _ (fun s182 B187 σ200 => ∃ o201, σ200 = [some u0, some u1, some u2, some u3, some (.ref p11), some (.ref p13), o159, o160, o161, o162, o163, o164, some v176, some (.ref p179), o201, none]) (fun s182 => [⟨p179, (cLst (rT2 rInt rInt)), s182⟩]) a2 e186 (fun B9 x9 => ⟨_, rfl⟩) rfl ?_ ?_
    · skip
      rintro s182 x183 s218 v193 B187 B188 H189 σ200 hb184 x190 ⟨o201, rfl⟩ x191 w192 h194 N195 K196 hN197
      replace w192 : Own K B188 M [⟨p179, (cLst (rT2 rInt rInt)), s182⟩] H189 := w192
      refine g_name ?_
      obtain ⟨t202, e203, hb184⟩ := bindS hb184
      obtain ⟨t204, e205, hb184⟩ := bindS hb184
      obtain ⟨t206, e207, hb184⟩ := bindS hb184
      obtain ⟨t208, e209, hb184⟩ := bindS hb184
      refine q_setC (n := 0) w192 (ev_ix (ev_seqL (ev_get (ev_var rfl (((rOpt (rLst (rT2 rInt rInt)))).mono ((x178.trans x190).trans x191) h177)) e203)) (ev_varI rfl h194) e205) rfl (ev_ix (ev_seqL (ev_var rfl (((rLst rInt)).mono ((((((((x10.trans x12).trans x156).trans x166).trans x170).trans x175).trans x178).trans x190).trans x191) f1))) (ev_varI rfl h194) e207) rfl e209 fun B210 H210 x210 (w210 : Own K B210 M [⟨p179, (cLst (rT2 rInt rInt)), (s182.set t208 t204)⟩] H210) => ?_
      replace hb184 : some _ = some _ := hb184
      cases hb184
      exact hN197 _ _ _ x210 w210 ⟨_, rfl⟩
    rintro B212 H213 σ216 x214 w215 ⟨o217, rfl⟩
    replace w215 : Own K B212 M [⟨p179, (cLst (rT2 rInt rInt)), s211⟩] H213 := w215
    replace hm : some _ = some _ := hm
    obtain rfl := Option.some.inj hm
    exact q_retC (n := 0) (m := 13) w215 rfl rfl fun v9 B9 x9 w9 h9 => k _ _ _ ((((((((x10.trans x12).trans x156).trans x166).trans x170).trans x175).trans x178).trans x214).trans x9) w9 h9
noncomputable def m_l_backward (a0 : (List (Int × (List (Int × (Int × Int)))))) (a1 : (List Int)) (a2 : (List Int)) : Option (List Int) :=
  Option.bind (small62 ((a0.length : Int))) fun t12 =>
  Option.bind (foldO (S := (List Int)) (α := Int) (fun (s14 : (List Int)) (x15 : Int) => (
    Option.bind (foldO (S := (List Int)) (α := Int) (fun (s35 : (List Int)) (x36 : Int) => (
      Option.bind ((if (!decide (x36 ∈ s35)) = true then (Option.bind (ixL a0 x36) fun t55 => Option.bind (room t55.2.length) fun t86 => Option.bind (compM (S := Unit) (β := (Int × (Int × Int))) (fun (s57 : Unit) (x64 : (Int × (Int × Int))) => ( if (decide (x64.1 ∈ s35)) = true then ( some (some x64, ())) else some (none, ()))) (()) t55.2) fun t88 => some ((decide ((t88.1.length : Int) > (0 : Int))))) else (some (false)))) fun t90 =>
      Option.bind (if t90 = true then
        Option.bind (room s35.length) fun t97 =>
        some ((s35 ++ [x36]))
      else
        some s35
      ) fun (s94 : (List Int)) =>
      some s94
    )) s14 a1) fun s103 =>
    some s103
  )) a2 ((rng 0 ((a0.length : Int))))) fun s111 =>
  some s111
def C__law_backward : List Arg → List Cell → Arg → List Cell → Prop := fun as L r L' => ∃ a0 a1 a2 c, as = [⟨(rLst (rT2 rInt (rLst (rT2 rInt (rT2 rInt rInt))))), a0⟩, ⟨(rLst rInt), a1⟩, ⟨(rLst rInt), a2⟩] ∧ L = [] ∧ m_l_backward a0 a1 a2 = some c ∧ r = ⟨(rLst rInt), c⟩ ∧ L' = []
theorem sc__law_backward : FnScope ["_law_chain_here", "_law_rest", "_law_known", "_law_found", "_law_k", "_law_one", "_law_end"] ["_law_chain_here", "_law_rest", "_law_known"] (defScope s__law_backward) := ⟨rfl, rfl, rfl, by decide +kernel, rfl, by decide +kernel, by decide +kernel⟩
set_option maxHeartbeats 0 in
theorem ok__law_backward (F : FunC K "_law_backward" s__law_backward f fd cc) (z_list : mg "list" = none) (z_range : mg "range" = none) (z_len : mg "len" = none) : FnOk P w K mg base CX0 1 f fd ["_law_chain_here", "_law_rest", "_law_known"] (spV K T C__law_backward) := by
  refine F.ok sc__law_backward (fun vs H Q E h => ?_) (fun A outer s H vs Q E hr h => ?_)
  · obtain ⟨B, M, L, as, r, L', hT, w, ha, ⟨_, _, _, _, rfl, _⟩, k⟩ := h
    exact args_len ha
  · skip
    obtain ⟨B, M, L, as, r, L', rfl, w, ha, ⟨a0, a1, a2, c, rfl, rfl, hm, rfl, rfl⟩, k⟩ := h
    obtain ⟨u0, u1, u2, rfl, f0, f1, f2⟩ := args3 ha
    replace f0 : ((rLst (rT2 rInt (rLst (rT2 rInt (rT2 rInt rInt)))))).is K B u0 a0 := f0
    replace f1 : ((rLst rInt)).is K B u1 a1 := f1
    replace f2 : ((rLst rInt)).is K B u2 a2 := f2
    unfold m_l_backward at hm
    refine ⟨_, (pss_cons (ps_set (i := 3) sc__law_backward.nd rfl (by first | exact Or.inl rfl | exact Or.inr rfl) (pe_callTy call_list_of rfl z_list bt_list (pa_cons (pv 2) pa_nil))) (pss_cons (ps_for PassesOwn.never rfl (pi_range1 rfl z_range (pa_cons (pe_callB call_len_seq rfl z_len bt_len (pa_cons (pv 0) pa_nil)) pa_nil)) (pg_name (i := 4) sc__law_backward.nd rfl (by first | exact Or.inl rfl | exact Or.inr rfl)) (pss_cons (ps_for PassesOwn.never rfl (pi_list (pv 1)) (pg_name (i := 5) sc__law_backward.nd rfl (by first | exact Or.inl rfl | exact Or.inr rfl)) (Evl.pss_cut (ps_if (PW.pt (pw_and (pt_cmpR op_notIn_seq (pv 5) (pv 3) rfl) (pw_and1 (pt_cmpR op_gt (pe_callB call_len_seq rfl z_len bt_len (pa_cons (pe_lc rfl sc__law_backward.nd (pi_list (pe_ix ix_seq (pe_ix ix_seq (pv 0) (pv 5) (fun _ _ => rfl)) pe_int (fun _ _ => rfl))) (blkOk_by (own := [("_law_end", 6)]) (show blkC ["_law_chain_here", "_law_rest", "_law_known", "_law_found", "_law_k", "_law_one", "_law_end"] (defScope s__law_backward) _ _ = true by decide +kernel)) (fun _ _ _ _ _ => (pg_name (i := 6) sc__law_backward.nd rfl (by first | exact Or.inl rfl | exact Or.inr rfl))) (fun _ _ _ _ _ => (pts_one (pt_cmpR (show OpR _ _ (rIn K false) from op_in_seq) (pe_ix (show IxR _ (rIx K) from ix_seq) (pv 6) pe_int (fun _ _ => rfl)) (pv 3) rfl))) (fun _ _ _ _ _ => (pv 6))) pa_nil)) pe_int (nomark _))))) (pss_cons (ps_expr (pe_bm PySem.F.plainAttrs_list PySem.F.slot_list_append PySem.F.type_list_append mt_append (pv 3) (pa_cons (pv 5) pa_nil))) pss_nil) pss_nil) pss_nil)) pss_nil)) (pss_cons (ps_ret (pv 3)) pss_nil))), ?_⟩
    rw [show start ["_law_chain_here", "_law_rest", "_law_known", "_law_found", "_law_k", "_law_one", "_law_end"] [u0, u1, u2] = ([some u0, some u1, some u2, none, none, none, none] : L2.St) from rfl]
    refine q_asgL (n := 3) w (el_listOf (ev_seqL (ev_var rfl f2))) fun p11 B10 H10 x10 (w10 : Own K B10 M [⟨p11, (cLst rInt), a2⟩] H10) => ?_
    obtain ⟨t12, e13, hm⟩ := bindS hm
    obtain ⟨s111, e18, hm⟩ := bindS hm
    refine q_fold w10 (ei_rng1 (ea_cons (ev_len (ev_seqL (ev_var rfl (((rLst (rT2 rInt (rLst (rT2 rInt (rT2 rInt rInt)))))).mono x10 f0)))) ea_nil) e13) _ (fun s14 B19 σ32 => ∃ o33 o34, σ32 = [some u0, some u1, some u2, some (.ref p11), o33, o34, none]) (fun s14 => [⟨p11, (cLst rInt), s14⟩]) a2 e18 (fun B9 x9 => ⟨_, _, rfl⟩) rfl ?_ ?_
    · skip
      rintro s14 x15 s119 v25 B19 B20 H21 σ32 hb16 x22 ⟨o33, o34, rfl⟩ x23 w24 h26 N27 K28 hN29
      replace w24 : Own K B20 M [⟨p11, (cLst rInt), s14⟩] H21 := w24
      refine g_name ?_
      obtain ⟨s103, e39, hb16⟩ := bindS hb16
      refine q_fold w24 (ei_lst (ev_var rfl (((rLst rInt)).mono ((x10.trans x22).trans x23) f1))) _ (fun s35 B40 σ53 => ∃ o54, σ53 = [some u0, some u1, some u2, some (.ref p11), some v25, o54, none]) (fun s35 => [⟨p11, (cLst rInt), s35⟩]) s14 e39 (fun B9 x9 => ⟨_, rfl⟩) rfl ?_ ?_
      · skip
        rintro s35 x36 s110 v46 B40 B41 H42 σ53 hb37 x43 ⟨o54, rfl⟩ x44 w45 h47 N48 K49 hN50
        replace w45 : Own K B41 M [⟨p11, (cLst rInt), s35⟩] H42 := w45
        refine g_name ?_
        obtain ⟨t90, e91, hb37⟩ := bindS hb37
        obtain ⟨s94, e95, hb37⟩ := bindS hb37
        refine q_cut (fun σ102 H101 => ∃ B101, Ex B41 B101 ∧ Own K B101 M [⟨p11, (cLst rInt), s94⟩] H101 ∧ σ102 = [some u0, some u1, some u2, some (.ref p11), some v25, some v46, none]) ?_ ?_
        · skip
          refine q_ifc w45 (et_and' (d := t90) (et_test (ev_niC (ev_varI rfl h47) (ev_varR rfl) (show _[0]? = _ from rfl))) (fun hb92 => by rw [if_pos hb92] at e91; obtain ⟨t55, e56, e91⟩ := bindS e91; obtain ⟨t86, e87, e91⟩ := bindS e91; obtain ⟨t88, e89, e91⟩ := bindS e91; obtain rfl := Option.some.inj e91; exact (et_test (ev_gt (ev_len (ev_seqL (ev_frz (el_lc (S := Unit) (ys := t88.1) (s1 := t88.2) (s0 := ()) (σ' := [some u0, some u1, some u2, some (.ref p11), some v25, some v46, none]) (rT2 rInt (rT2 rInt rInt)) (ei_lst (ev_snd (ev_ix (ev_seqL (ev_var rfl (((rLst (rT2 rInt (rLst (rT2 rInt (rT2 rInt rInt)))))).mono ((((x10.trans x22).trans x23).trans x43).trans x44) f0))) (ev_varI rfl h47) e56))) _ (fun (s57 : Unit) => [⟨p11, (cLst rInt), s35⟩]) rfl e89 e87 rfl (by rintro s57 x64 o69 s70 v62 D67 a68 B58 H59 hb66 x60 w61 h63 PY71 PN72 qY73 qN74; replace w61 : Own K B58 M [⟨D67, (cLst (rT2 rInt (rT2 rInt rInt))), a68⟩, ⟨p11, (cLst rInt), s35⟩] H59 := w61; refine g_name ?_; refine ⟨rfl, ?_⟩; exact (et_test (ev_inC (ev_fst (ev_var rfl h63)) (ev_varR rfl) (show _[1]? = _ from rfl))) B58 H59 (Ex.refl _) w61 _ fun B81 H82 x83 (w84 : Own K B81 M [⟨D67, (cLst (rT2 rInt (rT2 rInt rInt))), a68⟩, ⟨p11, (cLst rInt), s35⟩] H82) => lc_if (fun hq85 => by rw [if_pos hq85] at hb66; obtain ⟨rfl, rfl⟩ := Prod.mk.inj (Option.some.inj hb66); exact (ev_var rfl (((rT2 rInt (rT2 rInt rInt))).mono x83 h63)) B81 H82 (Ex.refl _) w84 _ fun v75 B76 H77 x78 w79 h80 => qY73 v75 B76 H77 _ rfl (x83.trans x78) w79 h80) (fun hq85 => by rw [if_neg (by rw [hq85]; exact Bool.false_ne_true)] at hb66; obtain ⟨rfl, rfl⟩ := Prod.mk.inj (Option.some.inj hb66); exact qN74 B81 H82 rfl x83 w84)))))) (ev_int (i := 0))))) (fun hb92 => by rw [if_neg (by rw [hb92]; exact Bool.false_ne_true)] at e91; obtain rfl := Option.some.inj e91; exact ⟨rfl, rfl⟩)) (fun hb93 B96 H96 x96 (w96 : Own K B96 M [⟨p11, (cLst rInt), s35⟩] H96) => ?_) (fun hb93 B100 H100 x100 (w100 : Own K B100 M [⟨p11, (cLst rInt), s35⟩] H100) => ?_)
          · skip
            rw [if_pos hb93] at e95
            obtain ⟨t97, e98, e95⟩ := bindS e95
            refine q_app (n := 0) (m := 3) w96 rfl (ev_varI rfl h47) rfl ⟨0, _, rfl⟩ e98 fun B99 H99 x99 (w99 : Own K B99 M [⟨p11, (cLst rInt), (s35 ++ [x36])⟩] H99) => ?_
            replace e95 : some _ = some _ := e95
            cases e95
            exact ⟨_, (x96.trans x99), w99, rfl⟩
          rw [if_neg (by rw [hb93]; exact Bool.false_ne_true)] at e95
          replace e95 : some _ = some _ := e95
          cases e95
          exact ⟨_, x100, w100, rfl⟩
        rintro σ102' H101 ⟨B101, x101, w101, rfl⟩
        replace hb37 : some _ = some _ := hb37
        cases hb37
        exact hN50 _ _ _ x101 w101 ⟨_, rfl⟩
      rintro B104 H105 σ108 x106 w107 ⟨o109, rfl⟩
      replace w107 : Own K B104 M [⟨p11, (cLst rInt), s103⟩] H105 := w107
      replace hb16 : some _ = some _ := hb16
      cases hb16
      exact hN29 _ _ _ x106 w107 ⟨_, _, rfl⟩
    rintro B112 H113 σ116 x114 w115 ⟨o117, o118, rfl⟩
    replace w115 : Own K B112 M [⟨p11, (cLst rInt), s111⟩] H113 := w115
    replace hm : some _ = some _ := hm
    obtain rfl := Option.some.inj hm
    exact q_retC (n := 0) (m := 3) w115 rfl rfl fun v9 B9 x9 w9 h9 => k _ _ _ ((x10.trans x114).trans x9) w9 h9
noncomputable def m_l_large (a0 : ((List Int) × Int)) (a1 : Int) : Option ((List (List (Int × (List (Int × Int))))) × ((List Int) × Int)) :=
  Option.bind (small62 a1) fun t12 =>
  Option.bind (foldO (S := ((List (List (Int × (List (Int × Int))))) × ((List Int) × Int))) (α := Int) (fun (s14 : ((List (List (Int × (List (Int × Int))))) × ((List Int) × Int))) (x15 : Int) => (
    Option.bind (m_l_take s14.2 ((3 : Int))) fun t40 =>
    Option.bind (ixL ([(1 : Int), (2 : Int), (6 : Int)]) t40.1) fun t42 =>
    Option.bind (small62 t42) fun t44 =>
    Option.bind (foldO (S := ((List (Int × (List (Int × Int)))) × ((List Int) × Int))) (α := Int) (fun (s46 : ((List (Int × (List (Int × Int)))) × ((List Int) × Int))) (x47 : Int) => (
      Option.bind (m_l_take s46.2 ((6 : Int))) fun t70 =>
      Option.bind (small62 (((1 : Int) + t70.1))) fun t72 =>
      Option.bind (foldO (S := ((List (Int × Int)) × ((List Int) × Int))) (α := Int) (fun (s74 : ((List (Int × Int)) × ((List Int) × Int))) (x75 : Int) => (
        Option.bind (m_l_take s74.2 ((5 : Int))) fun t94 =>
        Option.bind (ixL ([(1 : Int), (1 : Int), (2 : Int), (5 : Int), (1000 : Int)]) t94.1) fun t96 =>
        Option.bind (m_l_take t94.2 a1) fun t98 =>
        Option.bind (room s74.1.length) fun t100 =>
        some (((putI s74.1 t98.1 t96), t98.2))
      )) (([], t70.2)) ((rng 0 (((1 : Int) + t70.1))))) fun s103 =>
      Option.bind (m_l_take s103.2 ((1001 : Int))) fun t110 =>
      Option.bind (room s46.1.length) fun t112 =>
      some (((s46.1 ++ [(t110.1, (sortI s103.1))]), t110.2))
    )) ((([] : List (Int × (List (Int × Int)))), t40.2)) ((rng 0 t42))) fun s116 =>
    Option.bind (room s14.1.length) fun t125 =>
    some (((s14.1 ++ [s116.1]), s116.2))
  )) ((([] : List (List (Int × (List (Int × Int))))), a0)) ((rng 0 a1))) fun s129 =>
  some (s129.1, s129.2)
def C__law_large : List Arg → List Cell → Arg → List Cell → Prop := fun as L r L' => ∃ a0 a1 p0 c, as = [⟨rRef, p0⟩, ⟨rInt, a1⟩] ∧ L = [⟨p0, (cL2 (rLst rInt) rInt), a0⟩] ∧ m_l_large a0 a1 = some c ∧ r = ⟨(rTup (rTup (rT2 rInt (rTup (rT2 rInt rInt))))), c.1⟩ ∧ L' = [⟨p0, (cL2 (rLst rInt) rInt), c.2⟩]
theorem sc__law_large : FnScope ["_law_state", "_law_many", "_law_system_here", "_law_k", "_law_choices_here", "_law_number", "_law_ends_here", "_law_j"] ["_law_state", "_law_many"] (defScope s__law_large) := ⟨rfl, rfl, rfl, by decide +kernel, rfl, by decide +kernel, by decide +kernel⟩
set_option maxHeartbeats 0 in
theorem ok__law_large (F : FunC K "_law_large" s__law_large f fd cc) (c__law_take : Cl P w K mg base 2 "_law_take" (spV K T C__law_take) []) (z_range : mg "range" = none) (z_sorted : mg "sorted" = none) (z_tuple : mg "tuple" = none) : FnOk P w K mg base CX0 3 f fd ["_law_state", "_law_many"] (spV K T C__law_large) := by
  refine F.ok sc__law_large (fun vs H Q E h => ?_) (fun A outer s H vs Q E hr h => ?_)
  · obtain ⟨B, M, L, as, r, L', hT, w, ha, ⟨_, _, _, _, rfl, _⟩, k⟩ := h
    exact args_len ha
  · skip
    obtain ⟨B, M, L, as, r, L', rfl, w, ha, ⟨a0, a1, p0, c, rfl, rfl, hm, rfl, rfl⟩, k⟩ := h
    obtain ⟨u0, u1, rfl, f0, f1⟩ := args2 ha
    replace f0 : u0 = V.ref p0 := f0
    subst f0
    replace f1 : (rInt).is K B u1 a1 := f1
    unfold m_l_large at hm
    refine ⟨_, (pss_cons (ps_set (i := 2) sc__law_large.nd rfl (by first | exact Or.inl rfl | exact Or.inr rfl) (pe_lst pa_nil)) (pss_cons (ps_for PassesOwn.never rfl (pi_range1 rfl z_range (pa_cons (pv 1) pa_nil)) (pg_name (i := 3) sc__law_large.nd rfl (by first | exact Or.inl rfl | exact Or.inr rfl)) (pss_cons (ps_set (i := 4) sc__law_large.nd rfl (by first | exact Or.inl rfl | exact Or.inr rfl) (pe_lst pa_nil)) (pss_cons (ps_for PassesOwn.never rfl (pi_range1 rfl z_range (pa_cons (pe_ix ix_seq (pe_lst (pa_cons pe_int (pa_cons pe_int (pa_cons pe_int pa_nil)))) (pe_c c__law_take hr (by omega) rfl (pa_cons (pv 0) (pa_cons pe_int pa_nil))) (fun _ _ => rfl)) pa_nil)) (pg_name (i := 5) sc__law_large.nd rfl (by first | exact Or.inl rfl | exact Or.inr rfl)) (pss_cons (ps_set (i := 6) sc__law_large.nd rfl (by first | exact Or.inl rfl | exact Or.inr rfl) pe_dnewK) (pss_cons (ps_for PassesOwn.never rfl (pi_range1 rfl z_range (pa_cons (pe_op op_add pe_int (pe_c c__law_take hr (by omega) rfl (pa_cons (pv 0) (pa_cons pe_int pa_nil)))) pa_nil)) (pg_name (i := 7) sc__law_large.nd rfl (by first | exact Or.inl rfl | exact Or.inr rfl)) (pss_cons (ps_asg (pe_ix ix_seq (pe_lst (pa_cons pe_int (pa_cons pe_int (pa_cons pe_int (pa_cons pe_int (pa_cons pe_int pa_nil)))))) (pe_c c__law_take hr (by omega) rfl (pa_cons (pv 0) (pa_cons pe_int pa_nil))) (fun _ _ => rfl)) (pg_sub (pv 6) (pe_c c__law_take hr (by omega) rfl (pa_cons (pv 0) (pa_cons (pv 1) pa_nil))) (set_dict (by have := room_hu hr; exact Nat.lt_of_le_of_lt (Nat.add_le_add_left (by decide) _) this)))) pss_nil)) (pss_cons (ps_expr (pe_bm PySem.F.plainAttrs_list PySem.F.slot_list_append PySem.F.type_list_append mt_append (pv 4) (pa_cons (pe_tup (pa_cons (pe_c c__law_take hr (by omega) rfl (pa_cons (pv 0) (pa_cons pe_int pa_nil))) (pa_cons (pe_callTy call_tuple_of rfl z_tuple bt_tuple (pa_cons (L3G.pe_sortI rfl (pv 6) rfl z_sorted bt_sorted) pa_nil)) pa_nil))) pa_nil))) pss_nil)))) (pss_cons (ps_expr (pe_bm PySem.F.plainAttrs_list PySem.F.slot_list_append PySem.F.type_list_append mt_append (pv 2) (pa_cons (pe_callTy call_tuple_of rfl z_tuple bt_tuple (pa_cons (pv 4) pa_nil)) pa_nil))) pss_nil)))) (pss_cons (ps_ret (pe_callTy call_tuple_of rfl z_tuple bt_tuple (pa_cons (pv 2) pa_nil))) pss_nil))), ?_⟩
    rw [show start ["_law_state", "_law_many", "_law_system_here", "_law_k", "_law_choices_here", "_law_number", "_law_ends_here", "_law_j"] [.ref p0, u1] = ([some (.ref p0), some u1, none, none, none, none, none, none] : L2.St) from rfl]
    refine q_asgL (n := 2) w (el_lst (r := (rTup (rT2 rInt (rTup (rT2 rInt rInt))))) ([] : List (List (Int × (List (Int × Int))))) ea_nil) fun p11 B10 H10 x10 (w10 : Own K B10 M [⟨p11, (cLst (rTup (rT2 rInt (rTup (rT2 rInt rInt))))), ([] : List (List (Int × (List (Int × Int)))))⟩, ⟨p0, (cL2 (rLst rInt) rInt), a0⟩] H10) => ?_
    obtain ⟨t12, e13, hm⟩ := bindS hm
    obtain ⟨s129, e18, hm⟩ := bindS hm
    refine q_fold w10 (ei_rng1 (ea_cons (ev_varI rfl f1) ea_nil) e13) _ (fun s14 B19 σ32 => ∃ o33 o34 o35 o36 o37, σ32 = [some (.ref p0), some u1, some (.ref p11), o33, o34, o35, o36, o37]) (fun s14 => [⟨p11, (cLst (rTup (rT2 rInt (rTup (rT2 rInt rInt))))), s14.1⟩, ⟨p0, (cL2 (rLst rInt) rInt), s14.2⟩]) ((([] : List (List (Int × (List (Int × Int))))), a0)) e18 (fun B9 x9 => ⟨_, _, _, _, _, rfl⟩) rfl ?_ ?_
    · skip
      rintro s14 x15 s140 v25 B19 B20 H21 σ32 hb16 x22 ⟨o33, o34, o35, o36, o37, rfl⟩ x23 w24 h26 N27 K28 hN29
      replace w24 : Own K B20 M [⟨p11, (cLst (rTup (rT2 rInt (rTup (rT2 rInt rInt))))), s14.1⟩, ⟨p0, (cL2 (rLst rInt) rInt), s14.2⟩] H21 := w24
      refine g_name ?_
      refine q_asgL (n := 4) w24 (el_lst (r := (rT2 rInt (rTup (rT2 rInt rInt)))) ([] : List (Int × (List (Int × Int)))) ea_nil) fun p39 B38 H38 x38 (w38 : Own K B38 M [⟨p39, (cLst (rT2 rInt (rTup (rT2 rInt rInt)))), ([] : List (Int × (List (Int × Int))))⟩, ⟨p11, (cLst (rTup (rT2 rInt (rTup (rT2 rInt rInt))))), s14.1⟩, ⟨p0, (cL2 (rLst rInt) rInt), s14.2⟩] H38) => ?_
      obtain ⟨t40, e41, hb16⟩ := bindS hb16
      obtain ⟨t42, e43, hb16⟩ := bindS hb16
      obtain ⟨t44, e45, hb16⟩ := bindS hb16
      obtain ⟨s116, e50, hb16⟩ := bindS hb16
      refine q_fold w38 (ei_rng1 (ea_cons (ev_ix (ev_seqL (ev_frz (el_lst (r := rInt) [(1 : Int), (2 : Int), (6 : Int)] (ea_cons (ev_int (i := 1)) (ea_cons (ev_int (i := 2)) (ea_cons (ev_int (i := 6)) ea_nil)))))) (ev_callC 2 (x := ⟨p0, (cL2 (rLst rInt) rInt), s14.2⟩) (x' := ⟨p0, (cL2 (rLst rInt) rInt), t40.2⟩) (ea_cons (ev_varR rfl) (ea_cons (ev_int (i := 3)) ea_nil)) rfl ⟨_, _, _, _, rfl, rfl, e41, rfl, rfl⟩ rfl) e43) ea_nil) e45) _ (fun s46 B51 σ64 => ∃ o65 o66 o67, σ64 = [some (.ref p0), some u1, some (.ref p11), some v25, some (.ref p39), o65, o66, o67]) (fun s46 => [⟨p39, (cLst (rT2 rInt (rTup (rT2 rInt rInt)))), s46.1⟩, ⟨p11, (cLst (rTup (rT2 rInt (rTup (rT2 rInt rInt))))), s14.1⟩, ⟨p0, (cL2 (rLst rInt) rInt), s46.2⟩]) ((([] : List (Int × (List (Int × Int)))), t40.2)) e50 (fun B9 x9 => ⟨_, _, _, rfl⟩) rfl ?_ ?_
      · skip
        rintro s46 x47 s128 v57 B51 B52 H53 σ64 hb48 x54 ⟨o65, o66, o67, rfl⟩ x55 w56 h58 N59 K60 hN61
        replace w56 : Own K B52 M [⟨p39, (cLst (rT2 rInt (rTup (rT2 rInt rInt)))), s46.1⟩, ⟨p11, (cLst (rTup (rT2 rInt (rTup (rT2 rInt rInt))))), s14.1⟩, ⟨p0, (cL2 (rLst rInt) rInt), s46.2⟩] H53 := w56
        refine g_name ?_
        refine q_asgD (n := 6) w56 fun p69 H68 (w68 : Own K B52 M [⟨p69, cDk, []⟩, ⟨p39, (cLst (rT2 rInt (rTup (rT2 rInt rInt)))), s46.1⟩, ⟨p11, (cLst (rTup (rT2 rInt (rTup (rT2 rInt rInt))))), s14.1⟩, ⟨p0, (cL2 (rLst rInt) rInt), s46.2⟩] H68) => ?_
        obtain ⟨t70, e71, hb48⟩ := bindS hb48
        obtain ⟨t72, e73, hb48⟩ := bindS hb48
        obtain ⟨s103, e78, hb48⟩ := bindS hb48
        refine q_fold w68 (ei_rng1 (ea_cons (ev_add (ev_int (i := 1)) (ev_callC 3 (x := ⟨p0, (cL2 (rLst rInt) rInt), s46.2⟩) (x' := ⟨p0, (cL2 (rLst rInt) rInt), t70.2⟩) (ea_cons (ev_varR rfl) (ea_cons (ev_int (i := 6)) ea_nil)) rfl ⟨_, _, _, _, rfl, rfl, e71, rfl, rfl⟩ rfl)) ea_nil) e73) _ (fun s74 B79 σ92 => ∃ o93, σ92 = [some (.ref p0), some u1, some (.ref p11), some v25, some (.ref p39), some v57, some (.ref p69), o93]) (fun s74 => [⟨p69, cDk, s74.1⟩, ⟨p39, (cLst (rT2 rInt (rTup (rT2 rInt rInt)))), s46.1⟩, ⟨p11, (cLst (rTup (rT2 rInt (rTup (rT2 rInt rInt))))), s14.1⟩, ⟨p0, (cL2 (rLst rInt) rInt), s74.2⟩]) (([], t70.2)) e78 (fun B9 x9 => ⟨_, rfl⟩) rfl ?_ ?_
        · skip
          rintro s74 x75 s115 v85 B79 B80 H81 σ92 hb76 x82 ⟨o93, rfl⟩ x83 w84 h86 N87 K88 hN89
          replace w84 : Own K B80 M [⟨p69, cDk, s74.1⟩, ⟨p39, (cLst (rT2 rInt (rTup (rT2 rInt rInt)))), s46.1⟩, ⟨p11, (cLst (rTup (rT2 rInt (rTup (rT2 rInt rInt))))), s14.1⟩, ⟨p0, (cL2 (rLst rInt) rInt), s74.2⟩] H81 := w84
          refine g_name ?_
          obtain ⟨t94, e95, hb76⟩ := bindS hb76
          obtain ⟨t96, e97, hb76⟩ := bindS hb76
          obtain ⟨t98, e99, hb76⟩ := bindS hb76
          obtain ⟨t100, e101, hb76⟩ := bindS hb76
          refine q_setD (n := 0) w84 (ev_ix (ev_seqL (ev_frz (el_lst (r := rInt) [(1 : Int), (1 : Int), (2 : Int), (5 : Int), (1000 : Int)] (ea_cons (ev_int (i := 1)) (ea_cons (ev_int (i := 1)) (ea_cons (ev_int (i := 2)) (ea_cons (ev_int (i := 5)) (ea_cons (ev_int (i := 1000)) ea_nil)))))))) (ev_callC 3 (x := ⟨p0, (cL2 (rLst rInt) rInt), s74.2⟩) (x' := ⟨p0, (cL2 (rLst rInt) rInt), t94.2⟩) (ea_cons (ev_varR rfl) (ea_cons (ev_int (i := 5)) ea_nil)) rfl ⟨_, _, _, _, rfl, rfl, e95, rfl, rfl⟩ rfl) e97) rfl (ev_callC 3 (x := ⟨p0, (cL2 (rLst rInt) rInt), t94.2⟩) (x' := ⟨p0, (cL2 (rLst rInt) rInt), t98.2⟩) (ea_cons (ev_varR rfl) (ea_cons (ev_varI rfl f1) ea_nil)) rfl ⟨_, _, _, _, rfl, rfl, e99, rfl, rfl⟩ rfl) rfl e101 fun B102 H102 x102 (w102 : Own K B102 M [⟨p69, cDk, (putI s74.1 t98.1 t96)⟩, ⟨p39, (cLst (rT2 rInt (rTup (rT2 rInt rInt)))), s46.1⟩, ⟨p11, (cLst (rTup (rT2 rInt (rTup (rT2 rInt rInt))))), s14.1⟩, ⟨p0, (cL2 (rLst rInt) rInt), t98.2⟩] H102) => ?_
          replace hb76 : some _ = some _ := hb76
          cases hb76
          exact hN89 _ _ _ x102 w102 ⟨_, rfl⟩
        rintro B104 H105 σ108 x106 w107 ⟨o109, rfl⟩
        replace w107 : Own K B104 M [⟨p69, cDk, s103.1⟩, ⟨p39, (cLst (rT2 rInt (rTup (rT2 rInt rInt)))), s46.1⟩, ⟨p11, (cLst (rTup (rT2 rInt (rTup (rT2 rInt rInt))))), s14.1⟩, ⟨p0, (cL2 (rLst rInt) rInt), s103.2⟩] H105 := w107
        obtain ⟨t110, e111, hb48⟩ := bindS hb48
        obtain ⟨t112, e113, hb48⟩ := bindS hb48
        refine q_app (n := 1) (m := 4) w107 rfl (ev_T2 (ea_cons (ev_callC 3 (x := ⟨p0, (cL2 (rLst rInt) rInt), s103.2⟩) (x' := ⟨p0, (cL2 (rLst rInt) rInt), t110.2⟩) (ea_cons (ev_varR rfl) (ea_cons (ev_int (i := 1001)) ea_nil)) rfl ⟨_, _, _, _, rfl, rfl, e111, rfl, rfl⟩ rfl) (ea_cons (ev_tupOfL (ev_frz (el_sortI (n := 0) rfl rfl))) ea_nil))) rfl ⟨1, _, rfl⟩ e113 fun B114 H114 x114 (w114 : Own K B114 M [⟨p69, cDk, s103.1⟩, ⟨p39, (cLst (rT2 rInt (rTup (rT2 rInt rInt)))), (s46.1 ++ [(t110.1, (sortI s103.1))])⟩, ⟨p11, (cLst (rTup (rT2 rInt (rTup (rT2 rInt rInt))))), s14.1⟩, ⟨p0, (cL2 (rLst rInt) rInt), t110.2⟩] H114) => ?_
        replace hb48 : some _ = some _ := hb48
        cases hb48
        exact hN61 _ _ _ (x106.trans x114) w114.tail ⟨_, _, _, rfl⟩
      rintro B117 H118 σ121 x119 w120 ⟨o122, o123, o124, rfl⟩
      replace w120 : Own K B117 M [⟨p39, (cLst (rT2 rInt (rTup (rT2 rInt rInt)))), s116.1⟩, ⟨p11, (cLst (rTup (rT2 rInt (rTup (rT2 rInt rInt))))), s14.1⟩, ⟨p0, (cL2 (rLst rInt) rInt), s116.2⟩] H118 := w120
      obtain ⟨t125, e126, hb16⟩ := bindS hb16
      refine q_app (n := 1) (m := 2) w120 rfl (ev_tupOfC (n := 0) (ev_varR rfl) rfl) rfl ⟨1, _, rfl⟩ e126 fun B127 H127 x127 (w127 : Own K B127 M [⟨p39, (cLst (rT2 rInt (rTup (rT2 rInt rInt)))), s116.1⟩, ⟨p11, (cLst (rTup (rT2 rInt (rTup (rT2 rInt rInt))))), (s14.1 ++ [s116.1])⟩, ⟨p0, (cL2 (rLst rInt) rInt), s116.2⟩] H127) => ?_
      replace hb16 : some _ = some _ := hb16
      cases hb16
      exact hN29 _ _ _ ((x38.trans x119).trans x127) w127.tail ⟨_, _, _, _, _, rfl⟩
    rintro B130 H131 σ134 x132 w133 ⟨o135, o136, o137, o138, o139, rfl⟩
    replace w133 : Own K B130 M [⟨p11, (cLst (rTup (rT2 rInt (rTup (rT2 rInt rInt))))), s129.1⟩, ⟨p0, (cL2 (rLst rInt) rInt), s129.2⟩] H131 := w133
    replace hm : some _ = some _ := hm
    obtain rfl := Option.some.inj hm
    exact q_ret w133 (ev_tupOfC (n := 0) (ev_varR rfl) rfl) fun v9 B9 H9 x9 w9 h9 => k _ _ _ ((x10.trans x132).trans x9) w9.tail h9
noncomputable def m_l_costs (a0 : (List (Int × (List (Int × (Int × Int)))))) (a1 : (List Int)) : Option (List (Option (Int × Int))) :=
  Option.bind (small62 ((a0.length : Int))) fun t13 =>
  Option.bind (room ((rng 0 ((a0.length : Int)))).length) fun t44 =>
  Option.bind (compM (S := Unit) (β := Int) (fun (s15 : Unit) (x22 : Int) => ( if (!decide (x22 ∈ a1)) = true then ( some (some x22, ())) else some (none, ()))) (()) ((rng 0 ((a0.length : Int))))) fun t46 =>
  Option.bind (m_l_backward a0 t46.1 a1) fun t51 =>
  Option.bind (small62 ((a0.length : Int))) fun t56 =>
  Option.bind (room ((rng 0 ((a0.length : Int)))).length) fun t87 =>
  Option.bind (compM (S := Unit) (β := Int) (fun (s58 : Unit) (x65 : Int) => ( if (!decide (x65 ∈ t51)) = true then ( some (some x65, ())) else some (none, ()))) (()) ((rng 0 ((a0.length : Int))))) fun t89 =>
  Option.bind (m_l_backward a0 t46.1 t89.1) fun t91 =>
  Option.bind (room t46.1.length) fun t125 =>
  Option.bind (compM (S := Unit) (β := Int) (fun (s96 : Unit) (x103 : Int) => ( if (!decide (x103 ∈ t91)) = true then ( some (some x103, ())) else some (none, ()))) (()) t46.1) fun t127 =>
  Option.bind (repL ([((0 : Int), (1 : Int))]) ((a0.length : Int))) fun t133 =>
  Option.bind (room a0.length) fun t159 =>
  Option.bind (compM (S := Unit) (β := (Int × Int)) (fun (s135 : Unit) (x142 : (Int × (List (Int × (Int × Int))))) => ( some (some ((x142.1, (1 : Int))), ()))) (()) a0) fun t161 =>
  Option.bind (m_l_filled a0 t127.1 t133 t161.1) fun t163 =>
  Option.bind (small62 ((a0.length : Int))) fun t168 =>
  Option.bind (room ((rng 0 ((a0.length : Int)))).length) fun t199 =>
  Option.bind (compM (S := Unit) (β := (Option (Int × Int))) (fun (s170 : Unit) (x177 : Int) => (Option.bind ((if (decide (x177 ∈ t91)) = true then (some (none)) else (Option.bind (ixL t163 x177) fun t194 => some ((some t194))))) fun t196 => some (some t196, ()))) (()) ((rng 0 ((a0.length : Int))))) fun t201 =>
  some t201.1
def C__law_costs : List Arg → List Cell → Arg → List Cell → Prop := fun as L r L' => ∃ a0 a1 c, as = [⟨(rLst (rT2 rInt (rLst (rT2 rInt (rT2 rInt rInt))))), a0⟩, ⟨(rLst rInt), a1⟩] ∧ L = [] ∧ m_l_costs a0 a1 = some c ∧ r = ⟨(rLst (rOpt (rT2 rInt rInt))), c⟩ ∧ L' = []
theorem sc__law_costs : FnScope ["_law_chain_here", "_law_targets", "_law_many", "_law_rest", "_law_can", "_law_lost", "_law_unknown", "_law_values", "_law_k", "_law_row"] ["_law_chain_here", "_law_targets"] (defScope s__law_costs) := ⟨rfl, rfl, rfl, by decide +kernel, rfl, by decide +kernel, by decide +kernel⟩
set_option maxHeartbeats 0 in
theorem ok__law_costs (F : FunC K "_law_costs" s__law_costs f fd cc) (c__law_backward : Cl P w K mg base 1 "_law_backward" (spV K T C__law_backward) []) (c__law_filled : Cl P w K mg base 4 "_law_filled" (spV K T C__law_filled) []) (z_len : mg "len" = none) (z_range : mg "range" = none) : FnOk P w K mg base CX0 5 f fd ["_law_chain_here", "_law_targets"] (spV K T C__law_costs) := by
  refine F.ok sc__law_costs (fun vs H Q E h => ?_) (fun A outer s H vs Q E hr h => ?_)
  · obtain ⟨B, M, L, as, r, L', hT, w, ha, ⟨_, _, _, rfl, _⟩, k⟩ := h
    exact args_len ha
  · skip
    obtain ⟨B, M, L, as, r, L', rfl, w, ha, ⟨a0, a1, c, rfl, rfl, hm, rfl, rfl⟩, k⟩ := h
    obtain ⟨u0, u1, rfl, f0, f1⟩ := args2 ha
    replace f0 : ((rLst (rT2 rInt (rLst (rT2 rInt (rT2 rInt rInt)))))).is K B u0 a0 := f0
    replace f1 : ((rLst rInt)).is K B u1 a1 := f1
    unfold m_l_costs at hm
    refine ⟨_, (pss_cons (ps_set (i := 2) sc__law_costs.nd rfl (by first | exact Or.inl rfl | exact Or.inr rfl) (pe_callB call_len_seq rfl z_len bt_len (pa_cons (pv 0) pa_nil))) (pss_cons (ps_setLc (i := 3) rfl sc__law_costs.nd rfl rfl rfl (pi_range1 rfl z_range (pa_cons (pv 2) pa_nil)) (blkOk_by (own := [("_law_k", 8)]) (show blkC ["_law_chain_here", "_law_targets", "_law_many", "_law_rest", "_law_can", "_law_lost", "_law_unknown", "_law_values", "_law_k", "_law_row"] (defScope s__law_costs) _ _ = true by decide +kernel)) (fun _ _ _ _ _ => (pg_name (i := 8) sc__law_costs.nd rfl (by first | exact Or.inl rfl | exact Or.inr rfl))) (fun _ _ _ _ _ => (pts_one (pt_cmpR (show OpR _ _ (rIn K true) from op_notIn_seq) (pv 8) (pv 1) rfl))) (fun _ _ _ _ _ => (pv 8))) (pss_cons (ps_set (i := 4) sc__law_costs.nd rfl (by first | exact Or.inl rfl | exact Or.inr rfl) (pe_c c__law_backward hr (by omega) rfl (pa_cons (pv 0) (pa_cons (pv 3) (pa_cons (pv 1) pa_nil))))) (pss_cons (ps_set (i := 5) sc__law_costs.nd rfl (by first | exact Or.inl rfl | exact Or.inr rfl) (pe_c c__law_backward hr (by omega) rfl (pa_cons (pv 0) (pa_cons (pv 3) (pa_cons (pe_lc rfl sc__law_costs.nd (pi_range1 rfl z_range (pa_cons (pv 2) pa_nil)) (blkOk_by (own := [("_law_k", 8)]) (show blkC ["_law_chain_here", "_law_targets", "_law_many", "_law_rest", "_law_can", "_law_lost", "_law_unknown", "_law_values", "_law_k", "_law_row"] (defScope s__law_costs) _ _ = true by decide +kernel)) (fun _ _ _ _ _ => (pg_name (i := 8) sc__law_costs.nd rfl (by first | exact Or.inl rfl | exact Or.inr rfl))) (fun _ _ _ _ _ => (pts_one (pt_cmpR (show OpR _ _ (rIn K true) from op_notIn_seq) (pv 8) (pv 4) rfl))) (fun _ _ _ _ _ => (pv 8))) pa_nil))))) (pss_cons (ps_setLc (i := 6) rfl sc__law_costs.nd rfl rfl rfl (pi_list (pv 3)) (blkOk_by (own := [("_law_k", 8)]) (show blkC ["_law_chain_here", "_law_targets", "_law_many", "_law_rest", "_law_can", "_law_lost", "_law_unknown", "_law_values", "_law_k", "_law_row"] (defScope s__law_costs) _ _ = true by decide +kernel)) (fun _ _ _ _ _ => (pg_name (i := 8) sc__law_costs.nd rfl (by first | exact Or.inl rfl | exact Or.inr rfl))) (fun _ _ _ _ _ => (pts_one (pt_cmpR (show OpR _ _ (rIn K true) from op_notIn_seq) (pv 8) (pv 5) rfl))) (fun _ _ _ _ _ => (pv 8))) (pss_cons (ps_set (i := 7) sc__law_costs.nd rfl (by first | exact Or.inl rfl | exact Or.inr rfl) (pe_c c__law_filled hr (by omega) rfl (pa_cons (pv 0) (pa_cons (pv 6) (pa_cons (pe_op op_rep (pe_lst (pa_cons (pe_tup (pa_cons pe_int (pa_cons pe_int pa_nil))) pa_nil)) (pv 2)) (pa_cons (pe_lc rfl sc__law_costs.nd (pi_list (pv 0)) (blkOk_by (own := [("_law_row", 9)]) (show blkC ["_law_chain_here", "_law_targets", "_law_many", "_law_rest", "_law_can", "_law_lost", "_law_unknown", "_law_values", "_law_k", "_law_row"] (defScope s__law_costs) _ _ = true by decide +kernel)) (fun _ _ _ _ _ => (pg_name (i := 9) sc__law_costs.nd rfl (by first | exact Or.inl rfl | exact Or.inr rfl))) (fun _ _ _ _ _ => pts_nil) (fun _ _ _ _ _ => (pe_tup (pa_cons (pe_ix (show IxR _ (rIx K) from ix_seq) (pv 9) pe_int (fun _ _ => rfl)) (pa_cons pe_int pa_nil))))) pa_nil)))))) (pss_cons (ps_ret (pe_lc rfl sc__law_costs.nd (pi_range1 rfl z_range (pa_cons (pv 2) pa_nil)) (blkOk_by (own := [("_law_k", 8)]) (show blkC ["_law_chain_here", "_law_targets", "_law_many", "_law_rest", "_law_can", "_law_lost", "_law_unknown", "_law_values", "_law_k", "_law_row"] (defScope s__law_costs) _ _ = true by decide +kernel)) (fun _ _ _ _ _ => (pg_name (i := 8) sc__law_costs.nd rfl (by first | exact Or.inl rfl | exact Or.inr rfl))) (fun _ _ _ _ _ => pts_nil) (fun _ _ _ _ _ => (pe_ifExp (pt_cmpR (show OpR _ _ (rIn K false) from op_in_seq) (pv 8) (pv 5) rfl) pe_non (pe_ix (show IxR _ (rIx K) from ix_seq) (pv 7) (pv 8) (fun _ _ => rfl)))))) pss_nil))))))), ?_⟩
    rw [show start ["_law_chain_here", "_law_targets", "_law_many", "_law_rest", "_law_can", "_law_lost", "_law_unknown", "_law_values", "_law_k", "_law_row"] [u0, u1] = ([some u0, some u1, none, none, none, none, none, none, none, none] : L2.St) from rfl]
    refine q_asg (n := 2) w (ev_len (ev_seqL (ev_var rfl f0))) fun v11 B10 H10 x10 (w10 : Own K B10 M [] H10) h12 => ?_
    obtain ⟨t13, e14, hm⟩ := bindS hm
    obtain ⟨t44, e45, hm⟩ := bindS hm
    obtain ⟨t46, e47, hm⟩ := bindS hm
    refine q_asg (n := 3) w10 (ev_frz (el_lc (S := Unit) (ys := t46.1) (s1 := t46.2) (s0 := ()) (σ' := [some u0, some u1, some v11, none, none, none, none, none, none, none]) rInt (ei_rng1 (ea_cons (ev_varI rfl h12) ea_nil) e14) _ (fun (s15 : Unit) => []) rfl e47 e45 rfl (by rintro s15 x22 o27 s28 v20 D25 a26 B16 H17 hb24 x18 w19 h21 PY29 PN30 qY31 qN32; replace w19 : Own K B16 M [⟨D25, (cLst rInt), a26⟩] H17 := w19; refine g_name ?_; refine ⟨rfl, ?_⟩; exact (et_test (ev_niI (ev_varI rfl h21) (ev_seqL (ev_var rfl (((rLst rInt)).mono (x10.trans x18) f1))))) B16 H17 (Ex.refl _) w19 _ fun B39 H40 x41 (w42 : Own K B39 M [⟨D25, (cLst rInt), a26⟩] H40) => lc_if (fun hq43 => by rw [if_pos hq43] at hb24; obtain ⟨rfl, rfl⟩ := Prod.mk.inj (Option.some.inj hb24); exact (ev_varI rfl h21) B39 H40 (Ex.refl _) w42 _ fun v33 B34 H35 x36 w37 h38 => qY31 v33 B34 H35 _ rfl (x41.trans x36) w37 h38) (fun hq43 => by rw [if_neg (by rw [hq43]; exact Bool.false_ne_true)] at hb24; obtain ⟨rfl, rfl⟩ := Prod.mk.inj (Option.some.inj hb24); exact qN32 B39 H40 rfl x41 w42)))) fun v49 B48 H48 x48 (w48 : Own K B48 M [] H48) h50 => ?_
    obtain ⟨t51, e52, hm⟩ := bindS hm
    refine q_asg (n := 4) w48 (ev_call (ea_cons (ev_var rfl (((rLst (rT2 rInt (rLst (rT2 rInt (rT2 rInt rInt)))))).mono (x10.trans x48) f0)) (ea_cons (ev_var rfl h50) (ea_cons (ev_var rfl (((rLst rInt)).mono (x10.trans x48) f1)) ea_nil))) ⟨_, _, _, _, rfl, rfl, e52, rfl, rfl⟩) fun v54 B53 H53 x53 (w53 : Own K B53 M [] H53) h55 => ?_
    obtain ⟨t56, e57, hm⟩ := bindS hm
    obtain ⟨t87, e88, hm⟩ := bindS hm
    obtain ⟨t89, e90, hm⟩ := bindS hm
    obtain ⟨t91, e92, hm⟩ := bindS hm
    refine q_asg (n := 5) w53 (ev_call (ea_cons (ev_var rfl (((rLst (rT2 rInt (rLst (rT2 rInt (rT2 rInt rInt)))))).mono ((x10.trans x48).trans x53) f0)) (ea_cons (ev_var rfl (((rLst rInt)).mono x53 h50)) (ea_cons (ev_frz (el_lc (S := Unit) (ys := t89.1) (s1 := t89.2) (s0 := ()) (σ' := [some u0, some u1, some v11, some v49, some v54, none, none, none, none, none]) rInt (ei_rng1 (ea_cons (ev_varI rfl h12) ea_nil) e57) _ (fun (s58 : Unit) => []) rfl e90 e88 rfl (by rintro s58 x65 o70 s71 v63 D68 a69 B59 H60 hb67 x61 w62 h64 PY72 PN73 qY74 qN75; replace w62 : Own K B59 M [⟨D68, (cLst rInt), a69⟩] H60 := w62; refine g_name ?_; refine ⟨rfl, ?_⟩; exact (et_test (ev_niI (ev_varI rfl h64) (ev_seqL (ev_var rfl (((rLst rInt)).mono x61 h55))))) B59 H60 (Ex.refl _) w62 _ fun B82 H83 x84 (w85 : Own K B82 M [⟨D68, (cLst rInt), a69⟩] H83) => lc_if (fun hq86 => by rw [if_pos hq86] at hb67; obtain ⟨rfl, rfl⟩ := Prod.mk.inj (Option.some.inj hb67); exact (ev_varI rfl h64) B82 H83 (Ex.refl _) w85 _ fun v76 B77 H78 x79 w80 h81 => qY74 v76 B77 H78 _ rfl (x84.trans x79) w80 h81) (fun hq86 => by rw [if_neg (by rw [hq86]; exact Bool.false_ne_true)] at hb67; obtain ⟨rfl, rfl⟩ := Prod.mk.inj (Option.some.inj hb67); exact qN75 B82 H83 rfl x84 w85)))) ea_nil))) ⟨_, _, _, _, rfl, rfl, e92, rfl, rfl⟩) fun v94 B93 H93 x93 (w93 : Own K B93 M [] H93) h95 => ?_
    obtain ⟨t125, e126, hm⟩ := bindS hm
    obtain ⟨t127, e128, hm⟩ := bindS hm
    refine q_asg (n := 6) w93 (ev_frz (el_lc (S := Unit) (ys := t127.1) (s1 := t127.2) (s0 := ()) (σ' := [some u0, some u1, some v11, some v49, some v54, some v94, none, none, none, none]) rInt (ei_lst (ev_var rfl (((rLst rInt)).mono (x53.trans x93) h50))) _ (fun (s96 : Unit) => []) rfl e128 e126 rfl (by rintro s96 x103 o108 s109 v101 D106 a107 B97 H98 hb105 x99 w100 h102 PY110 PN111 qY112 qN113; replace w100 : Own K B97 M [⟨D106, (cLst rInt), a107⟩] H98 := w100; refine g_name ?_; refine ⟨rfl, ?_⟩; exact (et_test (ev_niI (ev_varI rfl h102) (ev_seqL (ev_var rfl (((rLst rInt)).mono x99 h95))))) B97 H98 (Ex.refl _) w100 _ fun B120 H121 x122 (w123 : Own K B120 M [⟨D106, (cLst rInt), a107⟩] H121) => lc_if (fun hq124 => by rw [if_pos hq124] at hb105; obtain ⟨rfl, rfl⟩ := Prod.mk.inj (Option.some.inj hb105); exact (ev_varI rfl h102) B120 H121 (Ex.refl _) w123 _ fun v114 B115 H116 x117 w118 h119 => qY112 v114 B115 H116 _ rfl (x122.trans x117) w118 h119) (fun hq124 => by rw [if_neg (by rw [hq124]; exact Bool.false_ne_true)] at hb105; obtain ⟨rfl, rfl⟩ := Prod.mk.inj (Option.some.inj hb105); exact qN113 B120 H121 rfl x122 w123)))) fun v130 B129 H129 x129 (w129 : Own K B129 M [] H129) h131 => ?_
    obtain ⟨t133, e134, hm⟩ := bindS hm
    obtain ⟨t159, e160, hm⟩ := bindS hm
    obtain ⟨t161, e162, hm⟩ := bindS hm
    obtain ⟨t163, e164, hm⟩ := bindS hm
    refine q_asg (n := 7) w129 (ev_call (ea_cons (ev_var rfl (((rLst (rT2 rInt (rLst (rT2 rInt (rT2 rInt rInt)))))).mono ((((x10.trans x48).trans x53).trans x93).trans x129) f0)) (ea_cons (ev_var rfl h131) (ea_cons (ev_frz (el_rep (el_lst (r := (rT2 rInt rInt)) [((0 : Int), (1 : Int))] (ea_cons (ev_T2 (ea_cons (ev_int (i := 0)) (ea_cons (ev_int (i := 1)) ea_nil))) ea_nil)) (fun p132 => (ev_varI rfl h12)) e134)) (ea_cons (ev_frz (el_lc (S := Unit) (ys := t161.1) (s1 := t161.2) (s0 := ()) (σ' := [some u0, some u1, some v11, some v49, some v54, some v94, some v130, none, none, none]) (rT2 rInt rInt) (ei_lst (ev_var rfl (((rLst (rT2 rInt (rLst (rT2 rInt (rT2 rInt rInt)))))).mono ((((x10.trans x48).trans x53).trans x93).trans x129) f0))) _ (fun (s135 : Unit) => []) rfl e162 e160 rfl (by rintro s135 x142 o147 s148 v140 D145 a146 B136 H137 hb144 x138 w139 h141 PY149 PN150 qY151 qN152; replace w139 : Own K B136 M [⟨D145, (cLst (rT2 rInt rInt)), a146⟩] H137 := w139; refine g_name ?_; refine ⟨rfl, ?_⟩; obtain ⟨rfl, rfl⟩ := Prod.mk.inj (Option.some.inj hb144); refine lc_yes ?_; exact (ev_T2 (ea_cons (ev_fst (ev_var rfl h141)) (ea_cons (ev_int (i := 1)) ea_nil))) B136 H137 (Ex.refl _) w139 _ fun v153 B154 H155 x156 w157 h158 => qY151 v153 B154 H155 _ rfl x156 w157 h158))) ea_nil)))) ⟨_, _, _, _, _, rfl, rfl, e164, rfl, rfl⟩) fun v166 B165 H165 x165 (w165 : Own K B165 M [] H165) h167 => ?_
    obtain ⟨t168, e169, hm⟩ := bindS hm
    obtain ⟨t199, e200, hm⟩ := bindS hm
    obtain ⟨t201, e202, hm⟩ := bindS hm
    replace hm : some _ = some _ := hm
    obtain rfl := Option.some.inj hm
    exact q_ret w165 (ev_frz (el_lc (S := Unit) (ys := t201.1) (s1 := t201.2) (s0 := ()) (σ' := [some u0, some u1, some v11, some v49, some v54, some v94, some v130, some v166, none, none]) (rOpt (rT2 rInt rInt)) (ei_rng1 (ea_cons (ev_varI rfl h12) ea_nil) e169) _ (fun (s170 : Unit) => []) rfl e202 e200 rfl (by rintro s170 x177 o182 s183 v175 D180 a181 B171 H172 hb179 x173 w174 h176 PY184 PN185 qY186 qN187; replace w174 : Own K B171 M [⟨D180, (cLst (rOpt (rT2 rInt rInt))), a181⟩] H172 := w174; refine g_name ?_; refine ⟨rfl, ?_⟩; obtain ⟨t196, e197, hb179⟩ := bindS hb179; obtain ⟨rfl, rfl⟩ := Prod.mk.inj (Option.some.inj hb179); refine lc_yes ?_; exact (ev_if (r := (rOpt (rT2 rInt rInt))) (a := t196) (L2 := [⟨D180, (cLst (rOpt (rT2 rInt rInt))), a181⟩]) (et_test (ev_inI (ev_varI rfl h176) (ev_seqL (ev_var rfl (((rLst rInt)).mono ((x129.trans x165).trans x173) h95))))) (fun hb198 => by rw [if_pos hb198] at e197; obtain rfl := Option.some.inj e197; exact (ev_non (r := (rT2 rInt rInt)))) (fun hb198 => by rw [if_neg (by rw [hb198]; exact Bool.false_ne_true)] at e197; obtain ⟨t194, e195, e197⟩ := bindS e197; obtain rfl := Option.some.inj e197; exact (ev_sm (ev_ix (ev_seqL (ev_var rfl (((rLst (rT2 rInt rInt))).mono x173 h167))) (ev_varI rfl h176) e195)))) B171 H172 (Ex.refl _) w174 _ fun v188 B189 H190 x191 w192 h193 => qY186 v188 B189 H190 _ rfl x191 w192 h193))) fun v9 B9 H9 x9 w9 h9 => k _ _ _ ((((((x10.trans x48).trans x53).trans x93).trans x129).trans x165).trans x9) w9 h9
noncomputable def m_l_drawn_policy (a0 : ((List Int) × Int)) (a1 : (List (List (Int × (List (Int × Int)))))) : Option ((List Int) × ((List Int) × Int)) :=
  Option.bind (room a1.length) fun t36 =>
  Option.bind (compM (S := ((List Int) × Int)) (β := Int) (fun (s10 : ((List Int) × Int)) (x17 : (List (Int × (List (Int × Int))))) => (Option.bind (m_l_take s10 ((x17.length : Int))) fun t34 => some (some t34.1, t34.2))) a0 a1) fun t38 =>
  some (t38.1, t38.2)
def C__law_drawn_policy : List Arg → List Cell → Arg → List Cell → Prop := fun as L r L' => ∃ a0 a1 p0 c, as = [⟨rRef, p0⟩, ⟨(rTup (rTup (rT2 rInt (rTup (rT2 rInt rInt))))), a1⟩] ∧ L = [⟨p0, (cL2 (rLst rInt) rInt), a0⟩] ∧ m_l_drawn_policy a0 a1 = some c ∧ r = ⟨(rTup rInt), c.1⟩ ∧ L' = [⟨p0, (cL2 (rLst rInt) rInt), c.2⟩]
theorem sc__law_drawn_policy : FnScope ["_law_state", "_law_system_here", "_law_choices_here"] ["_law_state", "_law_system_here"] (defScope s__law_drawn_policy) := ⟨rfl, rfl, rfl, by decide +kernel, rfl, by decide +kernel, by decide +kernel⟩
set_option maxHeartbeats 0 in
theorem ok__law_drawn_policy (F : FunC K "_law_drawn_policy" s__law_drawn_policy f fd cc) (c__law_take : Cl P w K mg base 2 "_law_take" (spV K T C__law_take) []) (z_len : mg "len" = none) (z_tuple : mg "tuple" = none) : FnOk P w K mg base CX0 3 f fd ["_law_state", "_law_system_here"] (spV K T C__law_drawn_policy) := by
  refine F.ok sc__law_drawn_policy (fun vs H Q E h => ?_) (fun A outer s H vs Q E hr h => ?_)
  · obtain ⟨B, M, L, as, r, L', hT, w, ha, ⟨_, _, _, _, rfl, _⟩, k⟩ := h
    exact args_len ha
  · skip
    obtain ⟨B, M, L, as, r, L', rfl, w, ha, ⟨a0, a1, p0, c, rfl, rfl, hm, rfl, rfl⟩, k⟩ := h
    obtain ⟨u0, u1, rfl, f0, f1⟩ := args2 ha
    replace f0 : u0 = V.ref p0 := f0
    subst f0
    replace f1 : ((rTup (rTup (rT2 rInt (rTup (rT2 rInt rInt)))))).is K B u1 a1 := f1
    unfold m_l_drawn_policy at hm
    refine ⟨_, (pss_cons (ps_ret (pe_callTy call_tuple_of rfl z_tuple bt_tuple (pa_cons (pe_lc rfl sc__law_drawn_policy.nd (pi_tup (pv 1)) (blkOk_by (own := [("_law_choices_here", 2)]) (show blkC ["_law_state", "_law_system_here", "_law_choices_here"] (defScope s__law_drawn_policy) _ _ = true by decide +kernel)) (fun _ _ _ _ _ => (pg_name (i := 2) sc__law_drawn_policy.nd rfl (by first | exact Or.inl rfl | exact Or.inr rfl))) (fun _ _ _ _ _ => pts_nil) (fun _ _ _ _ _ => (pe_c c__law_take hr (by omega) rfl (pa_cons (pv 0) (pa_cons (pe_callB (show CallR _ _ (rLen K) from call_len_seq) rfl z_len bt_len (pa_cons (pv 2) pa_nil)) pa_nil))))) pa_nil))) pss_nil), ?_⟩
    rw [show start ["_law_state", "_law_system_here", "_law_choices_here"] [.ref p0, u1] = ([some (.ref p0), some u1, none] : L2.St) from rfl]
    obtain ⟨t36, e37, hm⟩ := bindS hm
    obtain ⟨t38, e39, hm⟩ := bindS hm
    replace hm : some _ = some _ := hm
    obtain rfl := Option.some.inj hm
    exact q_ret w (ev_tupOfL (ev_frz (el_lc (S := ((List Int) × Int)) (ys := t38.1) (s1 := t38.2) (s0 := a0) (σ' := [some (.ref p0), some u1, none]) rInt (ei_tup (ev_var rfl f1)) _ (fun (s10 : ((List Int) × Int)) => [⟨p0, (cL2 (rLst rInt) rInt), s10⟩]) rfl e39 e37 rfl (by rintro s10 x17 o22 s23 v15 D20 a21 B11 H12 hb19 x13 w14 h16 PY24 PN25 qY26 qN27; replace w14 : Own K B11 M [⟨D20, (cLst rInt), a21⟩, ⟨p0, (cL2 (rLst rInt) rInt), s10⟩] H12 := w14; refine g_name ?_; refine ⟨rfl, ?_⟩; obtain ⟨t34, e35, hb19⟩ := bindS hb19; obtain ⟨rfl, rfl⟩ := Prod.mk.inj (Option.some.inj hb19); refine lc_yes ?_; exact (ev_callC 1 (x := ⟨p0, (cL2 (rLst rInt) rInt), s10⟩) (x' := ⟨p0, (cL2 (rLst rInt) rInt), t34.2⟩) (ea_cons (ev_varR rfl) (ea_cons (ev_len (ev_seqT (ev_var rfl h16))) ea_nil)) rfl ⟨_, _, _, _, rfl, rfl, e35, rfl, rfl⟩ rfl) B11 H12 (Ex.refl _) w14 _ fun v28 B29 H30 x31 w32 h33 => qY26 v28 B29 H30 _ rfl x31 w32 h33)))) fun v9 B9 H9 x9 w9 h9 => k _ _ _ ((Ex.refl _).trans x9) w9 h9
noncomputable def m_l_thin (a0 : ((List Int) × Int)) (a1 : Int) : Option ((List (List (Int × (List (Int × Int))))) × ((List Int) × Int)) :=
  Option.bind (small62 a1) fun t12 =>
  Option.bind (foldO (S := ((List (List (Int × (List (Int × Int))))) × ((List Int) × Int))) (α := Int) (fun (s14 : ((List (List (Int × (List (Int × Int))))) × ((List Int) × Int))) (x15 : Int) => (
    Option.bind (m_l_take s14.2 ((2 : Int))) fun t40 =>
    Option.bind (small62 (((1 : Int) + t40.1))) fun t42 =>
    Option.bind (foldO (S := ((List (Int × (List (Int × Int)))) × ((List Int) × Int))) (α := Int) (fun (s44 : ((List (Int × (List (Int × Int)))) × ((List Int) × Int))) (x45 : Int) => (
      Option.bind (m_l_take s44.2 ((2 : Int))) fun t68 =>
      Option.bind (small62 (((1 : Int) + t68.1))) fun t70 =>
      Option.bind (foldO (S := ((List (Int × Int)) × ((List Int) × Int))) (α := Int) (fun (s72 : ((List (Int × Int)) × ((List Int) × Int))) (x73 : Int) => (
        Option.bind (m_l_take s72.2 ((2 : Int))) fun t92 =>
        Option.bind (modI ((x15 + (1 : Int))) a1) fun t94 =>
        Option.bind (m_l_take t92.2 a1) fun t96 =>
        Option.bind (m_l_take t96.2 ((2 : Int))) fun t98 =>
        Option.bind (ixL ([t94, t96.1]) t98.1) fun t100 =>
        Option.bind (room s72.1.length) fun t102 =>
        some (((putI s72.1 t100 (((1 : Int) + t92.1))), t98.2))
      )) (([], t68.2)) ((rng 0 (((1 : Int) + t68.1))))) fun s105 =>
      Option.bind (m_l_take s105.2 ((1001 : Int))) fun t112 =>
      Option.bind (room s44.1.length) fun t114 =>
      some (((s44.1 ++ [(t112.1, (sortI s105.1))]), t112.2))
    )) ((([] : List (Int × (List (Int × Int)))), t40.2)) ((rng 0 (((1 : Int) + t40.1))))) fun s118 =>
    Option.bind (room s14.1.length) fun t127 =>
    some (((s14.1 ++ [s118.1]), s118.2))
  )) ((([] : List (List (Int × (List (Int × Int))))), a0)) ((rng 0 a1))) fun s131 =>
  some (s131.1, s131.2)
def C__law_thin : List Arg → List Cell → Arg → List Cell → Prop := fun as L r L' => ∃ a0 a1 p0 c, as = [⟨rRef, p0⟩, ⟨rInt, a1⟩] ∧ L = [⟨p0, (cL2 (rLst rInt) rInt), a0⟩] ∧ m_l_thin a0 a1 = some c ∧ r = ⟨(rTup (rTup (rT2 rInt (rTup (rT2 rInt rInt))))), c.1⟩ ∧ L' = [⟨p0, (cL2 (rLst rInt) rInt), c.2⟩]
theorem sc__law_thin : FnScope ["_law_state", "_law_many", "_law_system_here", "_law_k", "_law_choices_here", "_law_number", "_law_ends_here", "_law_j"] ["_law_state", "_law_many"] (defScope s__law_thin) := ⟨rfl, rfl, rfl, by decide +kernel, rfl, by decide +kernel, by decide +kernel⟩
set_option maxHeartbeats 0 in
theorem ok__law_thin (F : FunC K "_law_thin" s__law_thin f fd cc) (c__law_take : Cl P w K mg base 2 "_law_take" (spV K T C__law_take) []) (z_range : mg "range" = none) (z_int : mg "int" = none) (z_sorted : mg "sorted" = none) (z_tuple : mg "tuple" = none) : FnOk P w K mg base CX0 3 f fd ["_law_state", "_law_many"] (spV K T C__law_thin) := by
  refine F.ok sc__law_thin (fun vs H Q E h => ?_) (fun A outer s H vs Q E hr h => ?_)
  · obtain ⟨B, M, L, as, r, L', hT, w, ha, ⟨_, _, _, _, rfl, _⟩, k⟩ := h
    exact args_len ha
  · skip
    obtain ⟨B, M, L, as, r, L', rfl, w, ha, ⟨a0, a1, p0, c, rfl, rfl, hm, rfl, rfl⟩, k⟩ := h
    obtain ⟨u0, u1, rfl, f0, f1⟩ := args2 ha
    replace f0 : u0 = V.ref p0 := f0
    subst f0
    replace f1 : (rInt).is K B u1 a1 := f1
    unfold m_l_thin at hm
    refine ⟨_, (pss_cons (ps_set (i := 2) sc__law_thin.nd rfl (by first | exact Or.inl rfl | exact Or.inr rfl) (pe_lst pa_nil)) (pss_cons (ps_for PassesOwn.never rfl (pi_range1 rfl z_range (pa_cons (pv 1) pa_nil)) (pg_name (i := 3) sc__law_thin.nd rfl (by first | exact Or.inl rfl | exact Or.inr rfl)) (pss_cons (ps_set (i := 4) sc__law_thin.nd rfl (by first | exact Or.inl rfl | exact Or.inr rfl) (pe_lst pa_nil)) (pss_cons (ps_for PassesOwn.never rfl (pi_range1 rfl z_range (pa_cons (pe_op op_add pe_int (pe_c c__law_take hr (by omega) rfl (pa_cons (pv 0) (pa_cons pe_int pa_nil)))) pa_nil)) (pg_name (i := 5) sc__law_thin.nd rfl (by first | exact Or.inl rfl | exact Or.inr rfl)) (pss_cons (ps_set (i := 6) sc__law_thin.nd rfl (by first | exact Or.inl rfl | exact Or.inr rfl) pe_dnewK) (pss_cons (ps_for PassesOwn.never rfl (pi_range1 rfl z_range (pa_cons (pe_op op_add pe_int (pe_c c__law_take hr (by omega) rfl (pa_cons (pv 0) (pa_cons pe_int pa_nil)))) pa_nil)) (pg_name (i := 7) sc__law_thin.nd rfl (by first | exact Or.inl rfl | exact Or.inr rfl)) (pss_cons (ps_asg (pe_op op_add pe_int (pe_c c__law_take hr (by omega) rfl (pa_cons (pv 0) (pa_cons pe_int pa_nil)))) (pg_sub (pv 6) (pe_ix ix_seq (pe_lst (pa_cons (pe_op op_mod (pe_callTy call_int1 rfl z_int bt_int (pa_cons (pe_op op_add (pv 3) pe_int) pa_nil)) (pv 1)) (pa_cons (pe_c c__law_take hr (by omega) rfl (pa_cons (pv 0) (pa_cons (pv 1) pa_nil))) pa_nil))) (pe_c c__law_take hr (by omega) rfl (pa_cons (pv 0) (pa_cons pe_int pa_nil))) (fun _ _ => rfl)) (set_dict (by have := room_hu hr; exact Nat.lt_of_le_of_lt (Nat.add_le_add_left (by decide) _) this)))) pss_nil)) (pss_cons (ps_expr (pe_bm PySem.F.plainAttrs_list PySem.F.slot_list_append PySem.F.type_list_append mt_append (pv 4) (pa_cons (pe_tup (pa_cons (pe_c c__law_take hr (by omega) rfl (pa_cons (pv 0) (pa_cons pe_int pa_nil))) (pa_cons (pe_callTy call_tuple_of rfl z_tuple bt_tuple (pa_cons (L3G.pe_sortI rfl (pv 6) rfl z_sorted bt_sorted) pa_nil)) pa_nil))) pa_nil))) pss_nil)))) (pss_cons (ps_expr (pe_bm PySem.F.plainAttrs_list PySem.F.slot_list_append PySem.F.type_list_append mt_append (pv 2) (pa_cons (pe_callTy call_tuple_of rfl z_tuple bt_tuple (pa_cons (pv 4) pa_nil)) pa_nil))) pss_nil)))) (pss_cons (ps_ret (pe_callTy call_tuple_of rfl z_tuple bt_tuple (pa_cons (pv 2) pa_nil))) pss_nil))), ?_⟩
    rw [show start ["_law_state", "_law_many", "_law_system_here", "_law_k", "_law_choices_here", "_law_number", "_law_ends_here", "_law_j"] [.ref p0, u1] = ([some (.ref p0), some u1, none, none, none, none, none, none] : L2.St) from rfl]
    refine q_asgL (n := 2) w (el_lst (r := (rTup (rT2 rInt (rTup (rT2 rInt rInt))))) ([] : List (List (Int × (List (Int × Int))))) ea_nil) fun p11 B10 H10 x10 (w10 : Own K B10 M [⟨p11, (cLst (rTup (rT2 rInt (rTup (rT2 rInt rInt))))), ([] : List (List (Int × (List (Int × Int)))))⟩, ⟨p0, (cL2 (rLst rInt) rInt), a0⟩] H10) => ?_
    obtain ⟨t12, e13, hm⟩ := bindS hm
    obtain ⟨s131, e18, hm⟩ := bindS hm
    refine q_fold w10 (ei_rng1 (ea_cons (ev_varI rfl f1) ea_nil) e13) _ (fun s14 B19 σ32 => ∃ o33 o34 o35 o36 o37, σ32 = [some (.ref p0), some u1, some (.ref p11), o33, o34, o35, o36, o37]) (fun s14 => [⟨p11, (cLst (rTup (rT2 rInt (rTup (rT2 rInt rInt))))), s14.1⟩, ⟨p0, (cL2 (rLst rInt) rInt), s14.2⟩]) ((([] : List (List (Int × (List (Int × Int))))), a0)) e18 (fun B9 x9 => ⟨_, _, _, _, _, rfl⟩) rfl ?_ ?_
    · skip
      rintro s14 x15 s142 v25 B19 B20 H21 σ32 hb16 x22 ⟨o33, o34, o35, o36, o37, rfl⟩ x23 w24 h26 N27 K28 hN29
      replace w24 : Own K B20 M [⟨p11, (cLst (rTup (rT2 rInt (rTup (rT2 rInt rInt))))), s14.1⟩, ⟨p0, (cL2 (rLst rInt) rInt), s14.2⟩] H21 := w24
      refine g_name ?_
      refine q_asgL (n := 4) w24 (el_lst (r := (rT2 rInt (rTup (rT2 rInt rInt)))) ([] : List (Int × (List (Int × Int)))) ea_nil) fun p39 B38 H38 x38 (w38 : Own K B38 M [⟨p39, (cLst (rT2 rInt (rTup (rT2 rInt rInt)))), ([] : List (Int × (List (Int × Int))))⟩, ⟨p11, (cLst (rTup (rT2 rInt (rTup (rT2 rInt rInt))))), s14.1⟩, ⟨p0, (cL2 (rLst rInt) rInt), s14.2⟩] H38) => ?_
      obtain ⟨t40, e41, hb16⟩ := bindS hb16
      obtain ⟨t42, e43, hb16⟩ := bindS hb16
      obtain ⟨s118, e48, hb16⟩ := bindS hb16
      refine q_fold w38 (ei_rng1 (ea_cons (ev_add (ev_int (i := 1)) (ev_callC 2 (x := ⟨p0, (cL2 (rLst rInt) rInt), s14.2⟩) (x' := ⟨p0, (cL2 (rLst rInt) rInt), t40.2⟩) (ea_cons (ev_varR rfl) (ea_cons (ev_int (i := 2)) ea_nil)) rfl ⟨_, _, _, _, rfl, rfl, e41, rfl, rfl⟩ rfl)) ea_nil) e43) _ (fun s44 B49 σ62 => ∃ o63 o64 o65, σ62 = [some (.ref p0), some u1, some (.ref p11), some v25, some (.ref p39), o63, o64, o65]) (fun s44 => [⟨p39, (cLst (rT2 rInt (rTup (rT2 rInt rInt)))), s44.1⟩, ⟨p11, (cLst (rTup (rT2 rInt (rTup (rT2 rInt rInt))))), s14.1⟩, ⟨p0, (cL2 (rLst rInt) rInt), s44.2⟩]) ((([] : List (Int × (List (Int × Int)))), t40.2)) e48 (fun B9 x9 => ⟨_, _, _, rfl⟩) rfl ?_ ?_
      · skip
        rintro s44 x45 s130 v55 B49 B50 H51 σ62 hb46 x52 ⟨o63, o64, o65, rfl⟩ x53 w54 h56 N57 K58 hN59
        replace w54 : Own K B50 M [⟨p39, (cLst (rT2 rInt (rTup (rT2 rInt rInt)))), s44.1⟩, ⟨p11, (cLst (rTup (rT2 rInt (rTup (rT2 rInt rInt))))), s14.1⟩, ⟨p0, (cL2 (rLst rInt) rInt), s44.2⟩] H51 := w54
        refine g_name ?_
        refine q_asgD (n := 6) w54 fun p67 H66 (w66 : Own K B50 M [⟨p67, cDk, []⟩, ⟨p39, (cLst (rT2 rInt (rTup (rT2 rInt rInt)))), s44.1⟩, ⟨p11, (cLst (rTup (rT2 rInt (rTup (rT2 rInt rInt))))), s14.1⟩, ⟨p0, (cL2 (rLst rInt) rInt), s44.2⟩] H66) => ?_
        obtain ⟨t68, e69, hb46⟩ := bindS hb46
        obtain ⟨t70, e71, hb46⟩ := bindS hb46
        obtain ⟨s105, e76, hb46⟩ := bindS hb46
        refine q_fold w66 (ei_rng1 (ea_cons (ev_add (ev_int (i := 1)) (ev_callC 3 (x := ⟨p0, (cL2 (rLst rInt) rInt), s44.2⟩) (x' := ⟨p0, (cL2 (rLst rInt) rInt), t68.2⟩) (ea_cons (ev_varR rfl) (ea_cons (ev_int (i := 2)) ea_nil)) rfl ⟨_, _, _, _, rfl, rfl, e69, rfl, rfl⟩ rfl)) ea_nil) e71) _ (fun s72 B77 σ90 => ∃ o91, σ90 = [some (.ref p0), some u1, some (.ref p11), some v25, some (.ref p39), some v55, some (.ref p67), o91]) (fun s72 => [⟨p67, cDk, s72.1⟩, ⟨p39, (cLst (rT2 rInt (rTup (rT2 rInt rInt)))), s44.1⟩, ⟨p11, (cLst (rTup (rT2 rInt (rTup (rT2 rInt rInt))))), s14.1⟩, ⟨p0, (cL2 (rLst rInt) rInt), s72.2⟩]) (([], t68.2)) e76 (fun B9 x9 => ⟨_, rfl⟩) rfl ?_ ?_
        · skip
          rintro s72 x73 s117 v83 B77 B78 H79 σ90 hb74 x80 ⟨o91, rfl⟩ x81 w82 h84 N85 K86 hN87
          replace w82 : Own K B78 M [⟨p67, cDk, s72.1⟩, ⟨p39, (cLst (rT2 rInt (rTup (rT2 rInt rInt)))), s44.1⟩, ⟨p11, (cLst (rTup (rT2 rInt (rTup (rT2 rInt rInt))))), s14.1⟩, ⟨p0, (cL2 (rLst rInt) rInt), s72.2⟩] H79 := w82
          refine g_name ?_
          obtain ⟨t92, e93, hb74⟩ := bindS hb74
          obtain ⟨t94, e95, hb74⟩ := bindS hb74
          obtain ⟨t96, e97, hb74⟩ := bindS hb74
          obtain ⟨t98, e99, hb74⟩ := bindS hb74
          obtain ⟨t100, e101, hb74⟩ := bindS hb74
          obtain ⟨t102, e103, hb74⟩ := bindS hb74
          refine q_setD (n := 0) w82 (ev_add (ev_int (i := 1)) (ev_callC 3 (x := ⟨p0, (cL2 (rLst rInt) rInt), s72.2⟩) (x' := ⟨p0, (cL2 (rLst rInt) rInt), t92.2⟩) (ea_cons (ev_varR rfl) (ea_cons (ev_int (i := 2)) ea_nil)) rfl ⟨_, _, _, _, rfl, rfl, e93, rfl, rfl⟩ rfl)) rfl (ev_ix (ev_seqL (ev_frz (el_lst (r := rInt) [t94, t96.1] (ea_cons (ev_mod (ev_intI (ev_add (ev_varI rfl h26) (ev_int (i := 1)))) (ev_varI rfl f1) e95) (ea_cons (ev_callC 3 (x := ⟨p0, (cL2 (rLst rInt) rInt), t92.2⟩) (x' := ⟨p0, (cL2 (rLst rInt) rInt), t96.2⟩) (ea_cons (ev_varR rfl) (ea_cons (ev_varI rfl f1) ea_nil)) rfl ⟨_, _, _, _, rfl, rfl, e97, rfl, rfl⟩ rfl) ea_nil))))) (ev_callC 3 (x := ⟨p0, (cL2 (rLst rInt) rInt), t96.2⟩) (x' := ⟨p0, (cL2 (rLst rInt) rInt), t98.2⟩) (ea_cons (ev_varR rfl) (ea_cons (ev_int (i := 2)) ea_nil)) rfl ⟨_, _, _, _, rfl, rfl, e99, rfl, rfl⟩ rfl) e101) rfl e103 fun B104 H104 x104 (w104 : Own K B104 M [⟨p67, cDk, (putI s72.1 t100 (((1 : Int) + t92.1)))⟩, ⟨p39, (cLst (rT2 rInt (rTup (rT2 rInt rInt)))), s44.1⟩, ⟨p11, (cLst (rTup (rT2 rInt (rTup (rT2 rInt rInt))))), s14.1⟩, ⟨p0, (cL2 (rLst rInt) rInt), t98.2⟩] H104) => ?_
          replace hb74 : some _ = some _ := hb74
          cases hb74
          exact hN87 _ _ _ x104 w104 ⟨_, rfl⟩
        rintro B106 H107 σ110 x108 w109 ⟨o111, rfl⟩
        replace w109 : Own K B106 M [⟨p67, cDk, s105.1⟩, ⟨p39, (cLst (rT2 rInt (rTup (rT2 rInt rInt)))), s44.1⟩, ⟨p11, (cLst (rTup (rT2 rInt (rTup (rT2 rInt rInt))))), s14.1⟩, ⟨p0, (cL2 (rLst rInt) rInt), s105.2⟩] H107 := w109
        obtain ⟨t112, e113, hb46⟩ := bindS hb46
        obtain ⟨t114, e115, hb46⟩ := bindS hb46
        refine q_app (n := 1) (m := 4) w109 rfl (ev_T2 (ea_cons (ev_callC 3 (x := ⟨p0, (cL2 (rLst rInt) rInt), s105.2⟩) (x' := ⟨p0, (cL2 (rLst rInt) rInt), t112.2⟩) (ea_cons (ev_varR rfl) (ea_cons (ev_int (i := 1001)) ea_nil)) rfl ⟨_, _, _, _, rfl, rfl, e113, rfl, rfl⟩ rfl) (ea_cons (ev_tupOfL (ev_frz (el_sortI (n := 0) rfl rfl))) ea_nil))) rfl ⟨1, _, rfl⟩ e115 fun B116 H116 x116 (w116 : Own K B116 M [⟨p67, cDk, s105.1⟩, ⟨p39, (cLst (rT2 rInt (rTup (rT2 rInt rInt)))), (s44.1 ++ [(t112.1, (sortI s105.1))])⟩, ⟨p11, (cLst (rTup (rT2 rInt (rTup (rT2 rInt rInt))))), s14.1⟩, ⟨p0, (cL2 (rLst rInt) rInt), t112.2⟩] H116) => ?_
        replace hb46 : some _ = some _ := hb46
        cases hb46
        exact hN59 _ _ _ (x108.trans x116) w116.tail ⟨_, _, _, rfl⟩
      rintro B119 H120 σ123 x121 w122 ⟨o124, o125, o126, rfl⟩
      replace w122 : Own K B119 M [⟨p39, (cLst (rT2 rInt (rTup (rT2 rInt rInt)))), s118.1⟩, ⟨p11, (cLst (rTup (rT2 rInt (rTup (rT2 rInt rInt))))), s14.1⟩, ⟨p0, (cL2 (rLst rInt) rInt), s118.2⟩] H120 := w122
      obtain ⟨t127, e128, hb16⟩ := bindS hb16
      refine q_app (n := 1) (m := 2) w122 rfl (ev_tupOfC (n := 0) (ev_varR rfl) rfl) rfl ⟨1, _, rfl⟩ e128 fun B129 H129 x129 (w129 : Own K B129 M [⟨p39, (cLst (rT2 rInt (rTup (rT2 rInt rInt)))), s118.1⟩, ⟨p11, (cLst (rTup (rT2 rInt (rTup (rT2 rInt rInt))))), (s14.1 ++ [s118.1])⟩, ⟨p0, (cL2 (rLst rInt) rInt), s118.2⟩] H129) => ?_
      replace hb16 : some _ = some _ := hb16
      cases hb16
      exact hN29 _ _ _ ((x38.trans x121).trans x129) w129.tail ⟨_, _, _, _, _, rfl⟩
    rintro B132 H133 σ136 x134 w135 ⟨o137, o138, o139, o140, o141, rfl⟩
    replace w135 : Own K B132 M [⟨p11, (cLst (rTup (rT2 rInt (rTup (rT2 rInt rInt))))), s131.1⟩, ⟨p0, (cL2 (rLst rInt) rInt), s131.2⟩] H133 := w135
    replace hm : some _ = some _ := hm
    obtain rfl := Option.some.inj hm
    exact q_ret w135 (ev_tupOfC (n := 0) (ev_varR rfl) rfl) fun v9 B9 H9 x9 w9 h9 => k _ _ _ ((x10.trans x134).trans x9) w9.tail h9
noncomputable def m_law (a0 : (List Int)) : Option Bool :=
  Option.bind (m_l_tape a0) fun t10 =>
  Option.bind (loopR (S := ((List Int) × Int)) (R := Bool) (α := Int) (fun (s14 : ((List Int) × Int)) (x15 : Int) => (
    Option.bind (m_l_system s14 ((4 : Int))) fun t39 =>
    Option.bind (m_l_take t39.2 ((12 : Int))) fun t44 =>
    Option.bind (if (decide (t44.1 = (0 : Int))) = true then
      Option.bind (m_l_take t44.2 ((8 : Int))) fun t50 =>
      Option.bind (m_l_thin t50.2 (((13 : Int) + t50.1))) fun t52 =>
      Option.bind (m_l_take t52.2 ((2 : Int))) fun t57 =>
      Option.bind (if (decide (t57.1 = (0 : Int))) = true then
        Option.bind (m_l_take t57.2 ((5 : Int))) fun t63 =>
        Option.bind (m_l_large t63.2 (((6 : Int) + t63.1))) fun t65 =>
        some ((t65.1, t65.2))
      else
        some ((t52.1, t57.2))
      ) fun (s60 : ((List (List (Int × (List (Int × Int))))) × ((List Int) × Int))) =>
      some ((s60.1, s60.2))
    else
      some ((t39.1, t44.2))
    ) fun (s47 : ((List (List (Int × (List (Int × Int))))) × ((List Int) × Int))) =>
    Option.bind (m_l_drawn_policy s47.2 s47.1) fun t80 =>
    Option.bind (m_l_some t80.2 ((s47.1.length : Int)) ((2 : Int))) fun t85 =>
    Option.bind (m_l_chain s47.1 t80.1) fun t90 =>
    Option.bind (m_l_costs t90 t85.1) fun t92 =>
    Option.bind (m_policy_costs s47.1 t80.1 t85.1) fun t100 =>
    Option.bind (m_l_equal 8 (((dLst (dOpt (dT2 PyData.int PyData.int))) t100)) (((dLst (dOpt (dT2 PyData.int PyData.int))) t92))) fun t102 =>
    if ((!t102) || (!decide (t85.1 = t85.1))) = true then
      some (Stp.rt false)
    else
      some (Stp.nx t85.2)
  )) ((t10, (0 : Int))) ((rng 0 ((3 : Int))))) fun o17 =>
  match o17 with
  | .inl s107 =>
    some true
  | .inr q9 => some q9
def C_law : List Arg → List Cell → Arg → List Cell → Prop := fun as L r L' => ∃ a0 c, as = [⟨(rScr rInt), a0⟩] ∧ L = [] ∧ m_law a0 = some c ∧ r = ⟨rBool, c⟩ ∧ L' = []
theorem sc_law : FnScope ["_law_script", "_law_state", "_law_turn", "_law_system_here", "_law_policy", "_law_targets", "_law_due", "_law_passed"] ["_law_script"] (defScope s_law) := ⟨rfl, rfl, rfl, by decide +kernel, rfl, by decide +kernel, by decide +kernel⟩
set_option maxHeartbeats 0 in
theorem ok_law (F : FunC K "law" s_law f fd cc) (c__law_tape : Cl P w K mg base 1 "_law_tape" (spV K T C__law_tape) []) (c__law_system : Cl P w K mg base 5 "_law_system" (spV K T C__law_system) []) (c__law_take : Cl P w K mg base 2 "_law_take" (spV K T C__law_take) []) (c__law_thin : Cl P w K mg base 3 "_law_thin" (spV K T C__law_thin) []) (c__law_large : Cl P w K mg base 3 "_law_large" (spV K T C__law_large) []) (c__law_drawn_policy : Cl P w K mg base 3 "_law_drawn_policy" (spV K T C__law_drawn_policy) []) (c__law_some : Cl P w K mg base 3 "_law_some" (spV K T C__law_some) []) (c__law_costs : Cl P w K mg base 5 "_law_costs" (spV K T C__law_costs) []) (c__law_chain : Cl P w K mg base 2 "_law_chain" (spV K T C__law_chain) []) (c__law_equal : Cl P w K mg base 8 "_law_equal" (spV K T (C__law_equal 8)) []) (c_policy_costs : Cl P w K mg base 6 "policy_costs" (spV K T C_policy_costs) []) (z_range : mg "range" = none) (z_len : mg "len" = none) (z_list : mg "list" = none) : FnOk P w K mg base CX0 9 f fd ["_law_script"] (spV K T C_law) := by
  refine F.ok sc_law (fun vs H Q E h => ?_) (fun A outer s H vs Q E hr h => ?_)
  · obtain ⟨B, M, L, as, r, L', hT, w, ha, ⟨_, _, rfl, _⟩, k⟩ := h
    exact args_len ha
  · skip
    obtain ⟨B, M, L, as, r, L', rfl, w, ha, ⟨a0, c, rfl, rfl, hm, rfl, rfl⟩, k⟩ := h
    obtain ⟨u0, rfl, f0⟩ := args1 ha
    replace f0 : ((rScr rInt)).is K B u0 a0 := f0
    have hu := room_hu hr
    unfold m_law at hm
    refine ⟨_, (pss_cons (ps_set (i := 1) sc_law.nd rfl (by first | exact Or.inl rfl | exact Or.inr rfl) (pe_lst (pa_cons (pe_c c__law_tape hr (by omega) rfl (pa_cons (pv 0) pa_nil)) (pa_cons pe_int pa_nil)))) (pss_cons (ps_for PassesOwn.never rfl (pi_range1 rfl z_range (pa_cons pe_int pa_nil)) (pg_name (i := 2) sc_law.nd rfl (by first | exact Or.inl rfl | exact Or.inr rfl)) (pss_cons (ps_set (i := 3) sc_law.nd rfl (by first | exact Or.inl rfl | exact Or.inr rfl) (pe_c c__law_system hr (by omega) rfl (pa_cons (pv 1) (pa_cons pe_int pa_nil)))) (Evl.pss_cut (ps_if (pt_cmpR op_eq (pe_c c__law_take hr (by omega) rfl (pa_cons (pv 1) (pa_cons pe_int pa_nil))) pe_int (nomark _)) (pss_cons (ps_set (i := 3) sc_law.nd rfl (by first | exact Or.inl rfl | exact Or.inr rfl) (pe_c c__law_thin hr (by omega) rfl (pa_cons (pv 1) (pa_cons (pe_op op_add pe_int (pe_c c__law_take hr (by omega) rfl (pa_cons (pv 1) (pa_cons pe_int pa_nil)))) pa_nil)))) (Evl.pss_cut (ps_if (pt_cmpR op_eq (pe_c c__law_take hr (by omega) rfl (pa_cons (pv 1) (pa_cons pe_int pa_nil))) pe_int (nomark _)) (pss_cons (ps_set (i := 3) sc_law.nd rfl (by first | exact Or.inl rfl | exact Or.inr rfl) (pe_c c__law_large hr (by omega) rfl (pa_cons (pv 1) (pa_cons (pe_op op_add pe_int (pe_c c__law_take hr (by omega) rfl (pa_cons (pv 1) (pa_cons pe_int pa_nil)))) pa_nil)))) pss_nil) pss_nil) pss_nil)) pss_nil) (pss_cons (ps_set (i := 4) sc_law.nd rfl (by first | exact Or.inl rfl | exact Or.inr rfl) (pe_c c__law_drawn_policy hr (by omega) rfl (pa_cons (pv 1) (pa_cons (pv 3) pa_nil)))) (pss_cons (ps_set (i := 5) sc_law.nd rfl (by first | exact Or.inl rfl | exact Or.inr rfl) (pe_c c__law_some hr (by omega) rfl (pa_cons (pv 1) (pa_cons (pe_callB call_len_seq rfl z_len bt_len (pa_cons (pv 3) pa_nil)) (pa_cons pe_int pa_nil))))) (pss_cons (ps_set (i := 6) sc_law.nd rfl (by first | exact Or.inl rfl | exact Or.inr rfl) (pe_c c__law_costs hr (by omega) rfl (pa_cons (pe_c c__law_chain hr (by omega) rfl (pa_cons (pv 3) (pa_cons (pv 4) pa_nil))) (pa_cons (pv 5) pa_nil)))) (pss_cons (ps_set (i := 7) sc_law.nd rfl (by first | exact Or.inl rfl | exact Or.inr rfl) (pe_callTy call_list_of rfl z_list bt_list (pa_cons (pv 5) pa_nil))) (pss_cons (ps_if (PW.pt (pw_or (pt_not (pt_val (pe_c c__law_equal hr (by omega) rfl (pa_cons (pe_c c_policy_costs hr (by omega) rfl (pa_cons (pv 3) (pa_cons (pv 4) (pa_cons (pv 7) pa_nil)))) (pa_cons (pv 6) pa_nil))))) (pw_or1 (pt_cmpR (op_neD hu) (pv 7) (pv 5) (nomark _))))) (pss_cons (ps_ret pe_bl) pss_nil) pss_nil) pss_nil)))))))) (pss_cons (ps_ret pe_bl) pss_nil))), ?_⟩
    rw [show start ["_law_script", "_law_state", "_law_turn", "_law_system_here", "_law_policy", "_law_targets", "_law_due", "_law_passed"] [u0] = ([some u0, none, none, none, none, none, none, none] : L2.St) from rfl]
    obtain ⟨t10, e11, hm⟩ := bindS hm
    refine q_asgL2 (n := 1) (r := (rLst rInt)) (s := rInt) w (ea_cons (ev_call (ea_cons (ev_var rfl f0) ea_nil) ⟨_, _, rfl, rfl, e11, rfl, rfl⟩) (ea_cons (ev_int (i := 0)) ea_nil)) fun p13 B12 H12 x12 (w12 : Own K B12 M [⟨p13, (cL2 (rLst rInt) rInt), (t10, (0 : Int))⟩] H12) => ?_
    obtain ⟨o17, e18, hm⟩ := bindS hm
    refine q_forR w12 (ei_rng1 (ea_cons (ev_int (i := 3)) ea_nil) (by decide)) _ (fun s14 B19 σ32 => ∃ o33 o34 o35 o36 o37 o38, σ32 = [some u0, some (.ref p13), o33, o34, o35, o36, o37, o38]) (fun s14 => [⟨p13, (cL2 (rLst rInt) rInt), s14⟩]) ((t10, (0 : Int))) e18 (fun B9 x9 => ⟨_, _, _, _, _, _, rfl⟩) rfl ?_ ?_
    · skip
      rintro s14 x15 s119 v25 B19 B20 H21 σ32 hb16 x22 ⟨o33, o34, o35, o36, o37, o38, rfl⟩ x23 w24 h26 ho31 N27 K28 hN29 hB30
      replace w24 : Own K B20 M [⟨p13, (cL2 (rLst rInt) rInt), s14⟩] H21 := w24
      refine g_name ?_
      obtain ⟨t39, e40, hb16⟩ := bindS hb16
      refine q_asg (n := 3) w24 (ev_callC 0 (x := ⟨p13, (cL2 (rLst rInt) rInt), s14⟩) (x' := ⟨p13, (cL2 (rLst rInt) rInt), t39.2⟩) (ea_cons (ev_varR rfl) (ea_cons (ev_int (i := 4)) ea_nil)) rfl ⟨_, _, _, _, rfl, rfl, e40, rfl, rfl⟩ rfl) fun v42 B41 H41 x41 (w41 : Own K B41 M [⟨p13, (cL2 (rLst rInt) rInt), t39.2⟩] H41) h43 => ?_
      obtain ⟨t44, e45, hb16⟩ := bindS hb16
      obtain ⟨s47, e48, hb16⟩ := bindS hb16
      refine q_cut (fun σ79 H76 => ∃ v77 B76, Ex B41 B76 ∧ Own K B76 M [⟨p13, (cL2 (rLst rInt) rInt), s47.2⟩] H76 ∧ σ79 = [some u0, some (.ref p13), some v25, some v77, o35, o36, o37, o38] ∧ ((rTup (rTup (rT2 rInt (rTup (rT2 rInt rInt)))))).is K B76 v77 s47.1) ?_ ?_
      · skip
        refine q_ifc w41 (et_test (ev_eqI (ev_callC 0 (x := ⟨p13, (cL2 (rLst rInt) rInt), t39.2⟩) (x' := ⟨p13, (cL2 (rLst rInt) rInt), t44.2⟩) (ea_cons (ev_varR rfl) (ea_cons (ev_int (i := 12)) ea_nil)) rfl ⟨_, _, _, _, rfl, rfl, e45, rfl, rfl⟩ rfl) (ev_int (i := 0)))) (fun hb46 B49 H49 x49 (w49 : Own K B49 M [⟨p13, (cL2 (rLst rInt) rInt), t44.2⟩] H49) => ?_) (fun hb46 B75 H75 x75 (w75 : Own K B75 M [⟨p13, (cL2 (rLst rInt) rInt), t44.2⟩] H75) => ?_)
        · skip
          rw [if_pos hb46] at e48
          obtain ⟨t50, e51, e48⟩ := bindS e48
          obtain ⟨t52, e53, e48⟩ := bindS e48
          refine q_asg (n := 3) w49 (ev_callC 0 (x := ⟨p13, (cL2 (rLst rInt) rInt), t50.2⟩) (x' := ⟨p13, (cL2 (rLst rInt) rInt), t52.2⟩) (ea_cons (ev_varR rfl) (ea_cons (ev_add (ev_int (i := 13)) (ev_callC 0 (x := ⟨p13, (cL2 (rLst rInt) rInt), t44.2⟩) (x' := ⟨p13, (cL2 (rLst rInt) rInt), t50.2⟩) (ea_cons (ev_varR rfl) (ea_cons (ev_int (i := 8)) ea_nil)) rfl ⟨_, _, _, _, rfl, rfl, e51, rfl, rfl⟩ rfl)) ea_nil)) rfl ⟨_, _, _, _, rfl, rfl, e53, rfl, rfl⟩ rfl) fun v55 B54 H54 x54 (w54 : Own K B54 M [⟨p13, (cL2 (rLst rInt) rInt), t52.2⟩] H54) h56 => ?_
          obtain ⟨t57, e58, e48⟩ := bindS e48
          obtain ⟨s60, e61, e48⟩ := bindS e48
          refine q_cut (fun σ74 H71 => ∃ v72 B71, Ex B54 B71 ∧ Own K B71 M [⟨p13, (cL2 (rLst rInt) rInt), s60.2⟩] H71 ∧ σ74 = [some u0, some (.ref p13), some v25, some v72, o35, o36, o37, o38] ∧ ((rTup (rTup (rT2 rInt (rTup (rT2 rInt rInt)))))).is K B71 v72 s60.1) ?_ ?_
          · skip
            refine q_ifc w54 (et_test (ev_eqI (ev_callC 0 (x := ⟨p13, (cL2 (rLst rInt) rInt), t52.2⟩) (x' := ⟨p13, (cL2 (rLst rInt) rInt), t57.2⟩) (ea_cons (ev_varR rfl) (ea_cons (ev_int (i := 2)) ea_nil)) rfl ⟨_, _, _, _, rfl, rfl, e58, rfl, rfl⟩ rfl) (ev_int (i := 0)))) (fun hb59 B62 H62 x62 (w62 : Own K B62 M [⟨p13, (cL2 (rLst rInt) rInt), t57.2⟩] H62) => ?_) (fun hb59 B70 H70 x70 (w70 : Own K B70 M [⟨p13, (cL2 (rLst rInt) rInt), t57.2⟩] H70) => ?_)
            · skip
              rw [if_pos hb59] at e61
              obtain ⟨t63, e64, e61⟩ := bindS e61
              obtain ⟨t65, e66, e61⟩ := bindS e61
              refine q_asg (n := 3) w62 (ev_callC 0 (x := ⟨p13, (cL2 (rLst rInt) rInt), t63.2⟩) (x' := ⟨p13, (cL2 (rLst rInt) rInt), t65.2⟩) (ea_cons (ev_varR rfl) (ea_cons (ev_add (ev_int (i := 6)) (ev_callC 0 (x := ⟨p13, (cL2 (rLst rInt) rInt), t57.2⟩) (x' := ⟨p13, (cL2 (rLst rInt) rInt), t63.2⟩) (ea_cons (ev_varR rfl) (ea_cons (ev_int (i := 5)) ea_nil)) rfl ⟨_, _, _, _, rfl, rfl, e64, rfl, rfl⟩ rfl)) ea_nil)) rfl ⟨_, _, _, _, rfl, rfl, e66, rfl, rfl⟩ rfl) fun v68 B67 H67 x67 (w67 : Own K B67 M [⟨p13, (cL2 (rLst rInt) rInt), t65.2⟩] H67) h69 => ?_
              replace e61 : some _ = some _ := e61
              cases e61
              exact ⟨v68, _, (x62.trans x67), w67, rfl, h69⟩
            rw [if_neg (by rw [hb59]; exact Bool.false_ne_true)] at e61
            replace e61 : some _ = some _ := e61
            cases e61
            exact ⟨v55, _, x70, w70, rfl, (((rTup (rTup (rT2 rInt (rTup (rT2 rInt rInt)))))).mono x70 h56)⟩
          rintro σ74' H71 ⟨v72, B71, x71, w71, rfl, h73⟩
          replace e48 : some _ = some _ := e48
          cases e48
          exact ⟨v72, _, ((x49.trans x54).trans x71), w71, rfl, h73⟩
        rw [if_neg (by rw [hb46]; exact Bool.false_ne_true)] at e48
        replace e48 : some _ = some _ := e48
        cases e48
        exact ⟨v42, _, x75, w75, rfl, (((rTup (rTup (rT2 rInt (rTup (rT2 rInt rInt)))))).mono x75 h43)⟩
      rintro σ79' H76 ⟨v77, B76, x76, w76, rfl, h78⟩
      obtain ⟨t80, e81, hb16⟩ := bindS hb16
      refine q_asg (n := 4) w76 (ev_callC 0 (x := ⟨p13, (cL2 (rLst rInt) rInt), s47.2⟩) (x' := ⟨p13, (cL2 (rLst rInt) rInt), t80.2⟩) (ea_cons (ev_varR rfl) (ea_cons (ev_var rfl h78) ea_nil)) rfl ⟨_, _, _, _, rfl, rfl, e81, rfl, rfl⟩ rfl) fun v83 B82 H82 x82 (w82 : Own K B82 M [⟨p13, (cL2 (rLst rInt) rInt), t80.2⟩] H82) h84 => ?_
      obtain ⟨t85, e86, hb16⟩ := bindS hb16
      refine q_asg (n := 5) w82 (ev_callC 0 (x := ⟨p13, (cL2 (rLst rInt) rInt), t80.2⟩) (x' := ⟨p13, (cL2 (rLst rInt) rInt), t85.2⟩) (ea_cons (ev_varR rfl) (ea_cons (ev_len (ev_seqT (ev_var rfl (((rTup (rTup (rT2 rInt (rTup (rT2 rInt rInt)))))).mono x82 h78)))) (ea_cons (ev_int (i := 2)) ea_nil))) rfl ⟨_, _, _, _, _, rfl, rfl, e86, rfl, rfl⟩ rfl) fun v88 B87 H87 x87 (w87 : Own K B87 M [⟨p13, (cL2 (rLst rInt) rInt), t85.2⟩] H87) h89 => ?_
      obtain ⟨t90, e91, hb16⟩ := bindS hb16
      obtain ⟨t92, e93, hb16⟩ := bindS hb16
      refine q_asg (n := 6) w87 (ev_call (ea_cons (ev_call (ea_cons (ev_var rfl (((rTup (rTup (rT2 rInt (rTup (rT2 rInt rInt)))))).mono (x82.trans x87) h78)) (ea_cons (ev_var rfl (((rTup rInt)).mono x87 h84)) ea_nil)) ⟨_, _, _, rfl, rfl, e91, rfl, rfl⟩) (ea_cons (ev_var rfl h89) ea_nil)) ⟨_, _, _, rfl, rfl, e93, rfl, rfl⟩) fun v95 B94 H94 x94 (w94 : Own K B94 M [⟨p13, (cL2 (rLst rInt) rInt), t85.2⟩] H94) h96 => ?_
      refine q_asg (n := 7) w94 (ev_frz (el_listOf (ev_seqL (ev_var rfl (((rLst rInt)).mono x94 h89))))) fun v98 B97 H97 x97 (w97 : Own K B97 M [⟨p13, (cL2 (rLst rInt) rInt), t85.2⟩] H97) h99 => ?_
      obtain ⟨t100, e101, hb16⟩ := bindS hb16
      obtain ⟨t102, e103, hb16⟩ := bindS hb16
      refine q_if w97 (et_or (et_not (et_B (ev_call (ea_cons (ev_dq (ev_call (ea_cons (ev_var rfl (((rTup (rTup (rT2 rInt (rTup (rT2 rInt rInt)))))).mono (((x82.trans x87).trans x94).trans x97) h78)) (ea_cons (ev_var rfl (((rTup rInt)).mono ((x87.trans x94).trans x97) h84)) (ea_cons (ev_var rfl h99) ea_nil))) ⟨_, _, _, _, rfl, rfl, e101, rfl, rfl⟩) (dq_lst (dq_opt (dq_T2 dq_int dq_int)))) (ea_cons (ev_dq (ev_var rfl (((rLst (rOpt (rT2 rInt rInt)))).mono x97 h96)) (dq_lst (dq_opt (dq_T2 dq_int dq_int)))) ea_nil)) ⟨_, _, _, rfl, rfl, e103, rfl, rfl⟩))) fun _ => (et_test (ev_neT (dr_lst dr_int) (by decide) (ev_var rfl h99) (ev_var rfl (((rLst rInt)).mono (x94.trans x97) h89))))) (fun hb104 B105 H105 x105 (w105 : Own K B105 M [⟨p13, (cL2 (rLst rInt) rInt), t85.2⟩] H105) => ?_) (fun hb104 B106 H106 x106 (w106 : Own K B106 M [⟨p13, (cL2 (rLst rInt) rInt), t85.2⟩] H106) => ?_)
      · skip
        rw [if_pos hb104] at hb16
        replace hb16 : some _ = some _ := hb16
        obtain rfl := Option.some.inj hb16
        obtain rfl := ho31 _ rfl
        replace hm : some _ = some _ := hm
        obtain rfl := Option.some.inj hm
        exact q_ret w105 (ev_bl (b := false)) fun v9 B9 H9 x9 w9 h9 => k _ _ _ ((((((((((x12.trans x22).trans x23).trans x41).trans x76).trans x82).trans x87).trans x94).trans x97).trans x105).trans x9) w9.tail h9
      rw [if_neg (by rw [hb104]; exact Bool.false_ne_true)] at hb16
      replace hb16 : some _ = some _ := hb16
      cases hb16
      exact hN29 _ _ _ _ rfl ((((((x41.trans x76).trans x82).trans x87).trans x94).trans x97).trans x106) w106 ⟨_, _, _, _, _, _, rfl⟩
    rintro s107 B108 H109 σ112 rfl x110 w111 ⟨o113, o114, o115, o116, o117, o118, rfl⟩
    dsimp only at hm
    replace w111 : Own K B108 M [⟨p13, (cL2 (rLst rInt) rInt), s107⟩] H109 := w111
    replace hm : some _ = some _ := hm
    obtain rfl := Option.some.inj hm
    exact q_ret w111 (ev_bl (b := true)) fun v9 B9 H9 x9 w9 h9 => k _ _ _ ((x12.trans x110).trans x9) w9.tail h9
end
end L3

namespace L3
open PySem L2
/-! ### the prelude of the laws: tape, draw, take, equal -/
def TapeOk (t : List Int) : Prop := t.length ≤ 4000 ∧ ∀ x ∈ t, 0 ≤ x ∧ x < 2 ^ 31
theorem all_app {t : List Int} {x : Int} (h : ∀ y ∈ t, 0 ≤ y ∧ y < (2 : Int) ^ 31) (hx : 0 ≤ x ∧ x < (2 : Int) ^ 31) : ∀ y ∈ t ++ [x], 0 ≤ y ∧ y < (2 : Int) ^ 31 := fun y hy => by
  rcases List.mem_append.mp hy with hy | hy
  · exact h y hy
  · rw [List.mem_singleton.mp hy]; exact hx
theorem tape_ok {ns : List Int} (h : ns.length ≤ 63) : Yes (m_l_tape ns) TapeOk := by
  unfold m_l_tape
  refine y_bind (Q := TapeOk) ?_ fun t h => y_some h
  refine (y_foldI _ (fun i t => t.length ≤ 40 * i ∧ ∀ x ∈ t, 0 ≤ x ∧ x < (2 : Int) ^ 31) ⟨by simp, by simp⟩ ?_).mono fun t ht => ⟨by have := ht.1; omega, ht.2⟩
  rintro i x s hx ⟨h1, h2⟩
  have hi : i < ns.length := (List.getElem?_eq_some_iff.mp hx).1
  refine y_eq (mulI_l (by decide) (by decide)) ?_
  refine y_bind (Q := fun n => 0 ≤ n) (y_if (fun c => y_some ?_) (fun c => y_some ?_)) fun n hn => ?_
  · have := of_decide_eq_true c; omega
  · have : ¬ (2 * x < 0) := fun z => c (decide_eq_true z)
    omega
  refine y_eq (a := 1000000000000000000) (by decide +kernel) ?_
  refine y_bind (Q := fun (p : Int × List Int) => p.2.length ≤ 40 * (i + 1) ∧ ∀ x ∈ p.2, 0 ≤ x ∧ x < (2 : Int) ^ 31) (y_if (fun c => ?_) (fun c => ?_)) fun p hp => y_some hp
  · refine y_bind (Q := fun (p : Int × List Int) => p.2.length ≤ 40 * (i + 1) ∧ ∀ x ∈ p.2, 0 ≤ x ∧ x < (2 : Int) ^ 31) ?_ fun p hp => y_some hp
    refine (y_foldI _ (fun j (p : Int × List Int) => 0 ≤ p.1 ∧ p.2.length ≤ 40 * i + j ∧ ∀ x ∈ p.2, 0 ≤ x ∧ x < (2 : Int) ^ 31) ⟨hn, h1, h2⟩ ?_).mono fun p hp => ⟨by have := hp.2.1; rw [rng_len] at this; simp at this; omega, hp.2.2⟩
    rintro j y ⟨m, t⟩ hy ⟨g1, g2, g3⟩
    have hj := (rng_at hy).2
    have hj : j < 40 := by omega
    refine y_bind (Q := fun (p : Int × List Int) => 0 ≤ p.1 ∧ p.2.length ≤ 40 * i + (j + 1) ∧ ∀ x ∈ p.2, 0 ≤ x ∧ x < (2 : Int) ^ 31) (y_if (fun c => ?_) (fun c => ?_)) fun p hp => y_some hp
    · refine y_eq (modI_s (by decide)) (y_eq (room_s (by show t.length ≤ _; show _ ≤ 1000000; have : t.length ≤ 40 * i + j := g2; omega)) (y_eq (divI_s (by decide) (by decide)) (y_some ⟨?_, ?_, ?_⟩)))
      · show 0 ≤ m / 1000
        have : 0 ≤ m := g1
        omega
      · show (t ++ [_]).length ≤ _
        have : t.length ≤ 40 * i + j := g2
        simp
        omega
      · refine all_app g3 ?_
        show 0 ≤ m % 1000 ∧ m % 1000 < _
        omega
    · exact y_some ⟨g1, by have : t.length ≤ 40 * i + j := g2; show t.length ≤ _; omega, g3⟩
  · refine y_bind (Q := fun (t : List Int) => t.length ≤ 40 * (i + 1) ∧ ∀ x ∈ t, 0 ≤ x ∧ x < (2 : Int) ^ 31) ?_ fun p hp => y_some hp
    refine (y_foldI _ (fun j (t : List Int) => t.length ≤ 40 * i + j ∧ ∀ x ∈ t, 0 ≤ x ∧ x < (2 : Int) ^ 31) ⟨h1, h2⟩ ?_).mono fun p hp => ⟨by have := hp.1; rw [rng_len] at this; simp at this; omega, hp.2⟩
    rintro j y t hy ⟨g2, g3⟩
    have hj := (rng_at hy).2
    have hj : j < 3 := by omega
    refine y_eq (mulI_r (by decide) (by decide)) (y_eq (mulI_r (by decide) (by decide)) (y_eq (modI_s (by decide)) (y_eq (mulI_r (by decide) (by decide)) (y_eq (divI_s (by decide) (by decide)) (y_eq (modI_s (by decide)) (y_eq (room_s (by omega)) (y_some ⟨?_, ?_⟩)))))))
    · rw [List.length_append, List.length_singleton]; omega
    · refine all_app g3 ?_
      omega
theorem draw_ok {t : List Int} {at' many : Int} (ht : TapeOk t) (h0 : 0 ≤ at') (h1 : at' < 2 ^ 62) (hm : 0 < many) : Yes (m_l_draw t at' many) fun r => 0 ≤ r ∧ r < many := by
  unfold m_l_draw
  refine y_if (fun c => ?_) (fun c => ?_)
  · have c := of_decide_eq_true c
    obtain ⟨n, rfl⟩ := Int.eq_ofNat_of_zero_le h0
    have hn : n < t.length := by omega
    refine y_eq (ixL_s (List.getElem?_eq_getElem hn) rfl) (y_eq (modI_s hm) (y_some ⟨Int.emod_nonneg _ (by omega), Int.emod_lt_of_pos _ hm⟩))
  · refine y_bind (Q := fun _ => True) (y_if (fun c => ?_) fun c => y_some trivial) fun n _ => ?_
    · have c := of_decide_eq_true c
      obtain ⟨n, hn⟩ := Int.eq_ofNat_of_zero_le (Int.emod_nonneg at' (show (t.length : Int) ≠ 0 by omega))
      have hl := Int.emod_lt_of_pos at' c
      refine y_eq (modI_s c) (y_eq (ixL_s (n := n) (List.getElem?_eq_getElem (by omega)) hn) (y_some trivial))
    · refine y_eq (mulI_r (by omega) (by omega)) (y_eq (mulI_r (by decide) (by decide)) (y_eq (mulI_r (by decide) (by decide)) (y_eq (modI_s (by decide)) (y_eq (modI_s hm) (y_some ⟨Int.emod_nonneg _ (by omega), Int.emod_lt_of_pos _ hm⟩)))))
/-- the tape and how far it is read -/
def StOk (s : List Int × Int) (n : Int) : Prop := TapeOk s.1 ∧ 0 ≤ s.2 ∧ s.2 ≤ n
theorem take_ok {s : List Int × Int} {n many : Int} (hs : StOk s n) (hn : n < 2 ^ 61) (hm : 0 < many) : Yes (m_l_take s many) fun r => (0 ≤ r.1 ∧ r.1 < many) ∧ StOk r.2 (n + 1) := by
  unfold m_l_take
  obtain ⟨h1, h2, h3⟩ := hs
  refine y_bind (draw_ok h1 (by show 0 ≤ s.2 + 1; omega) (by show s.2 + 1 < _; omega) hm) fun r hr => y_some ⟨hr, h1, by show 0 ≤ s.2 + 1; omega, by show s.2 + 1 ≤ _; omega⟩
/-- == of a kind -/
theorem eqvD_ok {a b : PyData} (ha : SeqAt.shaped a = true) (hb : SeqAt.shaped b = true) : eqvD a b = some (PyData.eqv a b) := if_pos ⟨ha, hb⟩
theorem StOk.le {s : List Int × Int} {a b : Int} (h : StOk s a) (hab : a ≤ b) : StOk s b := ⟨h.1, h.2.1, Int.le_trans h.2.2 hab⟩
end L3

namespace L3
open PySem L2
/-! ### law_equal is equality -/
def okD : Nat → PyData → Prop
  | 0, _ => False
  | _ + 1, .none => True
  | _ + 1, .bool _ => True
  | _ + 1, .int _ => True
  | _ + 1, .str s => SeqAt.shaped (.str s) = true
  | n + 1, .list xs => xs.length < 2 ^ 60 ∧ ∀ x ∈ xs, okD n x
  | n + 1, .tuple xs => xs.length < 2 ^ 60 ∧ ∀ x ∈ xs, okD n x
  | _ + 1, .dict _ => False
def Is (o : Option Bool) (p : Prop) : Prop := ∃ c : Bool, o = some c ∧ (c = true ↔ p)
theorem is_t {p : Prop} (h : p) : Is (some true) p := ⟨true, rfl, fun _ => h, fun _ => rfl⟩
theorem is_f {p : Prop} (h : ¬ p) : Is (some false) p := ⟨false, rfl, fun e => absurd e (by decide), fun e => absurd e h⟩
theorem is_p {p : Prop} {b : Bool} {x y : Option Bool} (h : b = true) (k : Is x p) : Is (if b = true then x else y) p := by rw [if_pos h]; exact k
theorem is_n {p : Prop} {b : Bool} {x y : Option Bool} (h : b = false) (k : Is y p) : Is (if b = true then x else y) p := by rw [if_neg (by rw [h]; exact Bool.false_ne_true)]; exact k
theorem is_bd {α : Type} {p : Prop} {o : Option α} {a : α} {f : α → Option Bool} (h : o = some a) (k : Is (f a) p) : Is (Option.bind o f) p := by rw [h]; exact k
theorem is_bi {p : Prop} {o : Option Bool} (k : Is o p) : Is (Option.bind o fun t => some t) p := by obtain ⟨c, h, g⟩ := k; rw [h]; exact ⟨c, rfl, g⟩
theorem is_b {p : Prop} {c : Bool} (h : c = true ↔ p) : Is (some c) p := ⟨c, rfl, h⟩
theorem eq_seq {f : PyData → PyData → Option Bool} {xs ys : List PyData} {A B : PyData} (hl : xs.length = ys.length) (hb : ys.length < 2 ^ 60) (hA : ∀ i : Int, ixD A i = atI xs i) (hB : ∀ i : Int, ixD B i = atI ys i) (h : ∀ x ∈ xs, ∀ y ∈ ys, Is (f x y) (x = y)) :
    Yes (loopR (S := Unit) (R := Bool) (α := Int) (fun (s48 : Unit) (x49 : Int) => (
                  Option.bind (ixD A x49) fun t68 =>
                  Option.bind (ixD B x49) fun t70 =>
                  Option.bind (f t68 t70) fun t72 =>
                  if (!t72) = true then
                    some (Stp.rt false)
                  else
                    some (Stp.nx (()))
                )) (()) (rng 0 ys.length)) fun o => match o with | .inl _ => xs = ys | .inr b => b = false ∧ xs ≠ ys := by
  refine y_loopR _ (fun i _ => ∀ j < i, xs[j]? = ys[j]?) _ (fun j hj => absurd hj (by omega)) ?_ ?_
  · rintro i x ⟨⟩ hx hI
    obtain ⟨h1, h2⟩ := rng_at hx
    have hi : i < ys.length := by omega
    have hi' : i < xs.length := by omega
    have e1 : x = (i : Int) := by omega
    obtain ⟨v, g1, g2⟩ := h _ (List.getElem_mem hi') _ (List.getElem_mem hi)
    refine y_eq (by rw [hA]; exact ixL_s (List.getElem?_eq_getElem hi') e1) (y_eq (by rw [hB]; exact ixL_s (List.getElem?_eq_getElem hi) e1) (y_eq g1 (y_if (fun c => y_some ⟨rfl, fun e => ?_⟩) fun c => y_some ?_)))
    · subst e
      rw [g2.mpr rfl] at c
      exact absurd c (by decide)
    · intro j hj
      by_cases e : j = i
      · subst e
        rw [List.getElem?_eq_getElem hi, List.getElem?_eq_getElem hi']
        have c : v = true := by revert c; cases v <;> simp
        rw [g2.mp c]
      · exact hI j (by omega)
  · intro s hI
    rw [rng_len] at hI
    refine List.ext_getElem? fun j => ?_
    by_cases e : j < ys.length
    · exact hI j (by omega)
    · rw [List.getElem?_eq_none (by omega), List.getElem?_eq_none (by omega)]
theorem eq_seq2 {n : Nat} (IH : ∀ a b : PyData, okD n a → okD n b → Is (m_l_equal n a b) (a = b)) : ∀ xs ys : List PyData, xs.length < 2 ^ 60 → ys.length < 2 ^ 60 → (∀ x ∈ xs, okD n x) → (∀ x ∈ ys, okD n x) → ∀ A B : PyData, (∀ i : Int, ixD A i = atI xs i) → (∀ i : Int, ixD B i = atI ys i) → lenD A = some (xs.length : Int) → lenD B = some (ys.length : Int) →
        Is (Option.bind (lenD A) fun t37 => Option.bind (lenD B) fun t39 => if (!decide (t37 = t39)) = true then some false else Option.bind (lenD B) fun t44 => Option.bind (small62 t44) fun t46 =>
          Option.bind (loopR (S := Unit) (R := Bool) (α := Int) (fun (s48 : Unit) (x49 : Int) => (
                  Option.bind (ixD A x49) fun t68 =>
                  Option.bind (ixD B x49) fun t70 =>
                  Option.bind (m_l_equal n t68 t70) fun t72 =>
                  if (!t72) = true then
                    some (Stp.rt false)
                  else
                    some (Stp.nx (()))
                )) (()) ((rng 0 t44))) fun o51 => match o51 with | .inl s77 => some true | .inr q9 => some q9) (xs = ys) := by
  intro xs ys l1 l2 h1 h2 A B hA hB lA lB
  refine is_bd lA (is_bd lB ?_)
  by_cases e : xs.length = ys.length
  · refine is_n (by rw [e]; simp) (is_bd lB (is_bd (small62_s (by omega) (by omega)) ?_))
    obtain ⟨o, g1, g2⟩ := eq_seq (f := m_l_equal n) e l2 hA hB fun x hx y hy => IH x y (h1 x hx) (h2 y hy)
    refine is_bd g1 ?_
    match o, g2 with
    | .inl _, g2 => exact is_t g2
    | .inr b, ⟨g2, g3⟩ => subst g2; exact is_f g3
  · refine is_p ?_ (is_f fun h => e (congrArg List.length h))
    rw [Bool.not_eq_true']
    exact decide_eq_false fun h => e (by omega)
theorem eq_ok : ∀ (n : Nat) (a b : PyData), okD n a → okD n b → Is (m_l_equal n a b) (a = b)
  | 0, _, _, h, _ => h.elim
  | n + 1, a, b, ha, hb => by
    show Is (F_m_l_equal _ _ _) _
    unfold F_m_l_equal
    cases b with
    | none =>
      refine is_p rfl ?_
      cases a <;> first | exact is_t rfl | exact is_f (by intro e; cases e)
    | bool y =>
      refine is_n rfl (is_p rfl (is_bi ?_))
      cases a with
      | bool x => exact is_p rfl (is_bi (by rw [eqvD_ok (a := .bool x) (b := .bool y) (by rfl) (by rfl)]; exact is_b (by simp [PyData.eqv])))
      | _ => exact is_n rfl (is_f (by intro e; cases e))
    | int y =>
      refine is_n rfl (is_n rfl (is_p rfl (is_bi ?_)))
      cases a with
      | int x => exact is_p rfl (is_bi (is_p rfl (is_bi (by rw [eqvD_ok (a := .int x) (b := .int y) (by rfl) (by rfl)]; exact is_b (by simp [PyData.eqv])))))
      | bool x => exact is_p rfl (is_bi (is_n rfl (is_f (by intro e; cases e))))
      | _ => exact is_n rfl (is_f (by intro e; cases e))
    | str y =>
      refine is_n rfl (is_n rfl (is_n rfl (is_p rfl (is_bi ?_))))
      cases a with
      | str x => exact is_p rfl (is_bi (by rw [eqvD_ok (a := .str x) (b := .str y) ha hb]; exact is_b (by simp [PyData.eqv])))
      | _ => exact is_n rfl (is_f (by intro e; cases e))
    | list ys =>
      refine is_n rfl (is_n rfl (is_n rfl (is_n rfl (is_n rfl ?_))))
      cases a with
      | list xs =>
        refine is_n rfl ?_
        exact eq_seq2 (eq_ok n) xs ys ha.1 hb.1 ha.2 hb.2 (.list xs) (.list ys) (fun _ => rfl) (fun _ => rfl) rfl rfl |>.imp fun c h => ⟨h.1, h.2.trans (by simp)⟩
      | _ => exact is_p rfl (is_f (by intro e; cases e))
    | tuple ys =>
      refine is_n rfl (is_n rfl (is_n rfl (is_n rfl ?_)))
      cases a with
      | tuple xs =>
        refine is_n rfl (is_n rfl ?_)
        exact eq_seq2 (eq_ok n) xs ys ha.1 hb.1 ha.2 hb.2 (.tuple xs) (.tuple ys) (fun _ => rfl) (fun _ => rfl) rfl rfl |>.imp fun c h => ⟨h.1, h.2.trans (by simp)⟩
      | _ => exact is_p rfl (is_f (by intro e; cases e))
    | dict _ => exact hb.elim
theorem eq_typed {α : Type} [DecidableEq α] {r : Rep α} {f : α → PyData} {m n : Nat} (D : DR r f m) {a b : α} (ha : okD n (f a)) (hb : okD n (f b)) : m_l_equal n (f a) (f b) = some (decide (a = b)) := by
  obtain ⟨c, h1, h2⟩ := eq_ok n _ _ ha hb
  rw [h1]
  congr 1
  rw [Bool.eq_iff_iff, h2, decide_eq_true_iff]
  exact ⟨D.inj a b, fun h => by rw [h]⟩
end L3


namespace L3
open PySem L2
theorem y_p {α : Type} {P : α → Prop} {b : Bool} {x y : Option α} (h : b = true) (k : Yes x P) : Yes (if b = true then x else y) P := by rw [if_pos h]; exact k
theorem y_n {α : Type} {P : α → Prop} {b : Bool} {x y : Option α} (h : b = false) (k : Yes y P) : Yes (if b = true then x else y) P := by rw [if_neg (by rw [h]; exact Bool.false_ne_true)]; exact k
end L3

namespace L3
open PySem L2
/-! ### fractions -/
def rat (n d : Int) : Int × Int := if d < 0 then (-n / (Int.gcd n d : Int), -d / (Int.gcd n d : Int)) else (n / (Int.gcd n d : Int), d / (Int.gcd n d : Int))
theorem gcdI_neg (n d : Int) : gcdI (-n) (-d) = (Int.gcd n d : Int) := by
  unfold gcdI; rw [Int.natAbs_neg, Int.natAbs_neg]; rfl
theorem gcd_pos {n d : Int} (h : d ≠ 0) : 0 < Int.gcd n d := Int.gcd_pos_of_ne_zero_right n h
theorem gcd_le' {n d : Int} (h : d ≠ 0) : Int.gcd n d ≤ d.natAbs := Nat.le_of_dvd (by omega) (Int.gcd_dvd_natAbs_right n d)
theorem ratio_ok {n d : Int} (h : d ≠ 0) (hb : d.natAbs < 2 ^ 8999) : m_ratio n d = some (rat n d) := by
  have g0 := gcd_pos (n := n) h
  have g1 := gcd_le' (n := n) h
  have gl : ((Int.gcd n d : Nat) : Int).natAbs < 2 ^ 8999 := Nat.lt_of_le_of_lt (by omega) hb
  have dv : ∀ x : Int, divI x (Int.gcd n d : Int) = some (x / (Int.gcd n d : Int)) := fun x => divI_w (by omega) gl (by decide) (by decide)
  unfold m_ratio rat
  by_cases hd : d < 0
  · rw [if_pos (decide_eq_true hd), if_pos hd]
    show Option.bind (divI (-n) (gcdI (-n) (-d))) _ = _
    rw [gcdI_neg, dv]
    show Option.bind (divI (-d) (Int.gcd n d : Int)) _ = _
    rw [dv]
    rfl
  · rw [if_neg (by simp [hd]), if_neg hd]
    show Option.bind (divI n (Int.gcd n d : Int)) _ = _
    rw [dv]
    show Option.bind (divI d (Int.gcd n d : Int)) _ = _
    rw [dv]
    rfl
theorem euclid_ok {b a : Int} (hb : 0 < b) (ha : 0 ≤ a) (hp : a.natAbs * b.natAbs < 2 ^ 1990) : Yes (loopB (S := (Int × Int)) (α := Int) (fun (s24 : (Int × Int)) (x25 : Int) => (
    if (decide (s24.2 = (0 : Int))) = true then
      some (Stp.bk ((s24.1, s24.2)))
    else
      Option.bind (modI s24.1 s24.2) fun t52 =>
      some (Stp.nx ((s24.2, t52)))
  )) ((b, a)) ((rng 0 ((2000 : Int))))) fun s => s.1 = (Int.gcd a b : Int) := by
  refine y_loopB _ (fun i s => 0 < s.1 ∧ 0 ≤ s.2 ∧ Int.gcd s.2 s.1 = Int.gcd a b ∧ (i = 0 → s = (b, a)) ∧ (0 < i → s.2 < s.1 ∧ s.2.natAbs * s.1.natAbs * 2 ^ (i - 1) ≤ a.natAbs * b.natAbs)) _ ⟨hb, ha, rfl, fun _ => rfl, fun h => absurd h (by omega)⟩ ?_ ?_
  · rintro i x ⟨u, v⟩ hx ⟨h1, h2, h3, h4, h5⟩
    replace h1 : 0 < u := h1
    replace h2 : 0 ≤ v := h2
    refine y_if (fun c => y_some ?_) (fun c => ?_)
    · have c : v = 0 := of_decide_eq_true c
      subst c
      show u = _
      rw [← h3]
      show u = ((Int.gcd 0 u : Nat) : Int)
      rw [Int.gcd_zero_left]
      omega
    · have c : v ≠ 0 := fun e => c (decide_eq_true e)
      have hv : 0 < v := by omega
      have m0 := Int.emod_nonneg u c
      have m1 := Int.emod_lt_of_pos u hv
      refine y_eq (modI_s hv) (y_some ⟨hv, m0, ?_, fun e => absurd e (by omega), fun _ => ⟨m1, ?_⟩⟩)
      · show Int.gcd (u % v) v = _
        rw [← h3]
        show _ = Int.gcd v u
        obtain ⟨p, rfl⟩ := Int.eq_ofNat_of_zero_le (Int.le_of_lt h1)
        obtain ⟨q, rfl⟩ := Int.eq_ofNat_of_zero_le h2
        rw [← Int.natCast_emod]
        exact (Nat.gcd_rec q p).symm
      · show (u % v).natAbs * v.natAbs * 2 ^ i ≤ _
        obtain ⟨p, rfl⟩ := Int.eq_ofNat_of_zero_le (Int.le_of_lt h1)
        obtain ⟨q, rfl⟩ := Int.eq_ofNat_of_zero_le h2
        have e : ((p : Int) % (q : Int)).natAbs = p % q := by rw [← Int.natCast_emod]; exact Int.natAbs_natCast _
        rw [e]
        simp only [Int.natAbs_natCast]
        have hq : 0 < q := Int.ofNat_lt.mp hv
        have hm : p % q < q := Nat.mod_lt _ hq
        match i with
        | 0 =>
          have h4 := h4 rfl
          rw [← (Prod.mk.inj h4).1, ← (Prod.mk.inj h4).2]
          simp only [Int.natAbs_natCast, Nat.pow_zero, Nat.mul_one]
          rw [Nat.mul_comm]
          exact Nat.mul_le_mul_left _ (Nat.mod_le _ _)
        | i + 1 =>
          obtain ⟨h6, h7⟩ := h5 (Nat.succ_pos i)
          have h6 : q < p := by have : (q : Int) < p := h6; omega
          have h7 : q * p * 2 ^ i ≤ a.natAbs * b.natAbs := by simpa using h7
          refine Nat.le_trans ?_ h7
          have hd := Nat.div_add_mod p q
          have h8 : 1 ≤ p / q := (Nat.one_le_div_iff hq).mpr (Nat.le_of_lt h6)
          have h9 : q ≤ q * (p / q) := Nat.le_mul_of_pos_right q h8
          have h10 : 2 * (p % q) ≤ p := by omega
          have h11 : p % q * q * 2 ≤ q * p := by
            rw [Nat.mul_comm (p % q) q, Nat.mul_assoc]
            exact Nat.mul_le_mul_left q (by omega)
          rw [Nat.pow_succ, Nat.mul_comm (2 ^ i) 2, ← Nat.mul_assoc]
          exact Nat.mul_le_mul_right _ h11
  · rintro ⟨u, v⟩ ⟨h1, h2, h3, _, h5⟩
    rw [rng_len] at h5
    replace h1 : 0 < u := h1
    replace h2 : 0 ≤ v := h2
    obtain ⟨_, h7⟩ := h5 (by decide)
    replace h7 : v.natAbs * u.natAbs * 2 ^ 1999 ≤ a.natAbs * b.natAbs := h7
    have hv : v = 0 := by
      by_cases e : v = 0
      · exact e
      · have g : 1 ≤ v.natAbs * u.natAbs := Nat.mul_pos (by omega) (by omega)
        have g2 := Nat.mul_le_mul_right (2 ^ 1999) g
        have g3 := Nat.lt_of_le_of_lt (Nat.le_trans g2 h7) hp
        rw [Nat.one_mul] at g3
        exact absurd (Nat.pow_lt_pow_iff_right (by decide) |>.mp g3) (by decide)
    subst hv
    show u = _
    rw [← h3]
    show u = ((Int.gcd 0 u : Nat) : Int)
    rw [Int.gcd_zero_left]
    omega
theorem absI_nn (n : Int) : absI n = (n.natAbs : Int) := by unfold absI; split <;> omega
theorem l_ratio_ok {n d : Int} (h : d ≠ 0) (hn : n.natAbs < 2 ^ 990) (hb : d.natAbs < 2 ^ 990) : m_l_ratio n d = some (rat n d) := by
  have g0 := gcd_pos (n := n) h
  have g1 := gcd_le' (n := n) h
  have gl : ((Int.gcd n d : Nat) : Int).natAbs < 2 ^ 990 := Nat.lt_of_le_of_lt (by omega) hb
  have dv : ∀ x : Int, divI x (Int.gcd n d : Int) = some (x / (Int.gcd n d : Int)) := fun x => divI_w (by omega) gl (by decide) (by decide)
  have pr : ∀ n d : Int, n.natAbs < 2 ^ 990 → d.natAbs < 2 ^ 990 → (absI n).natAbs * d.natAbs < 2 ^ 1990 := fun n d h1 h2 => by
    rw [absI_nn, Int.natAbs_natCast]
    refine Nat.lt_of_lt_of_le (Nat.mul_lt_mul'' h1 h2) ?_
    rw [← Nat.pow_add]
    exact Nat.pow_le_pow_right (by decide) (by decide)
  have ga : ∀ n d : Int, Int.gcd (absI n) d = Int.gcd n d := fun n d => by
    rw [absI_nn]; unfold Int.gcd; rw [Int.natAbs_natCast]
  have nn : ∀ n : Int, 0 ≤ absI n := fun n => by rw [absI_nn]; omega
  unfold m_l_ratio rat
  by_cases hd : d < 0
  · rw [if_pos (decide_eq_true hd), if_pos hd]
    obtain ⟨s, e1, e2⟩ := euclid_ok (b := 0 - d) (a := absI (0 - n)) (by omega) (nn _) (pr _ _ (by omega) (by omega))
    rw [ga, show 0 - n = -n by omega, show 0 - d = -d by omega, Int.gcd_neg, Int.neg_gcd] at e2
    show Option.bind (loopB _ (0 - d, absI (0 - n)) _) _ = _
    rw [e1]
    show Option.bind (divI (0 - n) s.1) _ = _
    rw [e2, dv]
    show Option.bind (divI (0 - d) (Int.gcd n d : Int)) _ = _
    rw [dv]
    show some _ = some _
    rw [show 0 - n = -n by omega, show 0 - d = -d by omega]
  · rw [if_neg (by simp [hd]), if_neg hd]
    obtain ⟨s, e1, e2⟩ := euclid_ok (b := d) (a := absI n) (by omega) (nn _) (pr _ _ hn hb)
    rw [ga] at e2
    show Option.bind (loopB _ (d, absI n) _) _ = _
    rw [e1]
    show Option.bind (divI n s.1) _ = _
    rw [e2, dv]
    show Option.bind (divI d (Int.gcd n d : Int)) _ = _
    rw [dv]
    rfl
theorem rat_pos {n d : Int} (h : d ≠ 0) : 0 < (rat n d).2 := by
  have g0 := gcd_pos (n := n) h
  have dd := Int.gcd_dvd_right n d
  unfold rat
  split
  · exact Int.ediv_pos_of_pos_of_dvd (by omega) (by omega) (Int.dvd_neg.mpr dd)
  · exact Int.ediv_pos_of_pos_of_dvd (by omega) (by omega) dd
theorem natAbs_ediv_le (x : Int) (g : Nat) : (x / (g : Int)).natAbs ≤ x.natAbs := Int.natAbs_ediv_le_natAbs x g
theorem rat_fst_le {n d : Int} : (rat n d).1.natAbs ≤ n.natAbs := by
  unfold rat
  split
  · have := natAbs_ediv_le (-n) (Int.gcd n d); rw [Int.natAbs_neg] at this; exact this
  · exact natAbs_ediv_le n (Int.gcd n d)
theorem rat_snd_le {n d : Int} : (rat n d).2.natAbs ≤ d.natAbs := by
  unfold rat
  split
  · have := natAbs_ediv_le (-d) (Int.gcd n d); rw [Int.natAbs_neg] at this; exact this
  · exact natAbs_ediv_le d (Int.gcd n d)
theorem rat_mul {n d c : Int} (hc : 0 < c) : rat (n * c) (d * c) = rat n d := by
  have e : (Int.gcd (n * c) (d * c) : Int) = (Int.gcd n d : Int) * c := by
    rw [Int.gcd_mul_right]
    push_cast
    rw [Int.natAbs_of_nonneg (Int.le_of_lt hc)]
  have k : ∀ x : Int, x * c / ((Int.gcd n d : Int) * c) = x / (Int.gcd n d : Int) := fun x => Int.mul_ediv_mul_of_pos_left x _ hc
  unfold rat
  rw [e]
  by_cases hd : d < 0
  · rw [if_pos hd, if_pos (Int.mul_neg_of_neg_of_pos hd hc), ← Int.neg_mul, ← Int.neg_mul, k, k]
  · rw [if_neg hd, if_neg (by have := Int.mul_nonneg (show 0 ≤ d by omega) (Int.le_of_lt hc); omega), k, k]
end L3

namespace L3
open PySem L2
/-! ### general -/
theorem bnd {α β : Type} {o : Option α} {f : α → Option β} {a : α} {r : Option β} (h : o = some a) (k : f a = r) : Option.bind o f = r := by rw [h]; exact k
theorem rgO_s {b : Int} (h0 : 0 ≤ b) (h : b ≤ 1000000) : rgO 0 b = some (rng 0 b) := if_pos ⟨by decide, by decide, by omega, by omega, by omega⟩
theorem repL_s {α : Type} {x : α} {n : Nat} (h : n ≤ 1000000) : repL [x] (n : Int) = some (List.replicate n [x]).flatten := by
  have e : ((n : Int)).toNat = n := by omega
  unfold repL
  rw [if_pos ⟨by omega, by omega, by rw [e, List.length_singleton, Nat.one_mul]; exact Nat.le_of_lt (Nat.lt_of_le_of_lt h (by decide))⟩, e]
theorem rep_flat {α : Type} {x : α} (n : Nat) : (List.replicate n [x]).flatten = List.replicate n x := by simp
theorem ixO_s {n i : Nat} {x : Int} (h : x = (i : Int)) (hi : i < n) : ixO n x = some i := by
  subst h
  unfold ixO ixN
  simp [hi]
theorem mapO_map {α β : Type} {f : α → Option β} {g : α → β} : ∀ {xs : List α}, (∀ x ∈ xs, f x = some (g x)) → mapO f xs = some (xs.map g)
  | [], _ => rfl
  | x :: xs, h => by
    show (match f x, mapO f xs with | some y, some ys => some (y :: ys) | _, _ => none) = _
    rw [h x List.mem_cons_self, mapO_map fun u hu => h u (List.mem_cons_of_mem _ hu)]
    rfl
theorem compM_map {α β : Type} {f : Unit → α → Option (Option β × Unit)} {g : α → β} : ∀ {xs : List α}, (∀ x ∈ xs, f () x = some (some (g x), ())) → compM f () xs = some (xs.map g, ())
  | [], _ => rfl
  | x :: xs, h => by
    unfold compM
    rw [h x List.mem_cons_self]
    dsimp only
    rw [compM_map fun u hu => h u (List.mem_cons_of_mem _ hu)]
    rfl
theorem compM_filter {α : Type} {f : Unit → α → Option (Option α × Unit)} {p : α → Bool} : ∀ {xs : List α}, (∀ x ∈ xs, f () x = if p x = true then some (some x, ()) else some (none, ())) → compM f () xs = some (xs.filter p, ())
  | [], _ => rfl
  | x :: xs, h => by
    have ih := compM_filter (f := f) (p := p) (xs := xs) fun u hu => h u (List.mem_cons_of_mem _ hu)
    unfold compM
    rw [h x List.mem_cons_self]
    cases hp : p x with
    | true => rw [if_pos rfl]; dsimp only; rw [ih, List.filter_cons, hp]; rfl
    | false => rw [if_neg (by decide)]; dsimp only; rw [ih, List.filter_cons, hp]; rfl
theorem foldO_cons {S α : Type} {f : S → α → Option S} {s s' : S} {x : α} {xs : List α} {r : Option S} (h : f s x = some s') (k : foldO f s' xs = r) : foldO f s (x :: xs) = r := by
  unfold foldO
  rw [h]
  exact k
theorem compM_cons {S α β : Type} {f : S → α → Option (Option β × S)} {s s' s2 : S} {x : α} {xs : List α} {o : Option β} {ys : List β} (h : f s x = some (o, s')) (k : compM f s' xs = some (ys, s2)) : compM f s (x :: xs) = some (o.toList ++ ys, s2) := by
  unfold compM
  rw [h]
  dsimp only
  rw [k]
theorem any_some {α : Type} {f : α → Option Bool} {g : α → Bool} : ∀ {xs : List α}, (∀ x ∈ xs, f x = some (g x)) → anyM f xs = some (xs.any g)
  | [], _ => rfl
  | x :: xs, h => by
    unfold anyM
    rw [h x List.mem_cons_self, List.any_cons]
    cases hx : g x with
    | true => rfl
    | false =>
      dsimp only
      rw [any_some fun u hu => h u (List.mem_cons_of_mem _ hu)]
      rfl
theorem all_some {α : Type} {f : α → Option Bool} {g : α → Bool} : ∀ {xs : List α}, (∀ x ∈ xs, f x = some (g x)) → allM f xs = some (xs.all g)
  | [], _ => rfl
  | x :: xs, h => by
    unfold allM
    rw [h x List.mem_cons_self, List.all_cons]
    cases hx : g x with
    | false => rfl
    | true =>
      dsimp only
      rw [all_some fun u hu => h u (List.mem_cons_of_mem _ hu)]
      rfl
/-- a filter with a partial test -/
theorem compM_filterB {α : Type} {f : Unit → α → Option (Option α × Unit)} {p : α → Bool} {g : α → Option Bool} (hf : ∀ x, f () x = Option.bind (g x) fun t => if t = true then some (some x, ()) else some (none, ())) {xs : List α} (h : ∀ x ∈ xs, g x = some (p x)) : compM f () xs = some (xs.filter p, ()) :=
  compM_filter fun x hx => by rw [hf, h x hx]; rfl
theorem nodup_le {many : Nat} {l : List Int} (h : l.Nodup) (hm : ∀ x ∈ l, 0 ≤ x ∧ x < (many : Int)) : l.length ≤ many := by
  have e : (l.map Int.toNat).Nodup := by
    refine List.pairwise_map.mpr ?_
    refine h.imp_of_mem fun {a b} ha hb hab => ?_
    have := hm a ha; have := hm b hb
    omega
  have s : (l.map Int.toNat) ⊆ List.range many := fun x hx => by
    obtain ⟨y, hy, rfl⟩ := List.mem_map.mp hx
    have := hm y hy
    exact List.mem_range.mpr (by omega)
  have := List.Nodup.length_le_of_subset e s
  rwa [List.length_map, List.length_range] at this
end L3

namespace L3
open PySem L2
/-! ### data that law_equal compares -/
theorem okD_tup {n : Nat} (p : List Int) (h : p.length ≤ 1000) : okD (n + 2) (dTup PyData.int p) := by
  refine ⟨by rw [List.length_map]; omega, fun x hx => ?_⟩
  obtain ⟨q, _, rfl⟩ := List.mem_map.mp hx
  trivial
theorem okD_q {n : Nat} (x : Int × Int) : okD (n + 2) (dT2 PyData.int PyData.int x) := by
  refine ⟨by show 2 < _; decide, fun z hz => ?_⟩
  have hz : z ∈ [PyData.int x.1, PyData.int x.2] := hz
  rcases List.mem_cons.mp hz with rfl | hz
  · trivial
  · rw [List.mem_singleton.mp hz]; trivial
theorem okD_lst {α : Type} {n : Nat} {f : α → PyData} {l : List α} (h : l.length ≤ 1000) (hf : ∀ x ∈ l, okD n (f x)) : okD (n + 1) (dLst f l) := by
  refine ⟨by rw [List.length_map]; omega, fun x hx => ?_⟩
  obtain ⟨q, hq, rfl⟩ := List.mem_map.mp hx
  exact hf q hq
theorem okD_T2 {α β : Type} {n : Nat} {f : α → PyData} {g : β → PyData} {x : α × β} (h1 : okD n (f x.1)) (h2 : okD n (g x.2)) : okD (n + 1) (dT2 f g x) := by
  refine ⟨by show 2 < _; decide, fun z hz => ?_⟩
  have hz : z ∈ [f x.1, g x.2] := hz
  rcases List.mem_cons.mp hz with rfl | hz
  · exact h1
  · rw [List.mem_singleton.mp hz]; exact h2
theorem eq_self {d : PyData} (h : okD 8 d) : m_l_equal 8 d d = some true := by
  obtain ⟨v, v1, v2⟩ := eq_ok 8 _ _ h h
  rw [v1, v2.mpr rfl]
end L3

namespace L3
open PySem L2
/-! ### fractions as rationals -/
def ofQ (x : Rat) : Int × Int := (x.num, (x.den : Int))
theorem ofQ_inj {x y : Rat} (h : ofQ x = ofQ y) : x = y := by
  obtain ⟨h1, h2⟩ := Prod.mk.inj h
  exact Rat.ext h1 (by omega)
theorem ofQ_iff {x y : Rat} : ofQ x = ofQ y ↔ x = y := ⟨ofQ_inj, fun h => by rw [h]⟩
theorem rat_ofQ {n d : Int} (h : d ≠ 0) : rat n d = ofQ (Rat.divInt n d) := by
  have g0 := gcd_pos (n := n) h
  unfold rat ofQ
  rw [Rat.num_divInt, Rat.den_divInt, if_neg h, Int.gcd_comm d n]
  by_cases hd : d < 0
  · rw [if_pos hd, Int.sign_eq_neg_one_of_neg hd, Int.neg_one_mul]
    have e : ((d.natAbs : Nat) : Int) = -d := by omega
    rw [Int.natCast_ediv, e]
  · rw [if_neg hd, Int.sign_eq_one_of_pos (by omega), Int.one_mul]
    have e : ((d.natAbs : Nat) : Int) = d := by omega
    rw [Int.natCast_ediv, e]
/-- a fraction of so many bits -/
def Bd (k : Nat) (x : Rat) : Prop := x.num.natAbs < 2 ^ k ∧ x.den < 2 ^ k
theorem Bd.up {k l : Nat} {x : Rat} (h : Bd k x) (hl : k ≤ l) : Bd l x := ⟨Nat.lt_of_lt_of_le h.1 (Nat.pow_le_pow_right (by decide) hl), Nat.lt_of_lt_of_le h.2 (Nat.pow_le_pow_right (by decide) hl)⟩
theorem nmul_lt {a b : Int} {k l : Nat} (h1 : a.natAbs < 2 ^ k) (h2 : b.natAbs < 2 ^ l) : (a * b).natAbs < 2 ^ (k + l) := by
  rw [Int.natAbs_mul, Nat.pow_add]
  exact Nat.mul_lt_mul'' h1 h2
theorem den_pos (x : Rat) : 0 < (x.den : Int) := by have := x.den_nz; omega
theorem den_lt {k : Nat} {x : Rat} (h : Bd k x) : ((x.den : Int)).natAbs < 2 ^ k := by rw [Int.natAbs_natCast]; exact h.2
theorem nadd_lt {a b : Int} {k : Nat} (h1 : a.natAbs < 2 ^ k) (h2 : b.natAbs < 2 ^ k) : (a + b).natAbs < 2 ^ (k + 1) := by
  rw [Nat.pow_succ]; omega
theorem mulI_b {a b : Int} {k l : Nat} (h1 : a.natAbs < 2 ^ k) (h2 : b.natAbs < 2 ^ l) (hk : 0 < k) (hl : 0 < l) (h : k + l ≤ 8000) : mulI a b = some (a * b) := mulI_w h1 h2 hk hl (by omega)
theorem add_q (x y : Rat) : Rat.divInt (x.num * y.den + y.num * x.den) (x.den * y.den) = x + y := by
  have := Rat.divInt_add_divInt x.num y.num (d₁ := x.den) (d₂ := y.den) (by have := den_pos x; omega) (by have := den_pos y; omega)
  rw [Rat.num_divInt_den, Rat.num_divInt_den] at this
  exact this.symm
theorem mul_q (x y : Rat) : Rat.divInt (x.num * y.num) (x.den * y.den) = x * y := by
  have := Rat.divInt_mul_divInt x.num y.num (d₁ := x.den) (d₂ := y.den)
  rw [Rat.num_divInt_den, Rat.num_divInt_den] at this
  exact this.symm
theorem div_q (x y : Rat) (h : y ≠ 0) : Rat.divInt (x.num * y.den) (x.den * y.num) = x / y := by
  have e : y⁻¹ = Rat.divInt y.den y.num := Rat.inv_def y
  have := Rat.divInt_mul_divInt x.num y.den (d₁ := x.den) (d₂ := y.num)
  rw [Rat.num_divInt_den, ← e] at this
  exact this.symm
/-- the denominator divides it -/
def Dv (L : Nat) (x : Rat) : Prop := x.den ∣ L
theorem dv_iff {L : Nat} {x : Rat} (hL : L ≠ 0) : Dv L x ↔ ∃ a : Int, x = Rat.divInt a L := by
  constructor
  · rintro ⟨c, hc⟩
    refine ⟨x.num * c, ?_⟩
    have c0 : (c : Int) ≠ 0 := by
      intro z
      have : c = 0 := by omega
      rw [this, Nat.mul_zero] at hc
      exact hL hc
    rw [hc]
    push_cast
    rw [Rat.divInt_mul_right c0, Rat.num_divInt_den]
  · rintro ⟨a, rfl⟩
    unfold Dv
    rw [Rat.den_divInt, if_neg (by omega), Int.natAbs_natCast]
    exact Nat.div_dvd_of_dvd (by
      have := Int.gcd_dvd_natAbs_left (L : Int) a
      rwa [Int.natAbs_natCast] at this)
theorem dv_add {L : Nat} {x y : Rat} (hL : L ≠ 0) (h1 : Dv L x) (h2 : Dv L y) : Dv L (x + y) := by
  obtain ⟨a, rfl⟩ := (dv_iff hL).mp h1
  obtain ⟨b, rfl⟩ := (dv_iff hL).mp h2
  refine (dv_iff hL).mpr ⟨a + b, ?_⟩
  rw [Rat.divInt_add_divInt _ _ (by omega) (by omega), ← Int.add_mul, Rat.divInt_mul_right (by omega)]
theorem dv_mul {L M : Nat} {x y : Rat} (hL : L ≠ 0) (hM : M ≠ 0) (h1 : Dv L x) (h2 : Dv M y) : Dv (L * M) (x * y) := by
  obtain ⟨a, rfl⟩ := (dv_iff hL).mp h1
  obtain ⟨b, rfl⟩ := (dv_iff hM).mp h2
  refine (dv_iff (Nat.mul_ne_zero hL hM)).mpr ⟨a * b, ?_⟩
  rw [Rat.divInt_mul_divInt]
  push_cast
  rfl
theorem dv_up {L M : Nat} {x : Rat} (h : Dv L x) (d : L ∣ M) : Dv M x := Nat.dvd_trans h d
theorem dv_le {L : Nat} {x : Rat} (hL : L ≠ 0) (h : Dv L x) : x.den ≤ L := Nat.le_of_dvd (by omega) h
end L3

namespace L3
/-! ### fractions of a known size -/
theorem den_ne (x : Rat) : (x.den : Rat) ≠ 0 := fun z => x.den_nz (by exact_mod_cast z)
theorem den_posQ (x : Rat) : 0 < (x.den : Rat) := by
  have : 0 < x.den := Nat.pos_of_ne_zero x.den_nz
  exact_mod_cast this
theorem num_eq (x : Rat) : (x.num : Rat) = x * (x.den : Rat) := by
  have e := Rat.num_divInt_den x
  rw [Rat.divInt_eq_div, Rat.intCast_natCast] at e
  have := den_ne x
  generalize (x.den : Rat) = d at *
  generalize (x.num : Rat) = n at *
  subst e
  grind
/-- the denominator divides L, at most C -/
structure Sz (L C : Nat) (x : Rat) : Prop where
  dv : x.den ∣ L
  lo : -(C : Rat) ≤ x
  hi : x ≤ (C : Rat)
theorem cast_le {a b : Nat} (h : a ≤ b) : (a : Rat) ≤ b := by exact_mod_cast h
theorem sz_num {L C : Nat} {x : Rat} (h : Sz L C x) (hL : 0 < L) : x.num.natAbs ≤ C * L := by
  have hd : x.den ≤ L := Nat.le_of_dvd hL h.dv
  have e := num_eq x
  have hp := den_posQ x
  have hd' := cast_le hd
  have c0 : (0 : Rat) ≤ C := by exact_mod_cast Nat.zero_le C
  have a1 : x * (x.den : Rat) ≤ (C : Rat) * x.den := Rat.mul_le_mul_of_nonneg_right h.hi (by grind)
  have a2 : -(C : Rat) * (x.den : Rat) ≤ x * x.den := Rat.mul_le_mul_of_nonneg_right h.lo (by grind)
  have a3 : (C : Rat) * x.den ≤ C * L := Rat.mul_le_mul_of_nonneg_left hd' c0
  have b1 : (x.num : Rat) ≤ ((C * L : Nat) : Int) := by rw [Rat.intCast_natCast]; push_cast; grind
  have b2 : ((-((C * L : Nat) : Int) : Int) : Rat) ≤ x.num := by push_cast; grind
  have b1 : x.num ≤ ((C * L : Nat) : Int) := by exact_mod_cast b1
  have b2 : -((C * L : Nat) : Int) ≤ x.num := by exact_mod_cast b2
  omega
theorem Sz.up {L M C D : Nat} {x : Rat} (h : Sz L C x) (hL : L ∣ M) (hC : C ≤ D) : Sz M D x := ⟨Nat.dvd_trans h.dv hL, by have := h.lo; have := cast_le hC; grind, by have := h.hi; have := cast_le hC; grind⟩
theorem sz_int (L C : Nat) {w : Int} (h : w.natAbs ≤ C) : Sz L C (w : Rat) := by
  refine ⟨?_, ?_, ?_⟩
  · rw [Rat.den_intCast]; exact Nat.one_dvd _
  · have : -((C : Nat) : Int) ≤ w := by omega
    have : ((-((C : Nat) : Int) : Int) : Rat) ≤ w := by exact_mod_cast this
    push_cast at this
    exact this
  · have : w ≤ ((C : Nat) : Int) := by omega
    exact_mod_cast this
theorem sz_zero (L C : Nat) : Sz L C 0 := sz_int L C (w := 0) (by simp)
end L3

namespace L3
open PySem L2
theorem plus_q {x y : Rat} {k l : Nat} (hx : Bd k x) (hy : Bd l y) (hk : 0 < k) (hl : 0 < l) (h : k + l ≤ 4000) : m_plus (ofQ x) (ofQ y) = some (ofQ (x + y)) := by
  have px := den_pos x
  have py := den_pos y
  have pos := Int.mul_pos px py
  unfold m_plus ofQ
  dsimp only
  rw [mulI_b hx.1 (den_lt hy) hk hl (by omega), mulI_b hy.1 (den_lt hx) hl hk (by omega), mulI_b (den_lt hx) (den_lt hy) hk hl (by omega)]
  show Option.bind (m_ratio _ _) _ = _
  rw [ratio_ok (by omega) (Nat.lt_of_lt_of_le (nmul_lt (den_lt hx) (den_lt hy)) (Nat.pow_le_pow_right (by decide) (by omega))), rat_ofQ (by omega), add_q]
  rfl
end L3

namespace L3
open PySem L2
/-! ### weights -/
theorem fits_small : ∀ (vs : List Int) (a : Int), 0 ≤ a → a + 1000 * vs.length < 2 ^ 62 → (∀ v ∈ vs, 1 ≤ v ∧ v ≤ 1000) → fits a vs = true
  | [], _, _, _, _ => rfl
  | v :: vs, a, h0, h1, h2 => by
    have hv := h2 v List.mem_cons_self
    rw [List.length_cons] at h1
    have ih := fits_small vs (a + v) (by omega) (by omega) fun u hu => h2 u (List.mem_cons_of_mem _ hu)
    have l1 : longI v = true := by unfold longI; rw [decide_eq_true (by omega), decide_eq_true (by omega)]; rfl
    have l2 : longI (a + v) = true := by unfold longI; rw [decide_eq_true (by omega), decide_eq_true (by omega)]; rfl
    show (longI v && longI (a + v) && fits (a + v) vs) = true
    rw [l1, l2, ih]; rfl
theorem sum_bd : ∀ (vs : List Int), (∀ v ∈ vs, 1 ≤ v ∧ v ≤ 1000) → (vs.length : Int) ≤ vs.sum ∧ vs.sum ≤ 1000 * vs.length
  | [], _ => by simp
  | v :: vs, h => by
    have ih := sum_bd vs fun u hu => h u (List.mem_cons_of_mem _ hu)
    have hv := h v List.mem_cons_self
    rw [List.sum_cons, List.length_cons]
    omega
def WE (e : List (Int × Int)) : Prop := 1 ≤ e.length ∧ e.length ≤ 100 ∧ ∀ q ∈ e, 1 ≤ q.2 ∧ q.2 ≤ 1000
def WS (s : List (List (Int × List (Int × Int)))) : Prop := s.length ≤ 1000 ∧ ∀ cs ∈ s, cs.length ≤ 1000 ∧ ∀ c ∈ cs, WE c.2
abbrev wsum (e : List (Int × Int)) : Int := (e.map (·.2)).sum
theorem we_sum {e : List (Int × Int)} (h : WE e) : 1 ≤ wsum e ∧ wsum e ≤ 100000 := by
  obtain ⟨h1, h2, h3⟩ := h
  have := sum_bd (e.map (·.2)) fun v hv => by
    obtain ⟨q, hq, rfl⟩ := List.mem_map.mp hv
    exact h3 q hq
  rw [List.length_map] at this
  show 1 ≤ (e.map (·.2)).sum ∧ (e.map (·.2)).sum ≤ 100000
  omega
theorem total_ok {e : List (Int × Int)} (h : WE e) : m_total_weight e = some (wsum e) := by
  obtain ⟨h1, h2, h3⟩ := h
  unfold m_total_weight sumM
  rw [mapO_map (f := fun (x9 : Int × Int) => some x9.2) (g := fun q => q.2) fun _ _ => rfl]
  dsimp only
  rw [if_pos (fits_small _ 0 (by decide) (by rw [List.length_map]; omega) fun v hv => by
    obtain ⟨q, hq, rfl⟩ := List.mem_map.mp hv
    exact h3 q hq)]
  rfl
end L3

namespace L3
open PySem L2
theorem Sz.bd {L C a b : Nat} {x : Rat} (h : Sz L C x) (hL : 0 < L) (ha : L < 2 ^ a) (hb : C < 2 ^ b) : Bd (a + b) x := by
  have h1 := sz_num h hL
  have h2 : x.den ≤ L := Nat.le_of_dvd hL h.dv
  refine ⟨?_, ?_⟩
  · refine Nat.lt_of_le_of_lt h1 ?_
    rw [Nat.add_comm, Nat.pow_add]
    exact Nat.mul_lt_mul'' hb ha
  · exact Nat.lt_of_le_of_lt h2 (Nat.lt_of_lt_of_le ha (Nat.pow_le_pow_right (by decide) (by omega)))
theorem Sz.add {L C D : Nat} {x y : Rat} (hL : 0 < L) (h1 : Sz L C x) (h2 : Sz L D y) : Sz L (C + D) (x + y) := by
  refine ⟨dv_add (by omega) h1.dv h2.dv, ?_, ?_⟩
  · have := h1.lo; have := h2.lo; push_cast; grind
  · have := h1.hi; have := h2.hi; push_cast; grind
theorem abs_mul_le {x y c d : Rat} (h1 : -c ≤ x) (h2 : x ≤ c) (h3 : -d ≤ y) (h4 : y ≤ d) : -(c * d) ≤ x * y ∧ x * y ≤ c * d := by
  have p1 := Rat.mul_nonneg (show 0 ≤ c - x by grind) (show 0 ≤ d - y by grind)
  have p2 := Rat.mul_nonneg (show 0 ≤ c + x by grind) (show 0 ≤ d + y by grind)
  have p3 := Rat.mul_nonneg (show 0 ≤ c - x by grind) (show 0 ≤ d + y by grind)
  have p4 := Rat.mul_nonneg (show 0 ≤ c + x by grind) (show 0 ≤ d - y by grind)
  constructor <;> grind
theorem Sz.mul {L M C D : Nat} {x y : Rat} (hL : 0 < L) (hM : 0 < M) (h1 : Sz L C x) (h2 : Sz M D y) : Sz (L * M) (C * D) (x * y) := by
  obtain ⟨a, b⟩ := abs_mul_le h1.lo h1.hi h2.lo h2.hi
  refine ⟨dv_mul (by omega) (by omega) h1.dv h2.dv, ?_, ?_⟩
  · push_cast; exact a
  · push_cast; exact b
theorem ofQ_int (w : Int) : ofQ (w : Rat) = (w, 1) := by
  unfold ofQ
  rw [Rat.num_intCast, Rat.den_intCast]
  rfl
theorem ofQ_0 : ofQ 0 = (0, 1) := ofQ_int 0
theorem ofQ_1 : ofQ 1 = (1, 1) := ofQ_int 1
theorem eq_0 {x : Rat} : decide (ofQ x = ((0 : Int), (1 : Int))) = decide (x = 0) := by
  rw [← ofQ_0]
  simp only [ofQ_iff]
theorem eq_1 {x : Rat} : decide (ofQ x = ((1 : Int), (1 : Int))) = decide (x = 1) := by
  rw [← ofQ_1]
  simp only [ofQ_iff]
theorem lt_q (x y : Rat) : decide (x.num * (y.den : Int) < y.num * (x.den : Int)) = decide (x < y) := by
  rw [Bool.eq_iff_iff, decide_eq_true_iff, decide_eq_true_iff]
  have e1 := num_eq x
  have e2 := num_eq y
  have p1 := den_posQ x
  have p2 := den_posQ y
  have pp := Rat.mul_pos p1 p2
  have c : (x.num * (y.den : Int) < y.num * (x.den : Int)) ↔ x * ((x.den : Rat) * y.den) < y * ((x.den : Rat) * y.den) := by
    have e3 : x * ((x.den : Rat) * y.den) = ((x.num * (y.den : Int) : Int) : Rat) := by push_cast; rw [e1]; grind
    have e4 : y * ((x.den : Rat) * y.den) = ((y.num * (x.den : Int) : Int) : Rat) := by push_cast; rw [e2]; grind
    rw [e3, e4]
    exact (Rat.intCast_lt_intCast ..).symm
  rw [c]
  exact Rat.mul_lt_mul_right pp
end L3

namespace L3
open PySem L2
theorem times_q {x y : Rat} {k l : Nat} (hx : Bd k x) (hy : Bd l y) (hk : 0 < k) (hl : 0 < l) (h : k + l ≤ 4000) : m_times (ofQ x) (ofQ y) = some (ofQ (x * y)) := by
  have px := den_pos x
  have py := den_pos y
  have pos := Int.mul_pos px py
  unfold m_times ofQ
  dsimp only
  rw [mulI_b hx.1 hy.1 hk hl (by omega), mulI_b (den_lt hx) (den_lt hy) hk hl (by omega)]
  show Option.bind (m_ratio _ _) _ = _
  rw [ratio_ok (by omega) (Nat.lt_of_lt_of_le (nmul_lt (den_lt hx) (den_lt hy)) (Nat.pow_le_pow_right (by decide) (by omega))), rat_ofQ (by omega), mul_q]
  rfl
end L3

namespace L3
open PySem L2
theorem over_q {x y : Rat} {k l : Nat} (hx : Bd k x) (hy : Bd l y) (h0 : y ≠ 0) (hk : 0 < k) (hl : 0 < l) (h : k + l ≤ 4000) : m_over (ofQ x) (ofQ y) = some (ofQ (x / y)) := by
  have px := den_pos x
  have ny : y.num ≠ 0 := fun z => h0 (Rat.num_eq_zero.mp z)
  have pos : (x.den : Int) * y.num ≠ 0 := Int.mul_ne_zero (by omega) ny
  unfold m_over ofQ
  dsimp only
  rw [mulI_b hx.1 (den_lt hy) hk hl (by omega), mulI_b (den_lt hx) hy.1 hk hl (by omega)]
  show Option.bind (m_ratio _ _) _ = _
  rw [ratio_ok pos (Nat.lt_of_lt_of_le (nmul_lt (den_lt hx) hy.1) (Nat.pow_le_pow_right (by decide) (by omega))), rat_ofQ pos, div_q _ _ h0]
  rfl
end L3

namespace L3
open PySem L2
theorem sub_q (x y : Rat) : Rat.divInt (x.num * y.den - y.num * x.den) (x.den * y.den) = x - y := by
  have := Rat.divInt_sub_divInt x.num y.num (d₁ := x.den) (d₂ := y.den) (by have := den_pos x; omega) (by have := den_pos y; omega)
  rw [Rat.num_divInt_den, Rat.num_divInt_den] at this
  exact this.symm
theorem minus_q {x y : Rat} {k l : Nat} (hx : Bd k x) (hy : Bd l y) (hk : 0 < k) (hl : 0 < l) (h : k + l ≤ 4000) : m_minus (ofQ x) (ofQ y) = some (ofQ (x - y)) := by
  have px := den_pos x
  have py := den_pos y
  have pos := Int.mul_pos px py
  unfold m_minus ofQ
  dsimp only
  rw [mulI_b hx.1 (den_lt hy) hk hl (by omega), mulI_b hy.1 (den_lt hx) hl hk (by omega), mulI_b (den_lt hx) (den_lt hy) hk hl (by omega)]
  show Option.bind (m_ratio _ _) _ = _
  rw [ratio_ok (by omega) (Nat.lt_of_lt_of_le (nmul_lt (den_lt hx) (den_lt hy)) (Nat.pow_le_pow_right (by decide) (by omega))), rat_ofQ (by omega), sub_q]
  rfl
end L3

namespace L3
/-! ### sums -/
def sm : Nat → (Nat → Rat) → Rat
  | 0, _ => 0
  | n + 1, f => sm n f + f n
theorem sm_congr {n : Nat} {f g : Nat → Rat} (h : ∀ i, i < n → f i = g i) : sm n f = sm n g := by
  induction n with
  | zero => rfl
  | succ n ih => unfold sm; rw [ih fun i hi => h i (by omega), h n (by omega)]
theorem sm_zero {n : Nat} {f : Nat → Rat} (h : ∀ i, i < n → f i = 0) : sm n f = 0 := by
  induction n with
  | zero => rfl
  | succ n ih => unfold sm; rw [ih fun i hi => h i (by omega), h n (by omega)]; grind
theorem sm_add (n : Nat) (f g : Nat → Rat) : sm n (fun i => f i + g i) = sm n f + sm n g := by
  induction n with
  | zero => unfold sm; grind
  | succ n ih => unfold sm; rw [ih]; grind
theorem sm_mul (n : Nat) (a : Rat) (f : Nat → Rat) : sm n (fun i => a * f i) = a * sm n f := by
  induction n with
  | zero => unfold sm; grind
  | succ n ih => unfold sm; rw [ih]; grind
theorem sm_sub (n : Nat) (f g : Nat → Rat) : sm n (fun i => f i - g i) = sm n f - sm n g := by
  induction n with
  | zero => unfold sm; grind
  | succ n ih => unfold sm; rw [ih]; grind
/-- one term -/
theorem sm_one {n k : Nat} {f : Nat → Rat} (hk : k < n) (h : ∀ i, i < n → i ≠ k → f i = 0) : sm n f = f k := by
  induction n with
  | zero => omega
  | succ n ih =>
    unfold sm
    by_cases e : k = n
    · subst e
      rw [sm_zero fun i hi => h i (by omega) (by omega)]; grind
    · rw [ih (by omega) fun i hi hne => h i (by omega) hne, h n (by omega) (by omega)]; grind
theorem sm_two {n k : Nat} {f : Nat → Rat} (hk : k + 1 < n) (h : ∀ i, i < n → i ≠ k → i ≠ k + 1 → f i = 0) : sm n f = f k + f (k + 1) := by
  induction n with
  | zero => omega
  | succ n ih =>
    unfold sm
    by_cases e : k + 1 = n
    · subst e
      rw [sm_one (k := k) (by omega) fun i hi hne => h i (by omega) hne (by omega)]
    · rw [ih (by omega) fun i hi h1 h2 => h i (by omega) h1 h2, h n (by omega) (by omega) (by omega)]; grind
def sk (j c : Nat) : Nat := if c < j then c else c + 1
theorem sm_sk {n p : Nat} (hp : p ≤ n) (f : Nat → Rat) : sm (n + 1) f = f p + sm n fun c => f (sk p c) := by
  induction n with
  | zero =>
    have : p = 0 := by omega
    subst this
    show (0 : Rat) + f 0 = f 0 + 0; grind
  | succ n ih =>
    by_cases e : p = n + 1
    · subst e
      rw [sm]
      rw [sm_congr (f := fun c => f (sk (n + 1) c)) (g := f) fun i hi => by unfold sk; rw [if_pos hi]]
      grind
    · rw [sm, ih (by omega)]
      show _ = f p + (sm n (fun c => f (sk p c)) + f (sk p n))
      have : sk p n = n + 1 := by unfold sk; rw [if_neg (by omega)]
      rw [this]; grind
theorem sm_comm (n m : Nat) (f : Nat → Nat → Rat) : sm n (fun i => sm m fun j => f i j) = sm m fun j => sm n fun i => f i j := by
  induction n with
  | zero => exact (sm_zero fun i _ => rfl).symm
  | succ n ih =>
    show sm n (fun i => sm m fun j => f i j) + sm m (fun j => f n j) = sm m fun j => sm n (fun i => f i j) + f n j
    rw [ih, ← sm_add]
/-! ### determinants, by the first row -/
def sg (j : Nat) : Rat := if j % 2 = 0 then 1 else -1
abbrev Mx := Nat → Nat → Rat
def mn (M : Mx) (j : Nat) : Mx := fun r c => M (r + 1) (sk j c)
def det : Nat → Mx → Rat
  | 0, _ => 1
  | n + 1, M => sm (n + 1) fun j => sg j * M 0 j * det n (mn M j)
theorem sg_succ (j : Nat) : sg (j + 1) = - sg j := by
  unfold sg
  rcases Nat.mod_two_eq_zero_or_one j with h | h
  · rw [if_neg (by omega), if_pos h]
  · rw [if_pos (by omega), if_neg (by omega)]; grind
theorem sk_lt {n j c : Nat} (hc : c < n) : sk j c < n + 1 := by unfold sk; split <;> omega
theorem det_congr {n : Nat} {M N : Mx} (h : ∀ r c, r < n → c < n → M r c = N r c) : det n M = det n N := by
  induction n generalizing M N with
  | zero => rfl
  | succ n ih =>
    unfold det
    refine sm_congr fun j hj => ?_
    rw [h 0 j (by omega) hj, ih (M := mn M j) (N := mn N j) fun r c hr hc => h (r + 1) (sk j c) (by omega) (sk_lt hc)]
/-- another column -/
def cc (M : Mx) (k : Nat) (u : Nat → Rat) : Mx := fun r c => if c = k then u r else M r c
def dn (j k : Nat) : Nat := if k < j then k else k - 1
theorem sk_dn {j k : Nat} (h : k ≠ j) : sk j (dn j k) = k := by
  unfold sk dn
  by_cases e : k < j
  · rw [if_pos e, if_pos e]
  · rw [if_neg e, if_neg (by omega)]; omega
theorem dn_sk (j c : Nat) : dn j (sk j c) = c := by
  unfold sk dn
  by_cases e : c < j
  · rw [if_pos e, if_pos e]
  · rw [if_neg e, if_neg (by omega)]; omega
theorem sk_ne (j c : Nat) : sk j c ≠ j := by unfold sk; split <;> omega
theorem sk_inj {j c d : Nat} (h : sk j c = sk j d) : c = d := by
  have := congrArg (dn j) h
  rwa [dn_sk, dn_sk] at this
theorem dn_lt {n j k : Nat} (hk : k < n + 1) (hj : j < n + 1) (h : k ≠ j) : dn j k < n := by unfold dn; split <;> omega
theorem mn_cc_self (M : Mx) (k : Nat) (u : Nat → Rat) : mn (cc M k u) k = mn M k := by
  funext r c
  unfold mn cc
  rw [if_neg (sk_ne k c)]
theorem mn_cc (M : Mx) {k j : Nat} (u : Nat → Rat) (h : k ≠ j) : mn (cc M k u) j = cc (mn M j) (dn j k) fun r => u (r + 1) := by
  funext r c
  unfold mn cc
  by_cases e : sk j c = k
  · rw [if_pos e, if_pos (by rw [← e, dn_sk])]
  · rw [if_neg e, if_neg fun z => e (by rw [z, sk_dn h])]
theorem det_lin {n : Nat} {M : Mx} {k : Nat} (hk : k < n) (a b : Rat) (u v : Nat → Rat) : det n (cc M k fun r => a * u r + b * v r) = a * det n (cc M k u) + b * det n (cc M k v) := by
  induction n generalizing M k u v with
  | zero => omega
  | succ n ih =>
    unfold det
    rw [← sm_mul, ← sm_mul, ← sm_add]
    refine sm_congr fun j hj => ?_
    by_cases e : k = j
    · subst e
      rw [mn_cc_self, mn_cc_self, mn_cc_self]
      unfold cc
      rw [if_pos rfl, if_pos rfl, if_pos rfl]
      grind
    · rw [mn_cc M _ e, mn_cc M _ e, mn_cc M _ e, ih (dn_lt hk hj e)]
      unfold cc
      rw [if_neg (Ne.symm e), if_neg (Ne.symm e), if_neg (Ne.symm e)]
      grind
theorem det_adj {n : Nat} {M : Mx} {k : Nat} (hk : k + 1 < n) (h : ∀ r, M r k = M r (k + 1)) : det n M = 0 := by
  induction n generalizing M k with
  | zero => omega
  | succ n ih =>
    unfold det
    rw [sm_two (k := k) hk]
    · have e : mn M k = mn M (k + 1) := by
        funext r c
        unfold mn sk
        by_cases e : c = k
        · subst e
          rw [if_neg (by omega), if_pos (by omega), h]
        · by_cases e2 : c < k
          · rw [if_pos e2, if_pos (by omega)]
          · rw [if_neg e2, if_neg (by omega)]
      rw [e, sg_succ, h 0]
      grind
    · intro j hj h1 h2
      have : det n (mn M j) = 0 := by
        by_cases l : j < k
        · refine ih (k := k - 1) (by omega) fun r => ?_
          unfold mn sk
          rw [if_neg (by omega), if_neg (by omega), show k - 1 + 1 = k by omega]
          exact h _
        · refine ih (k := k) (by omega) fun r => ?_
          unfold mn sk
          rw [if_pos (by omega), if_pos (by omega)]
          exact h _
      rw [this]; grind
theorem cc_comm (M : Mx) {k l : Nat} (u v : Nat → Rat) (h : k ≠ l) : cc (cc M k u) l v = cc (cc M l v) k u := by
  funext r c
  unfold cc
  by_cases e : c = l
  · rw [if_pos e, if_neg (by omega), if_pos e]
  · rw [if_neg e]
    by_cases e2 : c = k
    · rw [if_pos e2, if_pos e2]
    · rw [if_neg e2, if_neg e2, if_neg e]
theorem cc_cc (M : Mx) (k : Nat) (u v : Nat → Rat) : cc (cc M k u) k v = cc M k v := by
  funext r c
  unfold cc
  split <;> rfl
theorem cc_self (M : Mx) (k : Nat) : cc M k (fun r => M r k) = M := by
  funext r c
  unfold cc
  split
  · rename_i h; rw [h]
  · rfl
/-- two neighbours change places -/
theorem det_swap {n : Nat} {M : Mx} {k : Nat} (hk : k + 1 < n) (u v : Nat → Rat) : det n (cc (cc M k u) (k + 1) v) = - det n (cc (cc M k v) (k + 1) u) := by
  have hne : k ≠ k + 1 := by omega
  have z : ∀ w, det n (cc (cc M k w) (k + 1) w) = 0 := fun w => det_adj hk fun r => by
    unfold cc
    rw [if_neg hne, if_pos rfl, if_pos rfl]
  have h0 := z fun r => 1 * u r + 1 * v r
  rw [det_lin hk, cc_comm _ _ _ hne, det_lin (by omega), cc_comm _ _ _ hne, det_lin (by omega)] at h0
  rw [cc_comm M u u hne.symm, cc_comm M v v hne.symm, cc_comm M u v hne.symm, cc_comm M v u hne.symm, z u, z v] at h0
  grind
theorem det_eqc {n : Nat} : ∀ (d : Nat) {M : Mx} {k : Nat}, k + 1 + d < n → (∀ r, M r k = M r (k + 1 + d)) → det n M = 0
  | 0, _, _, hk, h => det_adj hk h
  | d + 1, M, k, hk, h => by
    have e : M = cc (cc M (k + 1 + d) fun r => M r (k + 1 + d)) (k + 1 + d + 1) fun r => M r (k + 1 + d + 1) := by
      rw [cc_self, cc_self]
    rw [e, det_swap (by omega)]
    rw [det_eqc d (k := k) (by omega) fun r => ?_]
    · grind
    · unfold cc
      rw [if_neg (by omega), if_neg (by omega), if_neg (by omega), if_pos rfl]
      exact h r
theorem det_same {n : Nat} {M : Mx} {k l : Nat} (hk : k < n) (hl : l < n) (hne : k ≠ l) (h : ∀ r, M r k = M r l) : det n M = 0 := by
  rcases Nat.lt_or_gt_of_ne hne with g | g
  · have := det_eqc (n := n) (l - k - 1) (M := M) (k := k) (by omega)
    rw [show k + 1 + (l - k - 1) = l by omega] at this
    exact this h
  · have := det_eqc (n := n) (k - l - 1) (M := M) (k := l) (by omega)
    rw [show l + 1 + (k - l - 1) = k by omega] at this
    exact this fun r => (h r).symm
theorem det_col0 {n : Nat} {M : Mx} {k : Nat} (hk : k < n) : det n (cc M k fun _ => 0) = 0 := by
  have := det_lin (M := M) hk 0 0 (fun _ => 0) (fun _ => 0)
  rw [show (fun r : Nat => (0 : Rat) * (fun _ => 0) r + 0 * (fun _ => 0) r) = fun _ => (0 : Rat) by funext; grind] at this
  grind
theorem det_sum {n m : Nat} {M : Mx} {k : Nat} (hk : k < n) (x : Nat → Rat) (u : Nat → Nat → Rat) : det n (cc M k fun r => sm m fun i => x i * u i r) = sm m fun i => x i * det n (cc M k (u i)) := by
  induction m with
  | zero => exact det_col0 hk
  | succ m ih =>
    have := det_lin (M := M) hk 1 (x m) (fun r => sm m fun i => x i * u i r) (u m)
    rw [ih] at this
    show _ = sm m (fun i => x i * det n (cc M k (u i))) + x m * det n (cc M k (u m))
    rw [← show (1 : Rat) * sm m (fun i => x i * det n (cc M k (u i))) + x m * det n (cc M k (u m)) = sm m (fun i => x i * det n (cc M k (u i))) + x m * det n (cc M k (u m)) by grind, ← this]
    refine congrArg (fun w => det n (cc M k w)) (funext fun r => ?_)
    show sm m _ + _ = _
    grind
/-- Cramer -/
theorem cramer {n : Nat} {M : Mx} {b x : Nat → Rat} (h : ∀ r, r < n → sm n (fun j => M r j * x j) = b r) {j : Nat} (hj : j < n) : det n (cc M j b) = x j * det n M := by
  have e : det n (cc M j b) = det n (cc M j fun r => sm n fun i => x i * M r i) := det_congr fun r c hr hc => by
    unfold cc
    split
    · rw [← h r hr]; exact sm_congr fun i _ => by grind
    · rfl
  rw [e, det_sum hj x fun i r => M r i, sm_one (k := j) hj]
  · rw [cc_self]
  · intro i hi hne
    rw [det_same hi hj hne fun r => ?_]
    · grind
    · unfold cc
      rw [if_neg hne, if_pos rfl]
/-! ### kernels -/
def nN (M : Mx) (p : Nat) : Mx := fun r c => if c = p then M r p else M r c - M 0 c / M 0 p * M r p
theorem lift {m k p : Nat} {M : Mx} (hp : p ≤ k) (h0 : M 0 p ≠ 0) {y : Nat → Rat} (hy : ∃ j, j < k ∧ y j ≠ 0) (h : ∀ r, r < m → sm k (fun c => nN M p (r + 1) (sk p c) * y c) = 0) :
    ∃ x : Nat → Rat, (∃ j, j < k + 1 ∧ x j ≠ 0) ∧ ∀ r, r < m + 1 → sm (k + 1) (fun j => M r j * x j) = 0 := by
  let s := sm k fun c => M 0 (sk p c) / M 0 p * y c
  refine ⟨fun j => if j = p then -s else y (dn p j), ?_, ?_⟩
  · obtain ⟨j, hj, hn⟩ := hy
    refine ⟨sk p j, sk_lt hj, ?_⟩
    show (if sk p j = p then -s else y (dn p (sk p j))) ≠ 0
    rw [if_neg (sk_ne p j), dn_sk]
    exact hn
  · intro r hr
    rw [sm_sk hp]
    show M r p * (if p = p then -s else y (dn p p)) + sm k (fun c => M r (sk p c) * (if sk p c = p then -s else y (dn p (sk p c)))) = 0
    rw [if_pos rfl, sm_congr (g := fun c => M r (sk p c) * y c) fun c _ => by rw [if_neg (sk_ne p c), dn_sk]]
    cases r with
    | zero =>
      have e : sm k (fun c => M 0 (sk p c) * y c) = M 0 p * s := by
        rw [← sm_mul]
        exact sm_congr fun c _ => by grind
      rw [e]; grind
    | succ r =>
      have := h r (by omega)
      rw [sm_congr (g := fun c => M (r + 1) (sk p c) * y c - M (r + 1) p * (M 0 (sk p c) / M 0 p * y c)) fun c _ => by unfold nN; rw [if_neg (sk_ne p c)]; grind, sm_sub, sm_mul] at this
      grind
/-- more unknowns than equations -/
theorem under : ∀ (n : Nat) (M : Mx), ∃ x : Nat → Rat, (∃ j, j < n + 1 ∧ x j ≠ 0) ∧ ∀ r, r < n → sm (n + 1) (fun j => M r j * x j) = 0
  | 0, _ => ⟨fun _ => 1, ⟨0, by omega, by decide⟩, fun r hr => by omega⟩
  | n + 1, M => by
    by_cases h : ∃ p, p ≤ n + 1 ∧ M 0 p ≠ 0
    · obtain ⟨p, hp, h0⟩ := h
      obtain ⟨y, hy, h1⟩ := under n fun r c => nN M p (r + 1) (sk p c)
      exact lift hp h0 hy h1
    · obtain ⟨y, ⟨j, hj, hy⟩, h1⟩ := under n fun r c => M (r + 1) c
      refine ⟨fun j => if j < n + 1 then y j else 0, ⟨j, by omega, by show (if j < n + 1 then y j else 0) ≠ 0; rw [if_pos hj]; exact hy⟩, fun r hr => ?_⟩
      show sm (n + 1) (fun j => M r j * (if j < n + 1 then y j else 0)) + M r (n + 1) * (if n + 1 < n + 1 then y (n + 1) else 0) = 0
      rw [if_neg (by omega), sm_congr (g := fun j => M r j * y j) fun i hi => by rw [if_pos hi]]
      cases r with
      | zero =>
        rw [sm_zero fun i hi => ?_]
        · grind
        · have : M 0 i = 0 := Classical.byContradiction fun z => h ⟨i, by omega, z⟩
          rw [this]; grind
      | succ r => rw [h1 r (by omega)]; grind
theorem det_nN {n p : Nat} {M : Mx} (hp : p < n) (h0 : M 0 p ≠ 0) : det n (nN M p) = det n M := by
  have key : ∀ t, t ≤ n → det n (fun r c => if c < t then nN M p r c else M r c) = det n M := by
    intro t
    induction t with
    | zero => intro _; exact congrArg (det n) (by funext r c; rw [if_neg (by omega)])
    | succ t ih =>
      intro ht
      rw [← ih (by omega)]
      by_cases e : t = p
      · refine det_congr fun r c hr hc => ?_
        by_cases l : c < t
        · rw [if_pos (by omega), if_pos l]
        · by_cases l2 : c = t
          · rw [if_pos (by omega), if_neg l]; unfold nN; rw [if_pos (by omega), l2, e]
          · rw [if_neg (by omega), if_neg l]
      · let N : Mx := fun r c => if c < t then nN M p r c else M r c
        have e1 : (fun r c => if c < t + 1 then nN M p r c else M r c) = cc N t fun r => 1 * M r t + (-(M 0 t / M 0 p)) * M r p := by
          funext r c
          show _ = cc N t _ r c
          unfold cc
          by_cases l : c = t
          · rw [if_pos (by omega), if_pos l]; unfold nN; rw [if_neg (by omega), l]; grind
          · rw [if_neg l]
            show _ = if c < t then nN M p r c else M r c
            by_cases l2 : c < t
            · rw [if_pos (by omega), if_pos l2]
            · rw [if_neg (by omega), if_neg l2]
        rw [e1, det_lin (by omega)]
        have z : det n (cc N t fun r => M r p) = 0 := det_same hp (show t < n by omega) (Ne.symm e) fun r => by
          show cc N t _ r p = cc N t _ r t
          unfold cc
          rw [if_neg (Ne.symm e), if_pos rfl]
          show (if p < t then nN M p r p else M r p) = _
          split
          · unfold nN; rw [if_pos rfl]
          · rfl
        have s : cc N t (fun r => M r t) = N := by
          refine Eq.trans ?_ (cc_self N t)
          refine congrArg (cc N t) (funext fun r => ?_)
          show M r t = if t < t then nN M p r t else M r t
          rw [if_neg (by omega)]
        rw [z, s]
        show 1 * det n N + _ = det n N
        grind
  rw [← key n (Nat.le_refl n)]
  exact det_congr fun r c _ hc => by rw [if_pos hc]
theorem ker_of {n : Nat} {M : Mx} (h : det n M = 0) : ∃ x : Nat → Rat, (∃ j, j < n ∧ x j ≠ 0) ∧ ∀ r, r < n → sm n (fun j => M r j * x j) = 0 := by
  induction n generalizing M with
  | zero => exact absurd h (by unfold det; decide)
  | succ n ih =>
    by_cases hp : ∃ p, p ≤ n ∧ M 0 p ≠ 0
    · obtain ⟨p, hp, h0⟩ := hp
      have e := det_nN (n := n + 1) (by omega) h0
      rw [h] at e
      unfold det at e
      rw [sm_one (k := p) (by omega) fun j hj hne => ?_] at e
      · have hz : det n (mn (nN M p) p) = 0 := by
          have h1 : nN M p 0 p = M 0 p := by unfold nN; rw [if_pos rfl]
          rw [h1] at e
          have s : sg p ≠ 0 := by unfold sg; split <;> decide
          grind
        obtain ⟨y, hy, h1⟩ := ih hz
        exact lift hp h0 hy h1
      · have : nN M p 0 j = 0 := by unfold nN; rw [if_neg hne]; grind
        rw [this]; grind
    · obtain ⟨x, hx, h1⟩ := under n fun r c => M (r + 1) c
      refine ⟨x, hx, fun r hr => ?_⟩
      cases r with
      | zero =>
        refine sm_zero fun i hi => ?_
        have : M 0 i = 0 := Classical.byContradiction fun z => hp ⟨i, by omega, z⟩
        rw [this]; grind
      | succ r => exact h1 r (by omega)
/-! ### whole numbers -/
def IsI (A : Nat) (x : Rat) : Prop := ∃ z : Int, x = (z : Rat) ∧ z.natAbs ≤ A
theorem isI_add {A B : Nat} {x y : Rat} (h : IsI A x) (g : IsI B y) : IsI (A + B) (x + y) := by
  obtain ⟨a, rfl, ha⟩ := h; obtain ⟨b, rfl, hb⟩ := g
  exact ⟨a + b, by push_cast; rfl, by omega⟩
theorem isI_mul {A B : Nat} {x y : Rat} (h : IsI A x) (g : IsI B y) : IsI (A * B) (x * y) := by
  obtain ⟨a, rfl, ha⟩ := h; obtain ⟨b, rfl, hb⟩ := g
  exact ⟨a * b, by push_cast; rfl, by rw [Int.natAbs_mul]; exact Nat.mul_le_mul ha hb⟩
theorem isI_up {A B : Nat} {x : Rat} (h : IsI A x) (l : A ≤ B) : IsI B x := by
  obtain ⟨a, e, ha⟩ := h
  exact ⟨a, e, by omega⟩
theorem isI_sm {A n : Nat} {f : Nat → Rat} (h : ∀ i, i < n → IsI A (f i)) : IsI (n * A) (sm n f) := by
  induction n with
  | zero => exact ⟨0, by rfl, by omega⟩
  | succ n ih => rw [Nat.succ_mul]; exact isI_add (ih fun i hi => h i (by omega)) (h n (by omega))
theorem isI_sg (j : Nat) : IsI 1 (sg j) := by
  unfold sg
  split
  · exact ⟨1, by rfl, by decide⟩
  · exact ⟨-1, by rfl, by decide⟩
theorem isI_det {A n : Nat} {M : Mx} (h : ∀ r c, r < n → c < n → IsI A (M r c)) : IsI ((n * A) ^ n) (det n M) := by
  induction n generalizing M with
  | zero => exact ⟨1, by rfl, by simp⟩
  | succ n ih =>
    unfold det
    have := isI_sm (n := n + 1) (A := 1 * A * (n * A) ^ n) (f := fun j => sg j * M 0 j * det n (mn M j)) fun j hj => isI_mul (isI_mul (isI_sg j) (h 0 j (by omega) hj)) (ih fun r c hr hc => h (r + 1) (sk j c) (by omega) (sk_lt hc))
    refine isI_up this ?_
    rw [Nat.one_mul, ← Nat.mul_assoc, Nat.pow_succ, Nat.mul_comm]
    exact Nat.mul_le_mul (Nat.pow_le_pow_left (Nat.mul_le_mul_right _ (by omega)) n) (Nat.le_refl _)
end L3

namespace L3
/-! ### elimination -/
theorem sm_cut {n c : Nat} {f : Nat → Rat} (hc : c ≤ n) (h : ∀ i, c ≤ i → i < n → f i = 0) : sm n f = sm c f := by
  induction n with
  | zero => rw [show c = 0 by omega]
  | succ n ih =>
    by_cases e : c = n + 1
    · rw [e]
    · show sm n f + f n = sm c f
      rw [ih (by omega) fun i h1 h2 => h i h1 (by omega), h n (by omega) (by omega), Rat.add_zero]
structure GJ (n c : Nat) (A T : Mx) : Prop where
  le : c ≤ n
  e : ∀ r j, r < n → j ≤ n → A r j = sm c (fun l => A r l * T l j) + if c ≤ r then T r j else 0
  u : ∀ r j, r < n → j < c → T r j = if r = j then 1 else 0
  f : ∃ G : Mx, ∀ r j, r < n → j ≤ n → T r j = sm c (fun l => G r l * A l j) + if c ≤ r then A r j else 0
theorem gj_start (n : Nat) (A : Mx) : GJ n 0 A A := ⟨Nat.zero_le _, fun r j _ _ => by rw [if_pos (Nat.zero_le _)]; unfold sm; grind, fun r j _ h => by omega, fun _ _ => 0, fun r j _ _ => by rw [if_pos (Nat.zero_le _)]; unfold sm; grind⟩
def sr (c q r : Nat) : Nat := if r = c then q else if r = q then c else r
def sw (M : Mx) (c q : Nat) : Mx := fun r j => M (sr c q r) j
theorem sr_lt {n c q r : Nat} (hc : c < n) (hq : q < n) (hr : r < n) : sr c q r < n := by
  unfold sr
  split
  · exact hq
  · split <;> omega
theorem sr_low {c q l : Nat} (hq : c ≤ q) (hl : l < c) : sr c q l = l := by unfold sr; rw [if_neg (by omega), if_neg (by omega)]
theorem sr_ge {c q r : Nat} (hq : c ≤ q) : c ≤ sr c q r ↔ c ≤ r := by
  unfold sr
  split
  · omega
  · split <;> omega
theorem sr_sr (c q r : Nat) : sr c q (sr c q r) = r := by
  unfold sr
  by_cases h1 : r = c
  · rw [if_pos h1]
    by_cases h2 : q = c
    · rw [if_pos h2, h2, h1]
    · rw [if_neg h2, if_pos rfl, h1]
  · rw [if_neg h1]
    by_cases h2 : r = q
    · rw [if_pos h2, if_pos rfl, h2]
    · rw [if_neg h2, if_neg h1, if_neg h2]
theorem gj_swap {n c q : Nat} {A T : Mx} (h : GJ n c A T) (hc : c < n) (hq : c ≤ q) (hqn : q < n) : GJ n c (sw A c q) (sw T c q) := by
  obtain ⟨G, hG⟩ := h.f
  refine ⟨h.le, fun r j hr hj => ?_, fun r j hr hj => ?_, fun r l => G (sr c q r) l, fun r j hr hj => ?_⟩
  · show A (sr c q r) j = sm c (fun l => A (sr c q r) l * T (sr c q l) j) + if c ≤ r then T (sr c q r) j else 0
    rw [h.e _ j (sr_lt hc hqn hr) hj, sm_congr (g := fun l => A (sr c q r) l * T (sr c q l) j) fun l hl => by rw [sr_low hq hl]]
    congr 1
    by_cases g : c ≤ r
    · rw [if_pos g, if_pos ((sr_ge hq).mpr g)]
    · rw [if_neg g, if_neg fun z => g ((sr_ge hq).mp z)]
  · show T (sr c q r) j = _
    rw [h.u _ j (sr_lt hc hqn hr) hj]
    by_cases e : r = j
    · rw [if_pos e, if_pos (by rw [e]; exact sr_low hq hj)]
    · rw [if_neg e, if_neg fun z => e (by rw [← sr_sr c q r, z]; exact sr_low hq hj)]
  · show T (sr c q r) j = sm c (fun l => G (sr c q r) l * A (sr c q l) j) + if c ≤ r then A (sr c q r) j else 0
    rw [hG _ j (sr_lt hc hqn hr) hj, sm_congr (g := fun l => G (sr c q r) l * A (sr c q l) j) fun l hl => by rw [sr_low hq hl]]
    congr 1
    by_cases g : c ≤ r
    · rw [if_pos g, if_pos ((sr_ge hq).mpr g)]
    · rw [if_neg g, if_neg fun z => g ((sr_ge hq).mp z)]
/-- one column is cleared -/
def cl (T : Mx) (c : Nat) : Mx := fun r j => if r = c then T c j / T c c else T r j - T r c * (T c j / T c c)
theorem gj_step {n c : Nat} {A T : Mx} (h : GJ n c A T) (hc : c < n) (h0 : T c c ≠ 0) : GJ n (c + 1) A (cl T c) := by
  obtain ⟨G, hG⟩ := h.f
  refine ⟨hc, fun r j hr hj => ?_, fun r j hr hj => ?_, fun r l => if r = c then (if l = c then 1 / T c c else G c l / T c c) else (if l = c then -(T r c / T c c) else G r l - T r c * (G c l / T c c)), fun r j hr hj => ?_⟩
  · rw [sm, sm_congr (g := fun l => A r l * T l j - T c j / T c c * (A r l * T l c)) fun l hl => by unfold cl; rw [if_neg (by omega)]; grind, sm_sub, sm_mul]
    have e1 := h.e r j hr hj
    have e2 := h.e r c hr (by omega)
    unfold cl
    by_cases g : r = c
    · subst g
      rw [if_pos (Nat.le_refl _)] at e1 e2
      rw [if_pos rfl, if_neg (by omega)]
      have : T r j / T r r * T r r = T r j := Rat.div_mul_cancel h0
      grind
    · rw [if_neg g, if_pos rfl]
      by_cases g2 : c ≤ r
      · rw [if_pos g2] at e1 e2
        rw [if_pos (by omega)]
        grind
      · rw [if_neg g2] at e1 e2
        rw [if_neg (by omega)]
        grind
  · unfold cl
    by_cases g : r = c
    · rw [if_pos g]
      by_cases g2 : j = c
      · rw [if_pos (by omega), g2]; grind
      · rw [h.u c j hc (by omega), if_neg (by omega), if_neg (by omega)]; grind
    · rw [if_neg g]
      by_cases g2 : j = c
      · rw [if_neg (by omega), g2]; grind
      · rw [h.u c j hc (by omega), h.u r j hr (by omega), if_neg (show ¬ c = j by omega)]; grind
  · have e1 := hG c j hc hj
    have e2 := hG r j hr hj
    rw [if_pos (Nat.le_refl _)] at e1
    show cl T c r j = sm c (fun l => (if r = c then (if l = c then 1 / T c c else G c l / T c c) else (if l = c then -(T r c / T c c) else G r l - T r c * (G c l / T c c))) * A l j) + (if r = c then (if c = c then 1 / T c c else G c c / T c c) else (if c = c then -(T r c / T c c) else G r c - T r c * (G c c / T c c))) * A c j + if c + 1 ≤ r then A r j else 0
    unfold cl
    by_cases g : r = c
    · rw [if_pos g, if_pos g, if_pos rfl, if_neg (by omega)]
      rw [sm_congr (g := fun l => 1 / T c c * (G c l * A l j)) fun l hl => by rw [if_pos g, if_neg (by omega)]; grind, sm_mul]
      grind
    · rw [if_neg g, if_neg g, if_pos rfl]
      rw [sm_congr (g := fun l => G r l * A l j - T r c / T c c * (G c l * A l j)) fun l hl => by rw [if_neg g, if_neg (by omega)]; grind, sm_sub, sm_mul]
      by_cases g2 : c ≤ r
      · rw [if_pos g2] at e2
        rw [if_pos (by omega)]
        grind
      · rw [if_neg g2] at e2
        rw [if_neg (by omega)]
        grind
/-- what has been reached is regular -/
theorem gj_reg {n c : Nat} {A T : Mx} (h : GJ n c A T) {y : Nat → Rat} (hy : ∀ r, r < c → sm c (fun j => A r j * y j) = 0) {r : Nat} (hr : r < c) : y r = 0 := by
  obtain ⟨G, hG⟩ := h.f
  have hcn := h.le
  have e1 : y r = sm c fun j => T r j * y j := by
    rw [sm_one (k := r) hr fun i hi hne => by rw [h.u r i (by omega) hi, if_neg (Ne.symm hne)]; grind]
    rw [h.u r r (by omega) hr, if_pos rfl]; grind
  rw [e1, sm_congr (g := fun j => sm c fun l => G r l * (A l j * y j)) fun j hj => ?_, sm_comm]
  · refine sm_zero fun l hl => ?_
    rw [sm_mul, hy l hl]; grind
  · rw [hG r j (by omega) (by omega), if_neg (by omega)]
    rw [show (sm c (fun l => G r l * A l j) + 0) * y j = y j * sm c (fun l => G r l * A l j) by grind, ← sm_mul]
    exact sm_congr fun l _ => by grind
theorem gj_end {n : Nat} {A T : Mx} (h : GJ n n A T) : (∀ r, r < n → sm n (fun l => A r l * T l n) = A r n) ∧ ∀ y : Nat → Rat, (∀ r, r < n → sm n (fun j => A r j * y j) = 0) → ∀ r, r < n → y r = 0 :=
  ⟨fun r hr => by rw [h.e r n hr (Nat.le_refl _), if_neg (by omega)]; grind, fun y hy r hr => gj_reg h hy hr⟩
theorem gj_fail {n c : Nat} {A T : Mx} (h : GJ n c A T) (hc : c < n) (h0 : ∀ r, c ≤ r → r < n → T r c = 0) : ∃ x : Nat → Rat, (∃ j, j < n ∧ x j ≠ 0) ∧ ∀ r, r < n → sm n (fun j => A r j * x j) = 0 := by
  refine ⟨fun j => if j < c then -T j c else if j = c then 1 else 0, ⟨c, hc, ?_⟩, fun r hr => ?_⟩
  · show (if c < c then -T c c else if c = c then 1 else 0) ≠ (0 : Rat)
    rw [if_neg (by omega), if_pos rfl]; decide
  · rw [sm_cut (c := c + 1) (by omega) fun i h1 h2 => by show A r i * (if i < c then -T i c else if i = c then 1 else 0) = 0; rw [if_neg (by omega), if_neg (by omega)]; grind]
    show sm c (fun j => A r j * (if j < c then -T j c else if j = c then 1 else 0)) + A r c * (if c < c then -T c c else if c = c then 1 else 0) = 0
    rw [if_neg (by omega), if_pos rfl, sm_congr (g := fun j => -1 * (A r j * T j c)) fun j hj => by rw [if_pos hj]; grind, sm_mul]
    have e := h.e r c hr (by omega)
    by_cases g : c ≤ r
    · rw [if_pos g, h0 r g hr] at e; grind
    · rw [if_neg g] at e; grind
/-! ### how large the table's entries are -/
def FrQ (P S : Nat) (x : Rat) : Prop := ∃ a b : Int, b ≠ 0 ∧ x = (a : Rat) / (b : Rat) ∧ a.natAbs ≤ P ∧ b.natAbs ≤ S
theorem gj_size {n c : Nat} {A T : Mx} {W M : Nat} {s : Nat → Nat} (h : GJ n c A T) (hs : ∀ r, r < n → 1 ≤ s r ∧ s r ≤ W) (hI : ∀ r j, r < n → j ≤ n → IsI M ((s r : Rat) * A r j)) (hM : 1 ≤ M) {r j : Nat} (hr : r < n) (hj : j ≤ n) :
    FrQ ((n + 1) * M * (n * M) ^ n) (W * (n * M) ^ n) (T r j) := by
  have hcn := h.le
  let I : Mx := fun r j => (s r : Rat) * A r j
  have s0 : ∀ r, r < n → (s r : Rat) ≠ 0 := fun r hr z => by
    have : s r = 0 := by exact_mod_cast z
    have := (hs r hr).1
    omega
  have pw : (c * M) ^ c ≤ (n * M) ^ n := by
    rcases Nat.eq_zero_or_pos n with e | e
    · have : c = 0 := by omega
      rw [this, e]
      exact Nat.le_refl _
    · exact Nat.le_trans (Nat.pow_le_pow_left (Nat.mul_le_mul_right _ hcn) c) (Nat.pow_le_pow_right (Nat.mul_pos e hM) hcn)
  have D0 : det c I ≠ 0 := fun z => by
    obtain ⟨y, ⟨k, hk, hy⟩, h1⟩ := ker_of z
    refine hy (gj_reg h (fun r hr => ?_) hk)
    have := h1 r hr
    rw [sm_congr (g := fun j => (s r : Rat) * (A r j * y j)) fun j _ => by show (s r : Rat) * A r j * y j = _; grind, sm_mul] at this
    have := s0 r (by omega)
    grind
  obtain ⟨D, hD, hDb⟩ := isI_det (n := c) (A := M) (M := I) fun r j hr hj => hI r j (by omega) (by omega)
  have Dz : D ≠ 0 := fun z => D0 (by rw [hD, z]; rfl)
  have Dq : (D : Rat) ≠ 0 := fun z => Dz (by exact_mod_cast z)
  have low : ∀ l, l < c → IsI ((n * M) ^ n) ((D : Rat) * T l j) := fun l hl => by
    have hc2 := cramer (n := c) (M := I) (b := fun r => I r j) (x := fun l => T l j) (fun r hr => by
      rw [sm_congr (g := fun l => (s r : Rat) * (A r l * T l j)) fun l _ => by show (s r : Rat) * A r l * T l j = _; grind, sm_mul]
      show (s r : Rat) * _ = (s r : Rat) * A r j
      rw [h.e r j (by omega) hj, if_neg (by omega)]; grind) hl
    rw [hD] at hc2
    rw [show (D : Rat) * T l j = T l j * (D : Rat) by grind, ← hc2]
    refine isI_up (isI_det (A := M) fun r k hr hk => ?_) pw
    unfold cc
    split
    · exact hI r j (by omega) hj
    · exact hI r k (by omega) (by omega)
  by_cases g : c ≤ r
  · have e := h.e r j hr hj
    rw [if_pos g] at e
    have hz : IsI ((n * M) ^ n * M + c * (M * (n * M) ^ n)) ((D : Rat) * I r j - sm c fun l => I r l * ((D : Rat) * T l j)) := by
      have h1 := isI_mul (⟨D, rfl, Nat.le_trans hDb pw⟩ : IsI ((n * M) ^ n) (D : Rat)) (hI r j hr hj)
      have h2 := isI_sm (n := c) (A := M * (n * M) ^ n) (f := fun l => I r l * ((D : Rat) * T l j)) fun l hl => isI_mul (hI r l hr (by omega)) (low l hl)
      have h3 : IsI 1 (-1 : Rat) := ⟨-1, by rfl, by decide⟩
      have h4 := isI_mul h3 h2
      rw [Nat.one_mul] at h4
      have := isI_add h1 h4
      have e3 : (D : Rat) * I r j - sm c (fun l => I r l * ((D : Rat) * T l j)) = (D : Rat) * ((s r : Rat) * A r j) + -1 * sm c (fun l => I r l * ((D : Rat) * T l j)) := by
        show (D : Rat) * ((s r : Rat) * A r j) - _ = _
        grind
      rw [e3]
      exact this
    obtain ⟨z, hz1, hz2⟩ := hz
    refine ⟨z, (s r : Int) * D, ?_, ?_, ?_, ?_⟩
    · have := (hs r hr).1
      exact Int.mul_ne_zero (by omega) Dz
    · rw [← hz1]
      have es : ((((s r : Nat) : Int) * D : Int) : Rat) = (s r : Rat) * (D : Rat) := by push_cast; rfl
      rw [es]
      show T r j = ((D : Rat) * ((s r : Rat) * A r j) - sm c fun l => (s r : Rat) * A r l * ((D : Rat) * T l j)) / ((s r : Rat) * (D : Rat))
      rw [sm_congr (g := fun l => ((D : Rat) * (s r : Rat)) * (A r l * T l j)) fun l _ => by grind, sm_mul]
      have := s0 r hr
      grind
    · refine Nat.le_trans hz2 ?_
      have : c * (M * (n * M) ^ n) ≤ n * (M * (n * M) ^ n) := Nat.mul_le_mul_right _ hcn
      rw [show (n + 1) * M * (n * M) ^ n = (n * M) ^ n * M + n * (M * (n * M) ^ n) by rw [Nat.add_mul, Nat.add_mul, Nat.one_mul, Nat.mul_assoc, Nat.mul_comm M]; omega]
      omega
    · rw [Int.natAbs_mul, Int.natAbs_natCast]
      exact Nat.mul_le_mul (hs r hr).2 (Nat.le_trans hDb pw)
  · obtain ⟨z, hz1, hz2⟩ := low r (by omega)
    refine ⟨z, D, Dz, by rw [← hz1]; grind, ?_, ?_⟩
    · refine Nat.le_trans hz2 (Nat.le_mul_of_pos_left _ (Nat.mul_pos (by omega) hM))
    · have w1 : 1 ≤ W := Nat.le_trans (hs r hr).1 (hs r hr).2
      exact Nat.le_trans (Nat.le_trans hDb pw) (Nat.le_mul_of_pos_left _ w1)
end L3

namespace L3
open PySem L2
/-- a column of its own size -/
theorem isI_cc {A B n k : Nat} {M : Mx} {u : Nat → Rat} (hk : k < n) (h : ∀ r c, r < n → c < n → IsI A (M r c)) (hA : 1 ≤ A) (hu : ∀ r, r < n → IsI B (u r)) : IsI (n * (B * (n * A) ^ n)) (det n (cc M k u)) := by
  have e : det n (cc M k u) = det n (cc M k fun r => sm n fun i => u i * (if r = i then 1 else 0)) := det_congr fun r c hr hc => by
    unfold cc
    split
    · show u r = sm n fun i => u i * (if r = i then 1 else 0)
      rw [sm_one (k := r) hr fun i _ hi => by rw [if_neg (fun z => hi z.symm)]; grind, if_pos rfl]; grind
    · rfl
  rw [e, det_sum (n := n) (m := n) hk u fun i r => if r = i then 1 else 0]
  refine isI_sm fun i hi => isI_mul (hu i hi) (isI_det fun r c hr hc => ?_)
  unfold cc
  split
  · show IsI A (if r = i then (1 : Rat) else 0)
    split
    · exact ⟨1, by rfl, by simpa using hA⟩
    · exact ⟨0, by rfl, by simp⟩
  · exact h r c hr hc
theorem gj_size2 {n c : Nat} {A T : Mx} {W M N : Nat} {s : Nat → Nat} (h : GJ n c A T) (hs : ∀ r, r < n → 1 ≤ s r ∧ s r ≤ W) (hI : ∀ r j, r < n → j < n → IsI M ((s r : Rat) * A r j)) (hI2 : ∀ r, r < n → IsI N ((s r : Rat) * A r n)) (hM : 1 ≤ M) (hMN : M ≤ N) {r j : Nat} (hr : r < n) (hj : j ≤ n) :
    FrQ ((n * M) ^ n * N + n * (M * (n * (N * (n * M) ^ n)))) (W * (n * M) ^ n) (T r j) := by
  have hcn := h.le
  let I : Mx := fun r j => (s r : Rat) * A r j
  have hN : ∀ r, r < n → IsI N (I r j) := fun r hr => by
    by_cases g : j < n
    · exact isI_up (hI r j hr g) hMN
    · have : j = n := by omega
      rw [this]; exact hI2 r hr
  have s0 : ∀ r, r < n → (s r : Rat) ≠ 0 := fun r hr z => by
    have : s r = 0 := by exact_mod_cast z
    have := (hs r hr).1
    omega
  have n1 : 1 ≤ n := by omega
  have pw : (c * M) ^ c ≤ (n * M) ^ n := Nat.le_trans (Nat.pow_le_pow_left (Nat.mul_le_mul_right _ hcn) c) (Nat.pow_le_pow_right (Nat.mul_pos n1 hM) hcn)
  have D0 : det c I ≠ 0 := fun z => by
    obtain ⟨y, ⟨k, hk, hy⟩, h1⟩ := ker_of z
    refine hy (gj_reg h (fun r hr => ?_) hk)
    have := h1 r hr
    rw [sm_congr (g := fun j => (s r : Rat) * (A r j * y j)) fun j _ => by show (s r : Rat) * A r j * y j = _; grind, sm_mul] at this
    have := s0 r (by omega)
    grind
  obtain ⟨D, hD, hDb⟩ := isI_det (n := c) (A := M) (M := I) fun r j hr hj => hI r j (by omega) (by omega)
  have Dz : D ≠ 0 := fun z => D0 (by rw [hD, z]; rfl)
  have Dq : (D : Rat) ≠ 0 := fun z => Dz (by exact_mod_cast z)
  have low : ∀ l, l < c → IsI (n * (N * (n * M) ^ n)) ((D : Rat) * T l j) := fun l hl => by
    have hc2 := cramer (n := c) (M := I) (b := fun r => I r j) (x := fun l => T l j) (fun r hr => by
      rw [sm_congr (g := fun l => (s r : Rat) * (A r l * T l j)) fun l _ => by show (s r : Rat) * A r l * T l j = _; grind, sm_mul]
      show (s r : Rat) * _ = (s r : Rat) * A r j
      rw [h.e r j (by omega) hj, if_neg (by omega)]; grind) hl
    rw [hD] at hc2
    rw [show (D : Rat) * T l j = T l j * (D : Rat) by grind, ← hc2]
    refine isI_up (isI_cc (A := M) (B := N) hl (fun r k hr hk => hI r k (by omega) (by omega)) hM fun r hr => hN r (by omega)) ?_
    exact Nat.mul_le_mul hcn (Nat.mul_le_mul_left _ pw)
  by_cases g : c ≤ r
  · have e := h.e r j hr hj
    rw [if_pos g] at e
    have hz : IsI ((n * M) ^ n * N + c * (M * (n * (N * (n * M) ^ n)))) ((D : Rat) * I r j - sm c fun l => I r l * ((D : Rat) * T l j)) := by
      have h1 := isI_mul (⟨D, rfl, Nat.le_trans hDb pw⟩ : IsI ((n * M) ^ n) (D : Rat)) (hN r hr)
      have h2 := isI_sm (n := c) (A := M * (n * (N * (n * M) ^ n))) (f := fun l => I r l * ((D : Rat) * T l j)) fun l hl => isI_mul (hI r l hr (by omega)) (low l hl)
      have h3 : IsI 1 (-1 : Rat) := ⟨-1, by rfl, by decide⟩
      have h4 := isI_mul h3 h2
      rw [Nat.one_mul] at h4
      have := isI_add h1 h4
      have e3 : (D : Rat) * I r j - sm c (fun l => I r l * ((D : Rat) * T l j)) = (D : Rat) * I r j + -1 * sm c (fun l => I r l * ((D : Rat) * T l j)) := by
        grind
      rw [e3]
      exact this
    obtain ⟨z, hz1, hz2⟩ := hz
    refine ⟨z, (s r : Int) * D, ?_, ?_, ?_, ?_⟩
    · have := (hs r hr).1
      exact Int.mul_ne_zero (by omega) Dz
    · rw [← hz1]
      have es : ((((s r : Nat) : Int) * D : Int) : Rat) = (s r : Rat) * (D : Rat) := by push_cast; rfl
      rw [es]
      show T r j = ((D : Rat) * ((s r : Rat) * A r j) - sm c fun l => (s r : Rat) * A r l * ((D : Rat) * T l j)) / ((s r : Rat) * (D : Rat))
      rw [sm_congr (g := fun l => ((D : Rat) * (s r : Rat)) * (A r l * T l j)) fun l _ => by grind, sm_mul]
      have := s0 r hr
      grind
    · refine Nat.le_trans hz2 ?_
      have : c * (M * (n * (N * (n * M) ^ n))) ≤ n * (M * (n * (N * (n * M) ^ n))) := Nat.mul_le_mul_right _ hcn
      omega
    · rw [Int.natAbs_mul, Int.natAbs_natCast]
      exact Nat.mul_le_mul (hs r hr).2 (Nat.le_trans hDb pw)
  · obtain ⟨z, hz1, hz2⟩ := low r (by omega)
    refine ⟨z, D, Dz, by rw [← hz1]; grind, ?_, ?_⟩
    · refine Nat.le_trans hz2 (Nat.le_trans ?_ (Nat.le_add_left _ _))
      exact Nat.le_trans (Nat.le_mul_of_pos_left _ hM) (Nat.le_mul_of_pos_left _ n1)
    · have w1 : 1 ≤ W := Nat.le_trans (hs r hr).1 (hs r hr).2
      exact Nat.le_trans (Nat.le_trans hDb pw) (Nat.le_mul_of_pos_left _ w1)
end L3

namespace L3
open PySem L2
theorem enumI_at {α : Type} : ∀ (k : Nat) (xs : List α) (i : Nat), (enumI k xs)[i]? = xs[i]?.map fun a => (((k + i : Nat) : Int), a)
  | _, [], _ => by simp [enumI]
  | k, x :: xs, 0 => by simp [enumI]
  | k, x :: xs, i + 1 => by
    show (enumI (k + 1) xs)[i]? = _
    rw [enumI_at (k + 1) xs i]
    simp [Nat.add_assoc, Nat.add_comm 1 i]
theorem rng_ix (n : Nat) (i : Nat) : (rng 0 (n : Int))[i]? = if i < n then some (i : Int) else none := by
  unfold rng
  rw [List.getElem?_map]
  split
  · rw [List.getElem?_range (by omega)]; simp
  · rw [List.getElem?_eq_none (by rw [List.length_range]; omega)]; rfl
end L3

namespace L3
open PySem L2
/-! ### solve -/
def rowQ (n : Nat) (u : Nat → Rat) : List (Int × Int) := (List.range (n + 1)).map fun j => ofQ (u j)
def tq (n : Nat) (T : Mx) : List (List (Int × Int)) := (List.range n).map fun r => rowQ n (T r)
theorem rowQ_len {n : Nat} {u : Nat → Rat} : (rowQ n u).length = n + 1 := by unfold rowQ; rw [List.length_map, List.length_range]
theorem tq_len {n : Nat} {T : Mx} : (tq n T).length = n := by unfold tq; rw [List.length_map, List.length_range]
theorem rowQ_ix {n j : Nat} {u : Nat → Rat} (h : j ≤ n) : ixL (rowQ n u) (j : Int) = some (ofQ (u j)) := by
  refine ixL_s (n := j) ?_ rfl
  unfold rowQ
  rw [List.getElem?_map, List.getElem?_range (by omega)]; rfl
theorem tq_ix {n r : Nat} {T : Mx} (h : r < n) : ixL (tq n T) (r : Int) = some (rowQ n (T r)) := by
  refine ixL_s (n := r) ?_ rfl
  unfold tq
  rw [List.getElem?_map, List.getElem?_range h]; rfl
theorem rowQ_congr {n : Nat} {u v : Nat → Rat} (h : ∀ j, j ≤ n → u j = v j) : rowQ n u = rowQ n v := by
  unfold rowQ
  refine List.map_congr_left fun j hj => ?_
  rw [h j (by have := List.mem_range.mp hj; omega)]
theorem tq_congr {n : Nat} {T U : Mx} (h : ∀ r j, r < n → j ≤ n → T r j = U r j) : tq n T = tq n U := by
  unfold tq
  refine List.map_congr_left fun r hr => ?_
  exact rowQ_congr fun j hj => h r j (List.mem_range.mp hr) hj
theorem tq_set {n r : Nat} {T : Mx} {u : Nat → Rat} (h : r < n) : (tq n T).set r (rowQ n u) = tq n fun r' => if r' = r then u else T r' := by
  refine List.ext_getElem? fun i => ?_
  unfold tq
  by_cases e : r = i
  · subst e
    rw [List.getElem?_set_self (by rw [List.length_map, List.length_range]; exact h), List.getElem?_map, List.getElem?_range h]
    show some _ = some (rowQ n (if r = r then u else T r))
    rw [if_pos rfl]
  · rw [List.getElem?_set_ne e, List.getElem?_map, List.getElem?_map]
    by_cases hi : i < n
    · rw [List.getElem?_range hi]
      show some _ = some (rowQ n (if i = r then u else T i))
      rw [if_neg (Ne.symm e)]
    · rw [List.getElem?_eq_none (by rw [List.length_range]; omega)]; rfl
theorem fr_bd {P S k : Nat} {x : Rat} (h : FrQ P S x) (hP : P < 2 ^ k) (hS : S < 2 ^ k) : Bd k x := by
  obtain ⟨a, b, hb, e, h1, h2⟩ := h
  have e : x = Rat.divInt a b := by rw [e, Rat.divInt_eq_div]
  subst e
  refine ⟨?_, ?_⟩
  · rw [Rat.num_divInt]
    refine Nat.lt_of_le_of_lt (Int.natAbs_ediv_le_natAbs _ _) ?_
    rw [Int.natAbs_mul]
    have : b.sign.natAbs ≤ 1 := by
      rw [Int.natAbs_sign]; split <;> omega
    have := Nat.mul_le_mul_right a.natAbs this
    omega
  · rw [Rat.den_divInt, if_neg hb]
    exact Nat.lt_of_le_of_lt (Nat.div_le_self _ _) (by omega)
/-- bits of a table -/
def TB (n k : Nat) (T : Mx) : Prop := ∀ r j, r < n → j ≤ n → Bd k (T r j)
theorem pivot_ok {n c : Nat} {T : Mx} (hn : n ≤ 1000) (hc : c < n) : Yes (m_pivot_of (tq n T) (c : Int)) fun o => match o with
    | none => ∀ r, c ≤ r → r < n → T r c = 0
    | some q => ∃ p : Nat, q = (p : Int) ∧ c ≤ p ∧ p < n ∧ T p c ≠ 0 := by
  unfold m_pivot_of
  rw [tq_len]
  refine y_eq (small62_s (by omega) (by omega)) (y_eq (small62_s (by omega) (by omega)) ?_)
  refine y_bind (Q := fun o => match o with
    | .inl _ => ∀ r, c ≤ r → r < n → T r c = 0
    | .inr none => False
    | .inr (some q) => ∃ p : Nat, q = (p : Int) ∧ c ≤ p ∧ p < n ∧ T p c ≠ 0) (y_loopR _ (fun i _ => ∀ r, c ≤ r → r < c + i → T r c = 0) _ (fun r h1 h2 => by omega) ?_ ?_) fun o ho => ?_
  · rintro i x ⟨⟩ hx hI
    obtain ⟨e1, e2⟩ := rng_at hx
    have e1 : x = ((c + i : Nat) : Int) := by omega
    subst e1
    refine y_eq (tq_ix (by omega)) (y_eq (rowQ_ix (by omega)) ?_)
    rw [eq_0]
    refine y_if (fun h => y_some ⟨c + i, rfl, by omega, by omega, by simpa using h⟩) (fun h => y_some fun r h1 h2 => ?_)
    by_cases e : r = c + i
    · rw [e]; simpa using h
    · exact hI r h1 (by omega)
  · intro s hI
    rw [rng_len] at hI
    exact fun r h1 h2 => hI r h1 (by omega)
  · match o, ho with
    | .inl _, ho => exact y_some ho
    | .inr (some q), ho => exact y_some ho
theorem cleared_ok {n c k : Nat} {u v : Nat → Rat} (hn : n ≤ 1000) (hc : c ≤ n) (hk : 0 < k) (hk2 : 3 * k ≤ 4000) (hu : ∀ j, j ≤ n → Bd k (u j)) (hv : ∀ j, j ≤ n → Bd k (v j)) : m_cleared (rowQ n u) (rowQ n v) (c : Int) = some (rowQ n fun j => u j - u c * v j) := by
  unfold m_cleared
  refine bnd (rowQ_ix hc) ?_
  rw [eq_0]
  by_cases e : u c = 0
  · rw [if_pos (decide_eq_true e)]
    refine congrArg some (rowQ_congr fun j _ => ?_)
    rw [e]; grind
  · rw [if_neg (by simp [e])]
    refine bnd (room_s (by rw [enumI_len, rowQ_len]; omega)) ?_
    have en : enumI 0 (rowQ n u) = (List.range (n + 1)).map fun (j : Nat) => ((j : Int), ofQ (u j)) := by
      refine List.ext_getElem? fun i => ?_
      rw [enumI_at]
      unfold rowQ
      rw [List.getElem?_map, List.getElem?_map]
      cases h : (List.range (n + 1))[i]? with
      | none => rfl
      | some q =>
        obtain ⟨h1, h2⟩ := List.getElem?_eq_some_iff.mp h
        rw [List.getElem_range] at h2
        subst h2
        simp
    rw [en]
    refine bnd (a := ((List.range (n + 1)).map fun j => ofQ (u j - u c * v j), ())) ?_ rfl
    have : ∀ l : List Nat, (∀ j ∈ l, j ≤ n) → compM (S := Unit) (β := (Int × Int)) (fun (s18 : Unit) (x25 : (Int × (Int × Int))) => (Option.bind (ixL (rowQ n v) x25.1) fun t46 => Option.bind (m_times (ofQ (u c)) t46) fun t48 => Option.bind (m_minus x25.2 t48) fun t50 => some (some t50, ()))) (()) (l.map fun (j : Nat) => ((j : Int), ofQ (u j))) = some (l.map fun j => ofQ (u j - u c * v j), ()) := by
      intro l
      induction l with
      | nil => intro _; rfl
      | cons j l ih =>
        intro hl
        have hj := hl j List.mem_cons_self
        have b1 := hu c hc
        have b2 := hv j hj
        have bt : Bd (2 * k) (u c * v j) := by
          have h1 := nmul_lt b1.1 b2.1
          refine ⟨?_, ?_⟩
          · rw [Rat.num_mul]
            exact Nat.lt_of_le_of_lt (Int.natAbs_ediv_le_natAbs _ _) (by rw [Nat.two_mul]; exact h1)
          · rw [Rat.den_mul]
            refine Nat.lt_of_le_of_lt (Nat.div_le_self _ _) ?_
            rw [Nat.two_mul, Nat.pow_add]
            exact Nat.mul_lt_mul'' b1.2 b2.2
        rw [List.map_cons]
        exact compM_cons (o := some (ofQ (u j - u c * v j))) (bnd (rowQ_ix hj) (bnd (times_q b1 b2 hk hk (by omega)) (bnd (minus_q (hu j hj) bt hk (by omega) (by omega)) rfl))) (ih fun i hi => hl i (List.mem_cons_of_mem _ hi))
    exact this _ fun j hj => by have := List.mem_range.mp hj; omega
/-- the table one column further -/
theorem column_ok {n c p k : Nat} {T : Mx} (hn : n ≤ 1000) (hc : c < n) (hp : c ≤ p) (hpn : p < n) (hk : 0 < k) (hk2 : 3 * k ≤ 4000) (hT : TB n k T) (h0 : T p c ≠ 0) (hT2 : TB n k (cl (sw T c p) c))
    (F : List (List (Int × Int)) → Int → Option (List (List (Int × Int)))) (hF : ∀ s x, F s x = Option.bind (if (!decide (x = (c : Int))) = true then Option.bind (ixL s x) fun t170 => Option.bind (ixL s (c : Int)) fun t172 => Option.bind (m_cleared t170 t172 (c : Int)) fun t174 => Option.bind (ixO s.length x) fun t176 => some ((s.set t176 t174)) else some s) fun (s167 : (List (List (Int × Int)))) => some s167) :
    foldO F ((tq n (sw T c p)).set c (rowQ n fun j => sw T c p c j / sw T c p c c)) (rng 0 (n : Int)) = some (tq n (cl (sw T c p) c)) := by
  generalize hU : sw T c p = U at *
  have hUb : TB n k U := by
    subst hU
    exact fun r j hr hj => hT _ j (sr_lt hc hpn hr) hj
  let S : Nat → Mx := fun i r => if r < i ∨ r = c then cl U c r else U r
  have hS0 : (tq n U).set c (rowQ n fun j => U c j / U c c) = tq n (S 0) := by
    rw [tq_set hc]
    refine tq_congr fun r j _ _ => ?_
    show (if r = c then fun j => U c j / U c c else U r) j = (if r < 0 ∨ r = c then cl U c r else U r) j
    by_cases e : r = c
    · rw [if_pos e, if_pos (.inr e)]; unfold cl; rw [if_pos e]
    · rw [if_neg e, if_neg (by omega)]
  have hSb : ∀ i r, r < n → ∀ j, j ≤ n → Bd k (S i r j) := fun i r hr j hj => by
    show Bd k ((if r < i ∨ r = c then cl U c r else U r) j)
    split
    · exact hT2 r j hr hj
    · exact hUb r j hr hj
  obtain ⟨s, h1, h2⟩ := y_foldI F (fun i s => s = tq n (S i)) (xs := rng 0 (n : Int)) (s := (tq n U).set c (rowQ n fun j => U c j / U c c)) hS0 (by
    rintro i x s hx rfl
    obtain ⟨e1, e2⟩ := rng_at hx
    have e1 : x = (i : Int) := by omega
    subst e1
    have hi : i < n := by omega
    rw [hF]
    by_cases e : i = c
    · refine ⟨_, bnd (a := tq n (S i)) (by rw [if_neg (by simp [e])]) rfl, tq_congr fun r j _ _ => ?_⟩
      show (if r < i ∨ r = c then cl U c r else U r) j = (if r < i + 1 ∨ r = c then cl U c r else U r) j
      by_cases g : r < i ∨ r = c
      · rw [if_pos g, if_pos (by omega)]
      · rw [if_neg g, if_neg (by omega)]
    · refine ⟨(tq n (S i)).set i (rowQ n fun j => S i i j - S i i c * S i c j), bnd (a := (tq n (S i)).set i (rowQ n fun j => S i i j - S i i c * S i c j)) ?_ rfl, ?_⟩
      · rw [if_pos (by simp; omega)]
        exact bnd (tq_ix hi) (bnd (tq_ix hc) (bnd (cleared_ok hn (by omega) hk hk2 (hSb i i hi) (hSb i c hc)) (bnd (ixO_s rfl (by rw [tq_len]; exact hi)) rfl)))
      · rw [tq_set hi]
        refine tq_congr fun r j _ _ => ?_
        show (if r = i then fun j => S i i j - S i i c * S i c j else S i r) j = (if r < i + 1 ∨ r = c then cl U c r else U r) j
        by_cases g : r = i
        · rw [if_pos g, if_pos (by omega)]
          have s1 : ∀ j, S i i j = U i j := fun j => by
            show (if i < i ∨ i = c then cl U c i else U i) j = _
            rw [if_neg (by omega)]
          have s2 : ∀ j, S i c j = U c j / U c c := fun j => by
            show (if c < i ∨ c = c then cl U c c else U c) j = _
            rw [if_pos (.inr rfl)]; unfold cl; rw [if_pos rfl]
          show S i i j - S i i c * S i c j = cl U c r j
          rw [s1, s1, s2]
          unfold cl
          rw [if_neg (by omega), g]
        · rw [if_neg g]
          show (if r < i ∨ r = c then cl U c r else U r) j = _
          by_cases g2 : r < i ∨ r = c
          · rw [if_pos g2, if_pos (by omega)]
          · rw [if_neg g2, if_neg (by omega)])
  rw [h1, h2]
  refine congrArg some (tq_congr fun r j hr _ => ?_)
  rw [rng_len]
  show (if r < ((n : Int) - 0).toNat ∨ r = c then cl U c r else U r) j = _
  rw [if_pos (by omega)]
def PermOn (n : Nat) (π : Nat → Nat) : Prop := (∀ r, r < n → π r < n) ∧ ∀ s, s < n → ∃ r, r < n ∧ π r = s
def augA (n : Nat) (rows : List (List Rat)) (right : List Rat) : Mx := fun r j => if j < n then (rows.getD r []).getD j 0 else right.getD r 0
/-- solve, where the table's entries stay small -/
theorem solve_core {n k : Nat} {rows : List (List Rat)} {right : List Rat} (hn : n ≤ 1000) (hr : rows.length = n) (hr2 : ∀ row ∈ rows, row.length = n) (hb : right.length = n) (hk : 0 < k) (hk2 : 3 * k ≤ 4000)
    (size : ∀ {c : Nat} {A' T : Mx} {π : Nat → Nat}, PermOn n π → (∀ r j, r < n → A' r j = augA n rows right (π r) j) → GJ n c A' T → TB n k T) :
    Yes (m_solve (rows.map fun row => row.map ofQ) (right.map ofQ)) fun o => match o with
      | none => ∃ x : Nat → Rat, (∃ j, j < n ∧ x j ≠ 0) ∧ ∀ r, r < n → sm n (fun j => (rows.getD r []).getD j 0 * x j) = 0
      | some q => ∃ x : Nat → Rat, q = (List.range n).map (fun r => ofQ (x r)) ∧ (∀ r, r < n → sm n (fun j => (rows.getD r []).getD j 0 * x j) = right.getD r 0) ∧ (∀ r, r < n → Bd k (x r)) ∧
          ∀ y : Nat → Rat, (∀ r, r < n → sm n (fun j => (rows.getD r []).getD j 0 * y j) = 0) → ∀ r, r < n → y r = 0 := by
  let A : Mx := augA n rows right
  have idp : PermOn n id := ⟨fun r h => h, fun s h => ⟨s, h, rfl⟩⟩
  unfold m_solve
  refine y_eq (room_s (by rw [enumI_len, List.length_map]; omega)) (y_eq (a := (tq n A, ())) ?_ ?_)
  · have en : enumI 0 (rows.map fun row => row.map ofQ) = (List.range n).map fun (r : Nat) => ((r : Int), ((rows.getD r []).map ofQ)) := by
      refine List.ext_getElem? fun i => ?_
      rw [enumI_at, List.getElem?_map, List.getElem?_map]
      by_cases hi : i < n
      · rw [List.getElem?_range hi, List.getElem?_eq_getElem (by omega)]
        simp [List.getD_eq_getElem?_getD, List.getElem?_eq_getElem (show i < rows.length by omega)]
      · rw [List.getElem?_eq_none (by omega), List.getElem?_eq_none (by rw [List.length_range]; omega)]; rfl
    rw [en]
    have : ∀ l : List Nat, (∀ r ∈ l, r < n) → compM (S := Unit) (β := (List (Int × Int))) (fun (s10 : Unit) (x17 : (Int × (List (Int × Int)))) => (Option.bind (ixL (right.map ofQ) x17.1) fun t38 => Option.bind (catT x17.2 ([t38])) fun t40 => some (some t40, ()))) (()) (l.map fun (r : Nat) => ((r : Int), ((rows.getD r []).map ofQ))) = some (l.map fun r => rowQ n (A r), ()) := by
      intro l
      induction l with
      | nil => intro _; rfl
      | cons r l ih =>
        intro hl
        have hrn := hl r List.mem_cons_self
        have hrow : (rows.getD r []).length = n := by
          rw [List.getD_eq_getElem?_getD, List.getElem?_eq_getElem (by omega)]
          exact hr2 _ (List.getElem_mem _)
        rw [List.map_cons]
        refine compM_cons (o := some (rowQ n (A r))) ?_ (ih fun i hi => hl i (List.mem_cons_of_mem _ hi))
        · skip
          refine bnd (a := ofQ (right.getD r 0)) (ixL_s (n := r) ?_ rfl) (bnd (a := rowQ n (A r)) ?_ rfl)
          · rw [List.getElem?_map, List.getD_eq_getElem?_getD, List.getElem?_eq_getElem (by omega)]; rfl
          · unfold catT
            rw [if_pos (by rw [List.length_map, hrow]; simp; omega)]
            refine congrArg some (List.ext_getElem? fun j => ?_)
            unfold rowQ
            rw [List.getElem?_map]
            by_cases hj : j < n
            · rw [List.getElem?_append_left (by rw [List.length_map]; omega), List.getElem?_map, List.getElem?_range (by omega)]
              show _ = some (ofQ (if j < n then (rows.getD r []).getD j 0 else right.getD r 0))
              rw [if_pos hj, List.getD_eq_getElem?_getD (l := rows.getD r []), List.getElem?_eq_getElem (by omega)]; rfl
            · by_cases hj2 : j = n
              · rw [List.getElem?_append_right (by rw [List.length_map]; omega), List.length_map, hrow, hj2, Nat.sub_self, List.getElem?_range (by omega)]
                show _ = some (ofQ (if n < n then (rows.getD r []).getD n 0 else right.getD r 0))
                rw [if_neg (by omega)]; rfl
              · rw [List.getElem?_eq_none (by rw [List.length_append, List.length_map, hrow, List.length_singleton]; omega), List.getElem?_eq_none (by rw [List.length_range]; omega)]; rfl
    exact this _ fun r hr => List.mem_range.mp hr
  · rw [tq_len]
    refine y_eq (small62_s (by omega) (by omega)) ?_
    refine y_bind (Q := fun o => match o with
      | .inl q => ∃ T A' π, q = tq n T ∧ PermOn n π ∧ (∀ r j, r < n → A' r j = A (π r) j) ∧ GJ n n A' T
      | .inr q => q = none ∧ ∃ x : Nat → Rat, (∃ j, j < n ∧ x j ≠ 0) ∧ ∀ r, r < n → sm n (fun j => A r j * x j) = 0) (y_loopR _ (fun c q => ∃ T A' π, q = tq n T ∧ PermOn n π ∧ (∀ r j, r < n → A' r j = A (π r) j) ∧ GJ n c A' T) _ ⟨A, A, id, rfl, idp, fun _ _ _ => rfl, gj_start n A⟩ ?_ ?_) fun o ho => ?_
    · rintro i x q hx ⟨T, A', π, rfl, hp, ha, hg⟩
      obtain ⟨e1, e2⟩ := rng_at hx
      have e1 : x = (i : Int) := by omega
      subst e1
      have hi : i < n := by omega
      refine y_bind (pivot_ok hn hi) fun o ho => ?_
      cases o with
      | none =>
        refine y_p rfl (y_some ⟨rfl, ?_⟩)
        obtain ⟨x, hx, h1⟩ := gj_fail hg hi ho
        refine ⟨x, hx, fun r hr => ?_⟩
        obtain ⟨r', hr', rfl⟩ := hp.2 r hr
        exact Eq.trans (sm_congr fun j _ => by rw [ha r' j hr']) (h1 r' hr')
      | some q =>
        obtain ⟨p, rfl, h1, h2, h3⟩ := ho
        refine y_n rfl (y_eq rfl (y_eq (tq_ix h2) (y_eq (tq_ix hi) (y_eq (ixO_s rfl (by rw [tq_len]; exact hi)) (y_eq rfl (y_eq (ixO_s rfl (by rw [List.length_set, tq_len]; exact h2)) ?_))))))
        have esw : ((tq n T).set i (rowQ n (T p))).set p (rowQ n (T i)) = tq n (sw T i p) := by
          rw [tq_set hi, tq_set h2]
          refine tq_congr fun r j _ _ => ?_
          show (if r = p then T i else if r = i then T p else T r) j = T (sr i p r) j
          unfold sr
          by_cases g2 : r = p
          · by_cases g : r = i
            · rw [if_pos g2, if_pos g, ← g2, ← g]
            · rw [if_pos g2, if_neg g, if_pos g2]
          · by_cases g : r = i
            · rw [if_neg g2, if_pos g, if_pos g]
            · rw [if_neg g2, if_neg g, if_neg g, if_neg g2]
        show Yes (Option.bind (ixL (((tq n T).set i (rowQ n (T p))).set p (rowQ n (T i))) (i : Int)) _) _
        simp only [esw]
        have hp' : PermOn n fun r => π (sr i p r) := ⟨fun r hr => hp.1 _ (sr_lt hi h2 hr), fun s hs => by
          obtain ⟨r, hr, e⟩ := hp.2 s hs
          exact ⟨sr i p r, sr_lt hi h2 hr, by show π (sr i p (sr i p r)) = s; rw [sr_sr]; exact e⟩⟩
        have ha' : ∀ r j, r < n → sw A' i p r j = A (π (sr i p r)) j := fun r j hr => ha _ j (sr_lt hi h2 hr)
        have hg1 := gj_swap hg hi h1 h2
        have h3' : sw T i p i i ≠ 0 := by
          show T (sr i p i) i ≠ 0
          unfold sr
          rw [if_pos rfl]; exact h3
        have hg2 := gj_step hg1 hi h3'
        have b0 := size hp ha hg
        have b1 := size hp' ha' hg1
        have b2 := size hp' ha' hg2
        refine y_eq (tq_ix hi) (y_eq (rowQ_ix (by omega)) (y_eq (tq_ix hi) (y_eq (room_s (by rw [rowQ_len]; omega)) (y_eq (a := (rowQ n fun j => sw T i p i j / sw T i p i i, ())) ?_ ?_))))
        · unfold rowQ
          rw [show ((List.range (n + 1)).map fun j => ofQ (sw T i p i j / sw T i p i i)) = ((List.range (n + 1)).map fun j => sw T i p i j).map fun v => ofQ (v / sw T i p i i) by rw [List.map_map]; rfl]
          have : ∀ l : List Rat, (∀ v ∈ l, Bd k v) → compM (S := Unit) (β := (Int × Int)) (fun (s111 : Unit) (x118 : (Int × Int)) => (Option.bind (m_over x118 (ofQ (sw T i p i i))) fun t135 => some (some t135, ()))) (()) (l.map ofQ) = some (l.map fun v => ofQ (v / sw T i p i i), ()) := by
            intro l
            induction l with
            | nil => intro _; rfl
            | cons v l ih =>
              intro hl
              rw [List.map_cons]
              exact compM_cons (o := some (ofQ (v / sw T i p i i))) (bnd (over_q (hl v List.mem_cons_self) (b1 i i hi (by omega)) h3' hk hk (by omega)) rfl) (ih fun w hw => hl w (List.mem_cons_of_mem _ hw))
          rw [show ((List.range (n + 1)).map fun j => ofQ (sw T i p i j)) = ((List.range (n + 1)).map fun j => sw T i p i j).map ofQ by rw [List.map_map]; rfl]
          exact this _ fun v hv => by
            obtain ⟨j, hj, rfl⟩ := List.mem_map.mp hv
            exact b1 i j hi (by have := List.mem_range.mp hj; omega)
        · refine y_eq (ixO_s rfl (by rw [tq_len]; exact hi)) (y_eq (small62_s (by rw [List.length_set, tq_len]; omega) (by rw [List.length_set, tq_len]; omega)) ?_)
          rw [List.length_set, tq_len]
          exact y_eq (column_ok hn hi h1 h2 hk hk2 b0 h3 b2 _ fun _ _ => rfl) (y_some ⟨_, _, _, rfl, hp', ha', hg2⟩)
    · rintro q ⟨T, A', π, rfl, hp, ha, hg⟩
      rw [rng_len] at hg
      have e : ((n : Int) - 0).toNat = n := by omega
      rw [e] at hg
      exact ⟨T, A', π, rfl, hp, ha, hg⟩
    · match o, ho with
      | .inr q, ⟨hq, x, hx, h1⟩ =>
        subst hq
        refine y_some ⟨x, hx, fun r hr => ?_⟩
        refine Eq.trans (sm_congr fun j hj => ?_) (h1 r hr)
        show _ = (if j < n then _ else _) * _
        rw [if_pos hj]
      | .inl q, ⟨T, A', π, hq, hp, ha, hg⟩ =>
        subst hq
        refine y_eq (room_s (by rw [tq_len]; omega)) (y_eq (a := ((List.range n).map fun r => ofQ (T r n), ())) ?_ (y_some ⟨fun r => T r n, rfl, ?_, fun r hr => size hp ha hg r n hr (Nat.le_refl _), ?_⟩))
        · unfold tq
          have : ∀ l : List Nat, compM (S := Unit) (β := (Int × Int)) (fun (s204 : Unit) (x211 : (List (Int × Int))) => (Option.bind (ixL x211 ((-(1 : Int)))) fun t228 => some (some t228, ()))) (()) (l.map fun r => rowQ n (T r)) = some (l.map fun r => ofQ (T r n), ()) := by
            intro l
            induction l with
            | nil => rfl
            | cons r l ih =>
              rw [List.map_cons]
              refine compM_cons (o := some (ofQ (T r n))) ?_ ih
              · skip
                refine bnd (a := ofQ (T r n)) ?_ rfl
                unfold ixL atI ixN
                rw [rowQ_len, if_neg (by decide), if_pos (by omega)]
                show (rowQ n (T r))[((-1 : Int) + ((n + 1 : Nat) : Int)).toNat]? = some (ofQ (T r n))
                rw [show ((-1 : Int) + ((n + 1 : Nat) : Int)).toNat = n by omega]
                unfold rowQ
                rw [List.getElem?_map, List.getElem?_range (by omega)]
                rfl
          exact this _
        · intro r hr
          obtain ⟨r', hr', rfl⟩ := hp.2 r hr
          have := (gj_end hg).1 r' hr'
          rw [ha r' n hr'] at this
          have e : A (π r') n = right.getD (π r') 0 := by
            show (if n < n then _ else _) = _
            rw [if_neg (by omega)]
          rw [← e, ← this]
          refine sm_congr fun j hj => ?_
          rw [ha r' j hr']
          show _ = (if j < n then _ else _) * _
          rw [if_pos hj]
        · intro y hy
          refine (gj_end hg).2 y fun r hr => ?_
          refine Eq.trans (sm_congr fun j hj => ?_) (hy (π r) (hp.1 r hr))
          rw [ha r j hr]
          show (if j < n then _ else _) * _ = _
          rw [if_pos hj]
theorem solve_ok {n k M W : Nat} {rows : List (List Rat)} {right : List Rat} {s : Nat → Nat} (hn : n ≤ 1000) (hr : rows.length = n) (hr2 : ∀ row ∈ rows, row.length = n) (hb : right.length = n)
    (hs : ∀ r, r < n → 1 ≤ s r ∧ s r ≤ W) (hI : ∀ r j, r < n → j < n → IsI M ((s r : Rat) * (rows.getD r []).getD j 0)) (hI2 : ∀ r, r < n → IsI M ((s r : Rat) * right.getD r 0)) (hM : 1 ≤ M)
    (hk : 0 < k) (hk2 : 3 * k ≤ 4000) (k1 : (n + 1) * M * (n * M) ^ n < 2 ^ k) (k2 : W * (n * M) ^ n < 2 ^ k) :
    Yes (m_solve (rows.map fun row => row.map ofQ) (right.map ofQ)) fun o => match o with
      | none => ∃ x : Nat → Rat, (∃ j, j < n ∧ x j ≠ 0) ∧ ∀ r, r < n → sm n (fun j => (rows.getD r []).getD j 0 * x j) = 0
      | some q => ∃ x : Nat → Rat, q = (List.range n).map (fun r => ofQ (x r)) ∧ (∀ r, r < n → sm n (fun j => (rows.getD r []).getD j 0 * x j) = right.getD r 0) ∧ (∀ r, r < n → Bd k (x r)) ∧
          ∀ y : Nat → Rat, (∀ r, r < n → sm n (fun j => (rows.getD r []).getD j 0 * y j) = 0) → ∀ r, r < n → y r = 0 := by
  have hA : ∀ r j, r < n → j ≤ n → IsI M ((s r : Rat) * augA n rows right r j) := fun r j hr hj => by
    show IsI M ((s r : Rat) * if j < n then (rows.getD r []).getD j 0 else right.getD r 0)
    split
    · exact hI r j hr (by assumption)
    · exact hI2 r hr
  exact solve_core hn hr hr2 hb hk hk2 fun {c A' T π} hp ha hg r j hr hj =>
    fr_bd (gj_size hg (s := fun r => s (π r)) (M := M) (W := W) (fun r hr => hs _ (hp.1 r hr)) (fun r j hr hj => by rw [ha r j hr]; exact hA _ j (hp.1 r hr) hj) hM hr hj) k1 k2
/-- .. with a right side of its own size -/
theorem size2 {n k M N W : Nat} {rows : List (List Rat)} {right : List Rat} {s : Nat → Nat}
    (hs : ∀ r, r < n → 1 ≤ s r ∧ s r ≤ W) (hI : ∀ r j, r < n → j < n → IsI M ((s r : Rat) * (rows.getD r []).getD j 0)) (hI2 : ∀ r, r < n → IsI N ((s r : Rat) * right.getD r 0)) (hM : 1 ≤ M) (hMN : M ≤ N)
    (k1 : (n * M) ^ n * N + n * (M * (n * (N * (n * M) ^ n))) < 2 ^ k) (k2 : W * (n * M) ^ n < 2 ^ k) :
    ∀ {c : Nat} {A' T : Mx} {π : Nat → Nat}, PermOn n π → (∀ r j, r < n → A' r j = augA n rows right (π r) j) → GJ n c A' T → TB n k T := fun {c A' T π} hp ha hg r j hr hj =>
  fr_bd (gj_size2 hg (s := fun r => s (π r)) (M := M) (N := N) (W := W) (fun r hr => hs _ (hp.1 r hr)) (fun r j hr hj => by
    rw [ha r j hr]
    have := hI _ j (hp.1 r hr) hj
    unfold augA
    rw [if_pos hj]; exact this) (fun r hr => by
    rw [ha r n hr]
    have := hI2 _ (hp.1 r hr)
    unfold augA
    rw [if_neg (Nat.lt_irrefl n)]; exact this) hM hMN hr hj) k1 k2
end L3

namespace L3
open PySem L2
theorem l_plus_q {x y : Rat} {k l : Nat} (hx : Bd k x) (hy : Bd l y) (hk : 0 < k) (hl : 0 < l) (h : k + l ≤ 988) : m_l_plus (ofQ x) (ofQ y) = some (ofQ (x + y)) := by
  have px := den_pos x
  have py := den_pos y
  have pos := Int.mul_pos px py
  have b1 := nmul_lt hx.1 (den_lt hy)
  have b2 := nmul_lt hy.1 (den_lt hx)
  rw [Nat.add_comm] at b2
  unfold m_l_plus ofQ
  dsimp only
  rw [mulI_b hx.1 (den_lt hy) hk hl (by omega), mulI_b hy.1 (den_lt hx) hl hk (by omega), mulI_b (den_lt hx) (den_lt hy) hk hl (by omega)]
  show Option.bind (m_l_ratio _ _) _ = _
  rw [l_ratio_ok (by omega) (Nat.lt_of_lt_of_le (nadd_lt b1 b2) (Nat.pow_le_pow_right (by decide) (by omega))) (Nat.lt_of_lt_of_le (nmul_lt (den_lt hx) (den_lt hy)) (Nat.pow_le_pow_right (by decide) (by omega))), rat_ofQ (by omega), add_q]
  rfl
theorem l_times_q {x y : Rat} {k l : Nat} (hx : Bd k x) (hy : Bd l y) (hk : 0 < k) (hl : 0 < l) (h : k + l ≤ 990) : m_l_times (ofQ x) (ofQ y) = some (ofQ (x * y)) := by
  have px := den_pos x
  have py := den_pos y
  have pos := Int.mul_pos px py
  unfold m_l_times ofQ
  dsimp only
  rw [mulI_b hx.1 hy.1 hk hl (by omega), mulI_b (den_lt hx) (den_lt hy) hk hl (by omega)]
  show Option.bind (m_l_ratio _ _) _ = _
  rw [l_ratio_ok (by omega) (Nat.lt_of_lt_of_le (nmul_lt hx.1 hy.1) (Nat.pow_le_pow_right (by decide) (by omega))) (Nat.lt_of_lt_of_le (nmul_lt (den_lt hx) (den_lt hy)) (Nat.pow_le_pow_right (by decide) (by omega))), rat_ofQ (by omega), mul_q]
  rfl
theorem l_ratio_q {n d : Int} (h : 0 < d) (hn : n.natAbs < 2 ^ 990) (hb : d.natAbs < 2 ^ 990) : m_l_ratio n d = some (ofQ ((n : Rat) / (d : Rat))) := by
  rw [l_ratio_ok (by omega) hn hb, rat_ofQ (by omega), Rat.divInt_eq_div]
end L3

namespace L3
open PySem L2
/-! ### the laws' own solver, with the table's sizes given -/
theorem l_over_q {x y : Rat} {k l : Nat} (hx : Bd k x) (hy : Bd l y) (h0 : y ≠ 0) (hk : 0 < k) (hl : 0 < l) (h : k + l ≤ 990) : m_l_over (ofQ x) (ofQ y) = some (ofQ (x / y)) := by
  have px := den_pos x
  have ny : y.num ≠ 0 := fun z => h0 (Rat.num_eq_zero.mp z)
  have pos : (x.den : Int) * y.num ≠ 0 := Int.mul_ne_zero (by omega) ny
  unfold m_l_over ofQ
  dsimp only
  rw [mulI_b hx.1 (den_lt hy) hk hl (by omega), mulI_b (den_lt hx) hy.1 hk hl (by omega)]
  show Option.bind (m_l_ratio _ _) _ = _
  rw [l_ratio_ok pos (Nat.lt_of_lt_of_le (nmul_lt hx.1 (den_lt hy)) (Nat.pow_le_pow_right (by decide) (by omega))) (Nat.lt_of_lt_of_le (nmul_lt (den_lt hx) hy.1) (Nat.pow_le_pow_right (by decide) (by omega))), rat_ofQ pos, div_q _ _ h0]
  rfl
theorem bd_mul {k l : Nat} {x y : Rat} (b1 : Bd k x) (b2 : Bd l y) : Bd (k + l) (x * y) := by
  refine ⟨?_, ?_⟩
  · rw [Rat.num_mul]
    exact Nat.lt_of_le_of_lt (Int.natAbs_ediv_le_natAbs _ _) (nmul_lt b1.1 b2.1)
  · rw [Rat.den_mul]
    refine Nat.lt_of_le_of_lt (Nat.div_le_self _ _) ?_
    rw [Nat.pow_add]
    exact Nat.mul_lt_mul'' b1.2 b2.2
theorem neg_ofQ (x : Rat) : ((0 : Int) - (ofQ x).1, (ofQ x).2) = ofQ (-x) := by
  show ((0 : Int) - x.num, (x.den : Int)) = ((-x).num, ((-x).den : Int))
  rw [Rat.neg_num, Rat.neg_den, Int.zero_sub]
theorem bd_neg {k : Nat} {x : Rat} (h : Bd k x) : Bd k (-x) := by
  refine ⟨?_, ?_⟩
  · rw [Rat.neg_num, Int.natAbs_neg]; exact h.1
  · rw [Rat.neg_den]; exact h.2
theorem nz_dec (x : Rat) : (!decide ((ofQ x).1 = 0)) = !decide (x = 0) := by
  rw [show decide ((ofQ x).1 = 0) = decide (x = 0) from decide_eq_decide.mpr Rat.num_eq_zero]
theorem compM_range {β : Type} {f : Unit → Int → Option (Option β × Unit)} {u : Nat → β} {n : Nat} (h : ∀ j, j < n → f () (j : Int) = some (some (u j), ())) : compM f () (rng 0 (n : Int)) = some ((List.range n).map u, ()) := by
  have e : rng 0 (n : Int) = (List.range n).map fun (j : Nat) => (j : Int) := by
    unfold rng
    rw [show ((n : Int) - 0).toNat = n by omega]
    exact List.map_congr_left fun j _ => Int.zero_add _
  rw [e]
  have : ∀ l : List Nat, (∀ j ∈ l, j < n) → compM f () (l.map fun (j : Nat) => (j : Int)) = some (l.map u, ()) := by
    intro l
    induction l with
    | nil => intro _; rfl
    | cons j l ih =>
      intro hl
      rw [List.map_cons]
      exact compM_cons (o := some (u j)) (h j (hl j List.mem_cons_self)) (ih fun i hi => hl i (List.mem_cons_of_mem _ hi))
  exact this _ fun j hj => List.mem_range.mp hj
theorem l_column_ok {n c p k : Nat} {T : Mx} (hn : n ≤ 1000) (hc : c < n) (hp : c ≤ p) (hpn : p < n) (hk : 0 < k) (hk2 : 3 * k ≤ 988) (hT : TB n k T) (h0 : T p c ≠ 0) (hT2 : TB n k (cl (sw T c p) c))
    (F : List (List (Int × Int)) → Int → Option (List (List (Int × Int)))) (hF : ∀ s178 x179, F s178 x179 = (
        Option.bind ((if (!decide (x179 = (c : Int))) = true then (Option.bind (ixL s178 x179) fun t199 => Option.bind (ixL t199 (c : Int)) fun t201 => some ((!decide (t201.1 = (0 : Int))))) else (some (false)))) fun t203 =>
        Option.bind (if t203 = true then
          Option.bind (ixL s178 x179) fun t210 =>
          Option.bind (ixL t210 (c : Int)) fun t212 =>
          Option.bind (ixL s178 x179) fun t214 =>
          Option.bind (ixL t214 (c : Int)) fun t216 =>
          Option.bind (small62 ((n : Int) + (1 : Int))) fun t221 =>
          Option.bind (room ((rng 0 ((n : Int) + (1 : Int)))).length) fun t257 =>
          Option.bind (compM (S := Unit) (β := (Int × Int)) (fun (s223 : Unit) (x230 : Int) => (Option.bind (ixL s178 x179) fun t247 => Option.bind (ixL t247 x230) fun t249 => Option.bind (ixL (rowQ n fun j => sw T c p c j / sw T c p c c) x230) fun t251 => Option.bind (m_l_times ((((0 : Int) - t212.1), t216.2)) t251) fun t253 => Option.bind (m_l_plus t249 t253) fun t255 => some (some t255, ()))) (()) ((rng 0 ((n : Int) + (1 : Int))))) fun t259 =>
          Option.bind (ixO s178.length x179) fun t261 =>
          some ((s178.set t261 t259.1))
        else
          some s178
        ) fun (s207 : (List (List (Int × Int)))) =>
        some s207)) :
    foldO F ((tq n (sw T c p)).set c (rowQ n fun j => sw T c p c j / sw T c p c c)) (rng 0 (n : Int)) = some (tq n (cl (sw T c p) c)) := by
  generalize hU : sw T c p = U at *
  have hUb : TB n k U := by
    subst hU
    exact fun r j hr hj => hT _ j (sr_lt hc hpn hr) hj
  let S : Nat → Mx := fun i r => if r < i ∨ r = c then cl U c r else U r
  have hS0 : (tq n U).set c (rowQ n fun j => U c j / U c c) = tq n (S 0) := by
    rw [tq_set hc]
    refine tq_congr fun r j _ _ => ?_
    show (if r = c then fun j => U c j / U c c else U r) j = (if r < 0 ∨ r = c then cl U c r else U r) j
    by_cases e : r = c
    · rw [if_pos e, if_pos (.inr e)]; unfold cl; rw [if_pos e]
    · rw [if_neg e, if_neg (by omega)]
  have step : ∀ {i : Nat}, i < n → i ≠ c → ∀ {V : Nat → Rat}, (∀ j, j ≤ n → V j = U i j - U i c * (U c j / U c c)) → (tq n (S i)).set i (rowQ n V) = tq n (S (i + 1)) := fun {i} hi e V hV => by
    rw [tq_set hi]
    refine tq_congr fun r j _ hj => ?_
    show (if r = i then V else S i r) j = (if r < i + 1 ∨ r = c then cl U c r else U r) j
    by_cases g : r = i
    · rw [if_pos g, if_pos (by omega), hV j hj]
      unfold cl
      rw [if_neg (by omega), g]
    · rw [if_neg g]
      show (if r < i ∨ r = c then cl U c r else U r) j = _
      by_cases g2 : r < i ∨ r = c
      · rw [if_pos g2, if_pos (by omega)]
      · rw [if_neg g2, if_neg (by omega)]
  have keep : ∀ {i : Nat}, i < n → (i = c ∨ U i c = 0) → tq n (S i) = tq n (S (i + 1)) := fun {i} hi e => tq_congr fun r j _ hj => by
    show (if r < i ∨ r = c then cl U c r else U r) j = (if r < i + 1 ∨ r = c then cl U c r else U r) j
    by_cases g : r < i ∨ r = c
    · rw [if_pos g, if_pos (by omega)]
    · by_cases g2 : r = i
      · rw [if_neg g, if_pos (.inl (by omega))]
        unfold cl
        rw [if_neg (by omega)]
        rcases e with e | e
        · omega
        · rw [g2, e]; grind
      · rw [if_neg g, if_neg (by omega)]
  have si : ∀ {i : Nat}, i ≠ c → S i i = U i := fun {i} e => by
    show (if i < i ∨ i = c then cl U c i else U i) = _
    rw [if_neg (by omega)]
  obtain ⟨s, h1, h2⟩ := y_foldI F (fun i s => s = tq n (S i)) (xs := rng 0 (n : Int)) (s := (tq n U).set c (rowQ n fun j => U c j / U c c)) hS0 (by
    rintro i x s hx rfl
    obtain ⟨e1, e2⟩ := rng_at hx
    have e1 : x = (i : Int) := by omega
    subst e1
    have hi : i < n := by omega
    rw [hF]
    by_cases e : i = c
    · refine ⟨_, bnd (a := false) (by rw [if_neg (by simp [e])]) (bnd (a := tq n (S i)) (by rw [if_neg (by decide)]) rfl), keep hi (.inl e)⟩
    · have ec : decide ((i : Int) = (c : Int)) = false := decide_eq_false (by omega)
      have row : ixL (tq n (S i)) (i : Int) = some (rowQ n (U i)) := by rw [tq_ix hi, si e]
      by_cases z : U i c = 0
      · refine ⟨tq n (S i), bnd (a := false) ?_ (bnd (a := tq n (S i)) (by rw [if_neg (by decide)]) rfl), keep hi (.inr z)⟩
        rw [ec]
        refine (if_pos (by decide)).trans (bnd row (bnd (rowQ_ix (by omega)) ?_))
        rw [nz_dec, decide_eq_true z]
        rfl
      · refine ⟨(tq n (S i)).set i (rowQ n fun j => U i j + -U i c * (U c j / U c c)), bnd (a := true) ?_ (bnd (a := (tq n (S i)).set i (rowQ n fun j => U i j + -U i c * (U c j / U c c))) ?_ rfl), step hi e fun j _ => by grind⟩
        · rw [ec]
          refine (if_pos (by decide)).trans (bnd row (bnd (rowQ_ix (by omega)) ?_))
          rw [nz_dec, decide_eq_false z]
          rfl
        · refine (if_pos rfl).trans (bnd row (bnd (rowQ_ix (by omega)) (bnd row (bnd (rowQ_ix (by omega)) (bnd (small62_s (by omega) (by omega)) (bnd (room_s (by rw [rng_len]; omega)) ?_))))))
          rw [neg_ofQ]
          refine bnd (a := (rowQ n fun j => U i j + -U i c * (U c j / U c c), ())) ?_ (bnd (ixO_s rfl (by rw [tq_len]; exact hi)) rfl)
          refine compM_range (n := n + 1) (u := fun j => ofQ (U i j + -U i c * (U c j / U c c))) fun j hj => ?_
          have hj : j ≤ n := by omega
          have b1 := hUb i j hi hj
          have b2 := bd_neg (hUb i c hi (by omega))
          have b3 : Bd k (U c j / U c c) := by
            have := hT2 c j hc hj
            unfold cl at this
            rwa [if_pos rfl] at this
          exact bnd row (bnd (rowQ_ix hj) (bnd (rowQ_ix hj) (bnd (l_times_q b2 b3 hk hk (by omega)) (bnd (l_plus_q b1 (bd_mul b2 b3) hk (by omega) (by omega)) rfl)))))
  rw [h1, h2]
  refine congrArg some (tq_congr fun r j hr _ => ?_)
  rw [rng_len]
  show (if r < ((n : Int) - 0).toNat ∨ r = c then cl U c r else U r) j = _
  rw [if_pos (by omega)]
theorem l_solve_core {n k : Nat} {rows : List (List Rat)} {right : List Rat} (hn : n ≤ 1000) (hr : rows.length = n) (hr2 : ∀ row ∈ rows, row.length = n) (hb : right.length = n) (hk : 0 < k) (hk2 : 3 * k ≤ 988)
    (size : ∀ {c : Nat} {A' T : Mx} {π : Nat → Nat}, PermOn n π → (∀ r j, r < n → A' r j = augA n rows right (π r) j) → GJ n c A' T → TB n k T) :
    Yes (m_l_solve (rows.map fun row => row.map ofQ) (right.map ofQ)) fun o => match o with
      | none => ∃ x : Nat → Rat, (∃ j, j < n ∧ x j ≠ 0) ∧ ∀ r, r < n → sm n (fun j => (rows.getD r []).getD j 0 * x j) = 0
      | some q => ∃ x : Nat → Rat, q = (List.range n).map (fun r => ofQ (x r)) ∧ (∀ r, r < n → sm n (fun j => (rows.getD r []).getD j 0 * x j) = right.getD r 0) ∧ (∀ r, r < n → Bd k (x r)) ∧
          ∀ y : Nat → Rat, (∀ r, r < n → sm n (fun j => (rows.getD r []).getD j 0 * y j) = 0) → ∀ r, r < n → y r = 0 := by
  let A : Mx := augA n rows right
  have idp : PermOn n id := ⟨fun r h => h, fun s h => ⟨s, h, rfl⟩⟩
  unfold m_l_solve
  rw [List.length_map, hr]
  refine y_eq (small62_s (by omega) (by omega)) (y_eq (room_s (by rw [rng_len]; omega)) (y_eq (a := (tq n A, ())) ?_ ?_))
  · refine compM_range (u := fun r => rowQ n (A r)) fun r hrn => ?_
    have hrow : (rows.getD r []).length = n := by
      rw [List.getD_eq_getElem?_getD, List.getElem?_eq_getElem (by omega)]
      exact hr2 _ (List.getElem_mem _)
    refine bnd (a := (rows.getD r []).map ofQ) (ixL_s (n := r) ?_ rfl) (bnd (a := ofQ (right.getD r 0)) (ixL_s (n := r) ?_ rfl) (bnd (a := rowQ n (A r)) ?_ rfl))
    · rw [List.getElem?_map, List.getD_eq_getElem?_getD, List.getElem?_eq_getElem (by omega)]; rfl
    · rw [List.getElem?_map, List.getD_eq_getElem?_getD, List.getElem?_eq_getElem (by omega)]; rfl
    · unfold catT
      rw [if_pos (by rw [List.length_map, hrow]; simp; omega)]
      refine congrArg some (List.ext_getElem? fun j => ?_)
      unfold rowQ
      rw [List.getElem?_map]
      by_cases hj : j < n
      · rw [List.getElem?_append_left (by rw [List.length_map]; omega), List.getElem?_map, List.getElem?_range (by omega)]
        show _ = some (ofQ (if j < n then (rows.getD r []).getD j 0 else right.getD r 0))
        rw [if_pos hj, List.getD_eq_getElem?_getD (l := rows.getD r []), List.getElem?_eq_getElem (by omega)]; rfl
      · by_cases hj2 : j = n
        · rw [List.getElem?_append_right (by rw [List.length_map]; omega), List.length_map, hrow, hj2, Nat.sub_self, List.getElem?_range (by omega)]
          show _ = some (ofQ (if n < n then (rows.getD r []).getD n 0 else right.getD r 0))
          rw [if_neg (by omega)]; rfl
        · rw [List.getElem?_eq_none (by rw [List.length_append, List.length_map, hrow, List.length_singleton]; omega), List.getElem?_eq_none (by rw [List.length_range]; omega)]; rfl
  · rw [tq_len]
    refine y_eq (small62_s (by omega) (by omega)) ?_
    refine y_bind (Q := fun o => match o with
      | .inl q => ∃ T A' π, q = tq n T ∧ PermOn n π ∧ (∀ r j, r < n → A' r j = A (π r) j) ∧ GJ n n A' T
      | .inr q => q = none ∧ ∃ x : Nat → Rat, (∃ j, j < n ∧ x j ≠ 0) ∧ ∀ r, r < n → sm n (fun j => A r j * x j) = 0) (y_loopR _ (fun c q => ∃ T A' π, q = tq n T ∧ PermOn n π ∧ (∀ r j, r < n → A' r j = A (π r) j) ∧ GJ n c A' T) _ ⟨A, A, id, rfl, idp, fun _ _ _ => rfl, gj_start n A⟩ ?_ ?_) fun o ho => ?_
    · rintro i x q hx ⟨T, A', π, rfl, hp, ha, hg⟩
      obtain ⟨e1, e2⟩ := rng_at hx
      have e1 : x = (i : Int) := by omega
      subst e1
      have hi : i < n := by omega
      refine y_eq (small62_s (by omega) (by omega)) (y_eq (small62_s (by omega) (by omega)) (y_eq (room_s (by rw [rng_len]; omega)) (y_eq (compM_filter (p := fun x => !decide (T x.toNat i = 0)) fun x hx => ?_) ?_)))
      · obtain ⟨m, hm⟩ := List.getElem?_of_mem hx
        obtain ⟨d1, d2⟩ := rng_at hm
        have d1 : x = ((i + m : Nat) : Int) := by omega
        subst d1
        refine bnd (tq_ix (by omega)) (bnd (rowQ_ix (by omega)) ?_)
        rw [nz_dec, Int.toNat_natCast]
      generalize hf : (rng (i : Int) (n : Int)).filter (fun x => !decide (T x.toNat i = 0)) = l
      cases l with
      | nil =>
        refine y_p rfl (y_some ⟨rfl, ?_⟩)
        obtain ⟨x, hx, h1⟩ := gj_fail hg hi fun r h1 h2 => by
          have := List.filter_eq_nil_iff.mp hf (r : Int) (List.mem_map.mpr ⟨r - i, List.mem_range.mpr (by omega), by omega⟩)
          rw [Int.toNat_natCast] at this
          simpa using this
        refine ⟨x, hx, fun r hr => ?_⟩
        obtain ⟨r', hr', rfl⟩ := hp.2 r hr
        exact Eq.trans (sm_congr fun j _ => by rw [ha r' j hr']) (h1 r' hr')
      | cons a l =>
        have ham : a ∈ (rng (i : Int) (n : Int)).filter (fun x => !decide (T x.toNat i = 0)) := by rw [hf]; exact List.mem_cons_self
        obtain ⟨ham, h3⟩ := List.mem_filter.mp ham
        obtain ⟨m, hm⟩ := List.getElem?_of_mem ham
        obtain ⟨d1, d2⟩ := rng_at hm
        obtain ⟨p, hpp⟩ : ∃ p : Nat, p = i + m := ⟨_, rfl⟩
        have d1 : a = (p : Int) := by omega
        subst d1
        rw [Int.toNat_natCast] at h3
        have h3 : T p i ≠ 0 := by simpa using h3
        have h1 : i ≤ p := by omega
        have h2 : p < n := by omega
        have swi : sw T i p i = T p := by
          funext j
          show T (sr i p i) j = _
          unfold sr
          rw [if_pos rfl]
        have hp' : PermOn n fun r => π (sr i p r) := ⟨fun r hr => hp.1 _ (sr_lt hi h2 hr), fun s hs => by
          obtain ⟨r, hr, e⟩ := hp.2 s hs
          exact ⟨sr i p r, sr_lt hi h2 hr, by show π (sr i p (sr i p r)) = s; rw [sr_sr]; exact e⟩⟩
        have ha' : ∀ r j, r < n → sw A' i p r j = A (π (sr i p r)) j := fun r j hr => ha _ j (sr_lt hi h2 hr)
        have hg1 := gj_swap hg hi h1 h2
        have h3' : sw T i p i i ≠ 0 := by rw [swi]; exact h3
        have hg2 := gj_step hg1 hi h3'
        have b0 := size hp ha hg
        have b2 := size hp' ha' hg2
        refine y_n (by simp; omega) (y_eq (ixL_s (n := 0) rfl rfl) (y_eq (tq_ix h2) (y_eq (tq_ix hi) (y_eq (ixL_s (n := 0) rfl rfl) (y_eq (ixO_s rfl (by rw [tq_len]; exact h2)) (y_eq (room_s (by rw [rowQ_len]; omega)) (y_eq (a := (rowQ n fun j => sw T i p i j / sw T i p i i, ())) ?_ ?_)))))))
        · rw [swi]
          have : ∀ l : List Rat, (∀ v ∈ l, Bd k v) → compM (S := Unit) (β := (Int × Int)) (fun (s138 : Unit) (x145 : (Int × Int)) => (Option.bind (ixL (rowQ n (T p)) (i : Int)) fun t162 => Option.bind (m_l_over x145 t162) fun t164 => some (some t164, ()))) (()) (l.map ofQ) = some (l.map fun v => ofQ (v / T p i), ()) := by
            intro l
            induction l with
            | nil => intro _; rfl
            | cons v l ih =>
              intro hl
              rw [List.map_cons]
              exact compM_cons (o := some (ofQ (v / T p i))) (bnd (rowQ_ix (by omega)) (bnd (l_over_q (hl v List.mem_cons_self) (b0 p i h2 (by omega)) h3 hk hk (by omega)) rfl)) (ih fun w hw => hl w (List.mem_cons_of_mem _ hw))
          have e1 : rowQ n (T p) = ((List.range (n + 1)).map (T p)).map ofQ := by unfold rowQ; rw [List.map_map]; rfl
          have e2 : (rowQ n fun j => T p j / T p i) = ((List.range (n + 1)).map (T p)).map fun v => ofQ (v / T p i) := by unfold rowQ; rw [List.map_map]; rfl
          have := this ((List.range (n + 1)).map (T p)) fun v hv => by
            obtain ⟨j, hj, rfl⟩ := List.mem_map.mp hv
            exact b0 p j h2 (by have := List.mem_range.mp hj; omega)
          rw [← e1, ← e2] at this
          exact this
        · refine y_eq (ixO_s rfl (by rw [List.length_set, tq_len]; exact hi)) (y_eq (small62_s (by omega) (by omega)) ?_)
          have esw : ((tq n T).set p (rowQ n (T i))).set i (rowQ n fun j => sw T i p i j / sw T i p i i) = (tq n (sw T i p)).set i (rowQ n fun j => sw T i p i j / sw T i p i i) := by
            rw [tq_set h2, tq_set hi, tq_set hi]
            refine tq_congr fun r j _ _ => ?_
            show (if r = i then fun j => sw T i p i j / sw T i p i i else if r = p then T i else T r) j = (if r = i then fun j => sw T i p i j / sw T i p i i else sw T i p r) j
            by_cases g : r = i
            · rw [if_pos g, if_pos g]
            · rw [if_neg g, if_neg g]
              show (if r = p then T i else T r) j = T (sr i p r) j
              unfold sr
              rw [if_neg g]
              by_cases g2 : r = p
              · rw [if_pos g2, if_pos g2]
              · rw [if_neg g2, if_neg g2]
          show Yes (Option.bind (foldO _ (((tq n T).set p (rowQ n (T i))).set i (rowQ n fun j => sw T i p i j / sw T i p i i)) _) _) _
          rw [esw]
          exact y_eq (l_column_ok hn hi h1 h2 hk hk2 b0 h3 b2 _ fun _ _ => rfl) (y_some ⟨_, _, _, rfl, hp', ha', hg2⟩)
    · rintro q ⟨T, A', π, rfl, hp, ha, hg⟩
      rw [rng_len] at hg
      have e : ((n : Int) - 0).toNat = n := by omega
      rw [e] at hg
      exact ⟨T, A', π, rfl, hp, ha, hg⟩
    · match o, ho with
      | .inr q, ⟨hq, x, hx, h1⟩ =>
        subst hq
        refine y_some ⟨x, hx, fun r hr => ?_⟩
        refine Eq.trans (sm_congr fun j hj => ?_) (h1 r hr)
        show _ = (if j < n then _ else _) * _
        rw [if_pos hj]
      | .inl q, ⟨T, A', π, hq, hp, ha, hg⟩ =>
        subst hq
        refine y_eq (room_s (by rw [tq_len]; omega)) (y_eq (a := ((List.range n).map fun r => ofQ (T r n), ())) ?_ (y_some ⟨fun r => T r n, rfl, ?_, fun r hr => size hp ha hg r n hr (Nat.le_refl _), ?_⟩))
        · unfold tq
          have : ∀ l : List Nat, compM (S := Unit) (β := (Int × Int)) (fun (s204 : Unit) (x211 : (List (Int × Int))) => (Option.bind (ixL x211 ((-(1 : Int)))) fun t228 => some (some t228, ()))) (()) (l.map fun r => rowQ n (T r)) = some (l.map fun r => ofQ (T r n), ()) := by
            intro l
            induction l with
            | nil => rfl
            | cons r l ih =>
              rw [List.map_cons]
              refine compM_cons (o := some (ofQ (T r n))) ?_ ih
              · skip
                refine bnd (a := ofQ (T r n)) ?_ rfl
                unfold ixL atI ixN
                rw [rowQ_len, if_neg (by decide), if_pos (by omega)]
                show (rowQ n (T r))[((-1 : Int) + ((n + 1 : Nat) : Int)).toNat]? = some (ofQ (T r n))
                rw [show ((-1 : Int) + ((n + 1 : Nat) : Int)).toNat = n by omega]
                unfold rowQ
                rw [List.getElem?_map, List.getElem?_range (by omega)]
                rfl
          exact this _
        · intro r hr
          obtain ⟨r', hr', rfl⟩ := hp.2 r hr
          have := (gj_end hg).1 r' hr'
          rw [ha r' n hr'] at this
          have e : A (π r') n = right.getD (π r') 0 := by
            show (if n < n then _ else _) = _
            rw [if_neg (by omega)]
          rw [← e, ← this]
          refine sm_congr fun j hj => ?_
          rw [ha r' j hr']
          show _ = (if j < n then _ else _) * _
          rw [if_pos hj]
        · intro y hy
          refine (gj_end hg).2 y fun r hr => ?_
          refine Eq.trans (sm_congr fun j hj => ?_) (hy (π r) (hp.1 r hr))
          rw [ha r j hr]
          show (if j < n then _ else _) * _ = _
          rw [if_pos hj]
end L3

namespace L3
open PySem L2
/-! ### places of states -/
theorem getI_map {k v y : Int} (h : y ≠ k) : ∀ l : List (Int × Int), getI (l.map fun q => if q.1 = k then (q.1, v) else q) y = getI l y
  | [] => rfl
  | q :: l => by
    show (if (if q.1 = k then (q.1, v) else q).1 = y then some (if q.1 = k then (q.1, v) else q).2 else getI (l.map _) y) = (if q.1 = y then some q.2 else getI l y)
    rw [getI_map h l]
    by_cases e : q.1 = k
    · rw [if_pos e, if_neg (by rw [e]; exact fun z => h z.symm), if_neg (by rw [e]; exact fun z => h z.symm)]
    · rw [if_neg e]
theorem getI_put (k v y : Int) : ∀ kvs : List (Int × Int), getI (putI kvs k v) y = if y = k then some v else getI kvs y
  | [] => by
    show (if k = y then some v else none) = _
    by_cases e : y = k
    · rw [if_pos e, if_pos e.symm]
    · rw [if_neg e, if_neg fun z => e z.symm]; rfl
  | q :: l => by
    unfold putI
    by_cases e : q.1 = k
    · rw [if_pos e]
      show (if q.1 = y then some v else getI (l.map _) y) = if y = k then some v else (if q.1 = y then some q.2 else getI l y)
      by_cases e2 : y = k
      · rw [if_pos e2, if_pos (by rw [e, e2])]
      · rw [if_neg e2, if_neg (by rw [e]; exact fun z => e2 z.symm), if_neg (by rw [e]; exact fun z => e2 z.symm), getI_map e2]
    · rw [if_neg e]
      show (if q.1 = y then some q.2 else getI (putI l k v) y) = if y = k then some v else (if q.1 = y then some q.2 else getI l y)
      rw [getI_put k v y l]
      by_cases e2 : q.1 = y
      · rw [if_pos e2, if_pos e2, if_neg fun z => e (e2.trans z)]
      · rw [if_neg e2, if_neg e2]
theorem places_of {U : List Int} (hU : U.Nodup) : ∃ kvs, dcM (fun (x16 : (Int × Int)) => ( some (x16.2, x16.1))) [] (enumI 0 U) = some kvs ∧ ∀ y, getI kvs y = if y ∈ U then some ((U.idxOf y : Nat) : Int) else none := by
  have : ∀ (U : List Int) (n : Nat) (kvs : List (Int × Int)), U.Nodup → ∃ kvs', dcM (fun (x16 : (Int × Int)) => ( some (x16.2, x16.1))) kvs (enumI n U) = some kvs' ∧ ∀ y, getI kvs' y = if y ∈ U then some ((n + U.idxOf y : Nat) : Int) else getI kvs y := by
    intro U
    induction U with
    | nil => exact fun n kvs _ => ⟨kvs, rfl, fun y => by rw [if_neg (by simp)]⟩
    | cons u U ih =>
      intro n kvs hU
      obtain ⟨h1, h2⟩ := List.nodup_cons.mp hU
      obtain ⟨kvs', e1, e2⟩ := ih (n + 1) (putI kvs u (n : Int)) h2
      refine ⟨kvs', e1, fun y => ?_⟩
      rw [e2, getI_put, List.idxOf_cons]
      by_cases e : y = u
      · subst e
        rw [if_neg h1, if_pos rfl, if_pos List.mem_cons_self]
        simp
      · have ne : (u == y) = false := by simp; exact fun z => e z.symm
        by_cases m : y ∈ U
        · rw [if_pos m, if_pos (List.mem_cons_of_mem _ m), ne]
          simp only [cond_false]
          congr 2
          omega
        · rw [if_neg m, if_neg e, if_neg (by simp [e, m])]
  obtain ⟨kvs, h1, h2⟩ := this U 0 [] hU
  refine ⟨kvs, h1, fun y => ?_⟩
  rw [h2, Nat.zero_add]
  rfl
theorem idxI_of {y : Int} : ∀ {U : List Int}, y ∈ U → idxI U y = some ((U.idxOf y : Nat) : Int)
  | u :: U, h => by
    unfold idxI
    rw [List.idxOf_cons]
    by_cases e : u = y
    · rw [if_pos e]; simp [e]
    · have ne : (u == y) = false := by simpa using e
      have m : y ∈ U := by
        rcases List.mem_cons.mp h with z | z
        · exact absurd z.symm e
        · exact z
      rw [if_neg e, idxI_of m, ne]
      simp
theorem at_idx {β : Type} {U : List Int} {y : Int} (h : y ∈ U) (f : Int → β) : ixL (U.map f) ((U.idxOf y : Nat) : Int) = some (f y) := by
  have hl := List.idxOf_lt_length_of_mem h
  refine ixL_s (n := U.idxOf y) ?_ rfl
  rw [List.getElem?_map, List.getElem?_eq_getElem hl, List.getElem_idxOf]
  rfl
theorem map_set {β : Type} {U : List Int} (hU : U.Nodup) {y : Int} (h : y ∈ U) (f : Int → β) (v : β) : (U.map f).set (U.idxOf y) v = U.map fun x => if x = y then v else f x := by
  have hl := List.idxOf_lt_length_of_mem h
  refine List.ext_getElem? fun i => ?_
  rw [List.getElem?_set, List.getElem?_map, List.getElem?_map, List.length_map]
  by_cases e : U.idxOf y = i
  · rw [if_pos e, if_pos (by omega), ← e, List.getElem?_eq_getElem hl, List.getElem_idxOf]
    simp
  · rw [if_neg e]
    cases g : U[i]? with
    | none => rfl
    | some x =>
      show some (f x) = some (if x = y then v else f x)
      rw [if_neg]
      intro z
      subst z
      obtain ⟨hi, g⟩ := List.getElem?_eq_some_iff.mp g
      refine e ?_
      exact (List.getElem_inj hU).mp ((List.getElem_idxOf hl).trans g.symm)
end L3

namespace L3
open PySem L2
/-! ### the equations of a chain, one row -/
def pE (w : Nat) : List (Int × Int) → Int → Rat
  | [], _ => 0
  | q :: e, y => (if q.1 = y then (q.2 : Rat) / (w : Rat) else 0) + pE w e y
def kE (w : Nat) (U : List Int) (kn : Int → Rat) : List (Int × Int) → Rat
  | [] => 0
  | q :: e => (if q.1 ∈ U then 0 else (q.2 : Rat) / (w : Rat) * kn q.1) + kE w U kn e
def UR (U : List Int) (f : Int → Rat) : List (Int × Int) := U.map fun y => ofQ (f y)
theorem ur_len {U : List Int} {f : Int → Rat} : (UR U f).length = U.length := List.length_map ..
theorem isI_bd {A S k : Nat} {x : Rat} (h : IsI A ((S : Rat) * x)) (hS : 1 ≤ S) (hA : A < 2 ^ k) (hS2 : S < 2 ^ k) : Bd k x := by
  obtain ⟨z, h1, h2⟩ := h
  have s0 : (S : Rat) ≠ 0 := fun z => by
    have : S = 0 := by exact_mod_cast z
    omega
  refine fr_bd (P := A) (S := S) ⟨z, (S : Int), by omega, ?_, h2, by simp⟩ hA hS2
  rw [← h1]
  have : (((S : Nat) : Int) : Rat) = (S : Rat) := by push_cast; rfl
  rw [this]
  grind
theorem nat_ne {w : Nat} (h : 1 ≤ w) : (w : Rat) ≠ 0 := fun z => by
  have : w = 0 := by exact_mod_cast z
  omega
/-- the weights of a row -/
structure RowOk (n w : Nat) (e : List (Int × Int)) : Prop where
  r : ∀ q ∈ e, 0 ≤ q.1 ∧ q.1 < (n : Int) ∧ 1 ≤ q.2
  s : wsum e = (w : Int)
theorem isI_step {w B : Nat} {x : Rat} {v : Int} (hw : 1 ≤ w) (hv : 0 ≤ v) (h : IsI (w + B) ((w : Rat) * x)) : IsI (w + (B + v.toNat)) ((w : Rat) * (x - (v : Rat) / (w : Rat))) := by
  have := nat_ne hw
  have h2 : IsI v.toNat (-(v : Rat)) := ⟨-v, by push_cast; rfl, by omega⟩
  have e : (w : Rat) * (x - (v : Rat) / (w : Rat)) = (w : Rat) * x + -(v : Rat) := by grind
  rw [e, ← Nat.add_assoc]
  exact isI_add h h2
theorem eq_fold {U : List Int} {d : List (Int × Int)} {known : List (Int × Int)} {kn : Int → Rat} {n w L C a b : Nat} (hU : U.Nodup) (hd : ∀ y, getI d y = if y ∈ U then some ((U.idxOf y : Nat) : Int) else none)
    (hkn : ∀ y, 0 ≤ y → y < (n : Int) → ixL known y = some (ofQ (kn y)) ∧ IsI (L * C) ((L : Rat) * kn y)) (hw : 1 ≤ w) (hL : 1 ≤ L) (hC : 1 ≤ C) (ha : 2 * w < 2 ^ a) (hb : 2 * w * (L * C) < 2 ^ b) (ha0 : 0 < a) (hb0 : 0 < b) (hab : a + b ≤ 1500)
    (F : ((Int × Int) × (List (Int × Int))) → (Int × Int) → Option ((Int × Int) × (List (Int × Int)))) (hF : ∀ s104 x105, F s104 x105 = (
      Option.bind (m_ratio x105.2 (w : Int)) fun t132 =>
      Option.bind (if ((getI d x105.1).isSome) = true then
        Option.bind (getI d x105.1) fun t141 =>
        Option.bind (ixL s104.2 t141) fun t143 =>
        Option.bind (m_minus t143 t132) fun t145 =>
        Option.bind (getI d x105.1) fun t147 =>
        Option.bind (ixO s104.2.length t147) fun t149 =>
        some ((s104.1, (s104.2.set t149 t145)))
      else
        Option.bind (ixL known x105.1) fun t153 =>
        Option.bind (m_times t132 t153) fun t155 =>
        Option.bind (m_plus s104.1 t155) fun t157 =>
        some ((t157, s104.2))
      ) fun (s138 : ((Int × Int) × (List (Int × Int)))) =>
      some ((s138.1, s138.2)))) :
    ∀ (e : List (Int × Int)) (f : Int → Rat) (g : Rat) (B : Nat), (∀ q ∈ e, 0 ≤ q.1 ∧ q.1 < (n : Int) ∧ 1 ≤ q.2) → (∀ y, y ∈ U → IsI (w + B) ((w : Rat) * f y)) → IsI ((w + B) * (L * C)) (((w * L : Nat) : Rat) * g) → (B : Int) + wsum e ≤ w →
      foldO F (ofQ g, UR U f) e = some (ofQ (g + kE w U kn e), UR U fun y => f y - pE w e y) ∧ (∀ y, y ∈ U → IsI (2 * w) ((w : Rat) * (f y - pE w e y))) ∧ IsI (2 * w * (L * C)) (((w * L : Nat) : Rat) * (g + kE w U kn e)) := by
  have w0 := nat_ne hw
  have l0 := nat_ne hL
  have LC : 1 ≤ L * C := Nat.mul_pos hL hC
  have wb : ∀ {B : Nat}, B ≤ w → (w + B) * (L * C) ≤ 2 * w * (L * C) := fun {B} h => Nat.mul_le_mul_right _ (by omega)
  have wL : w * L < 2 ^ b := by
    refine Nat.lt_of_le_of_lt ?_ hb
    have h1 : w * L ≤ w * (L * C) := Nat.mul_le_mul_left _ (Nat.le_mul_of_pos_right _ hC)
    have h2 : w * (L * C) ≤ 2 * w * (L * C) := Nat.mul_le_mul_right _ (by omega)
    omega
  intro e
  induction e with
  | nil =>
    intro f g B _ hf hg hB
    have hB : B ≤ w := by
      have : wsum [] = 0 := rfl
      omega
    refine ⟨?_, fun y hy => ?_, ?_⟩
    · show some (ofQ g, UR U f) = some (ofQ (g + 0), UR U fun y => f y - 0)
      rw [Rat.add_zero]
      have : (fun y => f y - 0) = f := funext fun y => by grind
      rw [this]
    · show IsI _ ((w : Rat) * (f y - 0))
      rw [show f y - 0 = f y by grind]
      exact isI_up (hf y hy) (by omega)
    · show IsI _ (((w * L : Nat) : Rat) * (g + 0))
      rw [Rat.add_zero]
      exact isI_up hg (wb hB)
  | cons q e ih =>
    intro f g B he hf hg hB
    obtain ⟨q0, q1, q2⟩ := he q List.mem_cons_self
    have he' := fun p hp => he p (List.mem_cons_of_mem _ hp)
    have hsum : wsum (q :: e) = q.2 + wsum e := by show (List.map _ (q :: e)).sum = _; rw [List.map_cons, List.sum_cons]
    have se : 0 ≤ wsum e := by
      have : ∀ l : List (Int × Int), (∀ q ∈ l, 0 ≤ q.1 ∧ q.1 < (n : Int) ∧ 1 ≤ q.2) → 0 ≤ wsum l := by
        intro l
        induction l with
        | nil => intro _; exact Int.le_refl 0
        | cons p l ih =>
          intro h
          have h1 := ih fun z hz => h z (List.mem_cons_of_mem _ hz)
          have h2 := (h p List.mem_cons_self).2.2
          have : wsum (p :: l) = p.2 + wsum l := by show (List.map _ (p :: l)).sum = _; rw [List.map_cons, List.sum_cons]
          omega
      exact this e he'
    rw [hsum] at hB
    have hq2 : q.2.toNat ≤ w := by omega
    have hBw : B ≤ w := by omega
    have hB' : ((B + q.2.toNat : Nat) : Int) + wsum e ≤ w := by omega
    have hr : m_ratio q.2 (w : Int) = some (ofQ ((q.2 : Rat) / (w : Rat))) := by
      rw [ratio_ok (by omega) (by
        rw [Int.natAbs_natCast]
        refine Nat.lt_of_lt_of_le (show w < 2 ^ a by omega) (Nat.pow_le_pow_right (by decide) (by omega))), rat_ofQ (by omega), Rat.divInt_eq_div]
      have : (((w : Nat) : Int) : Rat) = (w : Rat) := by push_cast; rfl
      rw [this]
    have bq : Bd a ((q.2 : Rat) / (w : Rat)) := by
      refine isI_bd (A := w) (S := w) ⟨q.2, by grind, by omega⟩ hw (by omega) (by omega)
    by_cases m : q.1 ∈ U
    · -- an unknown end
      have hf' : ∀ y, y ∈ U → IsI (w + (B + q.2.toNat)) ((w : Rat) * (if y = q.1 then f q.1 - (q.2 : Rat) / (w : Rat) else f y)) := fun y hy => by
        by_cases z : y = q.1
        · rw [if_pos z]; exact isI_step hw (by omega) (hf q.1 m)
        · rw [if_neg z]; exact isI_up (hf y hy) (by omega)
      obtain ⟨i1, i2, i3⟩ := ih (fun y => if y = q.1 then f q.1 - (q.2 : Rat) / (w : Rat) else f y) g (B + q.2.toNat) he' hf' (isI_up hg (Nat.mul_le_mul_right _ (by omega))) hB'
      have er : ∀ y, (if y = q.1 then f q.1 - (q.2 : Rat) / (w : Rat) else f y) - pE w e y = f y - pE w (q :: e) y := fun y => by
        show _ = f y - ((if q.1 = y then (q.2 : Rat) / (w : Rat) else 0) + pE w e y)
        by_cases z : y = q.1
        · rw [if_pos z, if_pos z.symm, z]; grind
        · rw [if_neg z, if_neg fun h => z h.symm]; grind
      have ek : g + kE w U kn e = g + kE w U kn (q :: e) := by
        show _ = g + ((if q.1 ∈ U then 0 else _) + kE w U kn e)
        rw [if_pos m]; grind
      rw [show (fun y => (if y = q.1 then f q.1 - (q.2 : Rat) / (w : Rat) else f y) - pE w e y) = fun y => f y - pE w (q :: e) y from funext er, ek] at i1
      rw [ek] at i3
      refine ⟨foldO_cons ?_ i1, fun y hy => by rw [← er]; exact i2 y hy, i3⟩
      rw [hF]
      refine bnd hr ?_
      have hg1 : getI d q.1 = some ((U.idxOf q.1 : Nat) : Int) := by rw [hd, if_pos m]
      refine bnd (a := (ofQ g, UR U fun y => if y = q.1 then f q.1 - (q.2 : Rat) / (w : Rat) else f y)) ?_ rfl
      refine (if_pos (by rw [hg1]; rfl)).trans (bnd hg1 (bnd (at_idx m _) (bnd (minus_q (isI_bd (hf q.1 m) hw (show w + B < 2 ^ a by omega) (by omega)) bq ha0 ha0 (by omega)) (bnd hg1 (bnd (ixO_s rfl (by rw [ur_len]; exact List.idxOf_lt_length_of_mem m)) ?_)))))
      unfold UR
      rw [map_set hU m]
      refine congrArg some (Prod.ext rfl (List.map_congr_left fun y _ => ?_))
      show (if y = q.1 then ofQ (f q.1 - (q.2 : Rat) / (w : Rat)) else ofQ (f y)) = ofQ (if y = q.1 then f q.1 - (q.2 : Rat) / (w : Rat) else f y)
      by_cases z : y = q.1
      · rw [if_pos z, if_pos z]
      · rw [if_neg z, if_neg z]
    · -- a known end
      obtain ⟨k1, k2⟩ := hkn q.1 q0 q1
      have hg' : IsI ((w + (B + q.2.toNat)) * (L * C)) (((w * L : Nat) : Rat) * (g + (q.2 : Rat) / (w : Rat) * kn q.1)) := by
        have e1 : ((w * L : Nat) : Rat) * (g + (q.2 : Rat) / (w : Rat) * kn q.1) = ((w * L : Nat) : Rat) * g + (q.2 : Rat) * ((L : Rat) * kn q.1) := by
          push_cast
          grind
        rw [e1, ← Nat.add_assoc, Nat.add_mul]
        exact isI_add hg (isI_mul ⟨q.2, rfl, by omega⟩ k2)
      obtain ⟨i1, i2, i3⟩ := ih f (g + (q.2 : Rat) / (w : Rat) * kn q.1) (B + q.2.toNat) he' (fun y hy => isI_up (hf y hy) (by omega)) hg' hB'
      have er : ∀ y, q.1 ≠ y → f y - pE w e y = f y - pE w (q :: e) y := fun y hy => by
        show _ = f y - ((if q.1 = y then (q.2 : Rat) / (w : Rat) else 0) + pE w e y)
        rw [if_neg hy]; grind
      have ek : g + (q.2 : Rat) / (w : Rat) * kn q.1 + kE w U kn e = g + kE w U kn (q :: e) := by
        show _ = g + ((if q.1 ∈ U then 0 else _) + kE w U kn e)
        rw [if_neg m]; grind
      rw [ek] at i1 i3
      have eu : (UR U fun y => f y - pE w e y) = UR U fun y => f y - pE w (q :: e) y := List.map_congr_left fun y hy => congrArg ofQ (er y fun z => m (z ▸ hy))
      rw [eu] at i1
      refine ⟨foldO_cons ?_ i1, fun y hy => ?_, i3⟩
      · rw [hF]
        refine bnd hr ?_
        have hg1 : getI d q.1 = none := by rw [hd, if_neg m]
        refine bnd (a := (ofQ (g + (q.2 : Rat) / (w : Rat) * kn q.1), UR U f)) ?_ rfl
        have bk : Bd b (kn q.1) := isI_bd k2 hL (Nat.lt_of_le_of_lt (Nat.le_mul_of_pos_left _ (by omega)) hb) (Nat.lt_of_le_of_lt (Nat.le_mul_of_pos_left _ hw) wL)
        have bg : Bd b g := isI_bd hg (Nat.mul_pos hw hL) (Nat.lt_of_le_of_lt (wb hBw) hb) wL
        exact (if_neg (by rw [hg1]; decide)).trans (bnd k1 (bnd (times_q bq bk ha0 hb0 (by omega)) (bnd (plus_q bg (bd_mul bq bk) hb0 (by omega) (by omega)) rfl)))
      · rw [← er y fun z => m (z ▸ hy)]; exact i2 y hy
end L3

namespace L3
open PySem L2
/-- a chain: one choice a state -/
structure ChOk (n : Nat) (sys : List (List (Int × List (Int × Int)))) (c : Int → Int × List (Int × Int)) : Prop where
  len : sys.length = n
  ix : ∀ x, 0 ≤ x → x < (n : Int) → ixL sys x = some [c x]
  we : ∀ x, 0 ≤ x → x < (n : Int) → WE (c x).2
  r : ∀ x, 0 ≤ x → x < (n : Int) → ∀ q ∈ (c x).2, 0 ≤ q.1 ∧ q.1 < (n : Int)
def wN (c : Int × List (Int × Int)) : Nat := (wsum c.2).toNat
def aE (c : Int → Int × List (Int × Int)) (x y : Int) : Rat := (if y = x then 1 else 0) - pE (wN (c x)) (c x).2 y
def bE (c : Int → Int × List (Int × Int)) (U : List Int) (kn ex : Int → Rat) (x : Int) : Rat := ex x + kE (wN (c x)) U kn (c x).2
theorem wN_pos {e : List (Int × Int)} {k : Int} (h : WE e) : 1 ≤ wN (k, e) ∧ wsum e = (wN (k, e) : Int) := by
  have := we_sum h
  unfold wN
  show 1 ≤ (wsum e).toNat ∧ wsum e = ((wsum e).toNat : Int)
  omega
theorem equations_ok {sys : List (List (Int × List (Int × Int)))} {c : Int → Int × List (Int × Int)} {U : List Int} {known extra : List (Int × Int)} {kn ex : Int → Rat} {n Wm L C a b : Nat} (hc : ChOk n sys c) (hn : n ≤ 1000) (hU : U.Nodup) (hUr : ∀ x ∈ U, 0 ≤ x ∧ x < (n : Int)) (hlen : U.length ≤ 1000)
    (hkn : ∀ y, 0 ≤ y → y < (n : Int) → ixL known y = some (ofQ (kn y)) ∧ IsI (L * C) ((L : Rat) * kn y)) (hex : ∀ x ∈ U, ixL extra x = some (ofQ (ex x)) ∧ IsI (L * C) ((L : Rat) * ex x)) (hW : ∀ x ∈ U, wN (c x) ≤ Wm) (hL : 1 ≤ L) (hC : 1 ≤ C) (ha : 2 * Wm < 2 ^ a) (hb : 2 * Wm * (L * C) < 2 ^ b) (ha0 : 0 < a) (hb0 : 0 < b) (hab : a + b ≤ 1500) :
    m_equations sys U known extra = some (U.map (fun x => UR U (aE c x)), U.map fun x => ofQ (bE c U kn ex x)) ∧ (∀ x ∈ U, ∀ y ∈ U, IsI (2 * wN (c x)) ((wN (c x) : Rat) * aE c x y)) ∧ ∀ x ∈ U, IsI (2 * wN (c x) * (L * C)) (((wN (c x) * L : Nat) : Rat) * bE c U kn ex x) := by
  obtain ⟨d, hd1, hd⟩ := places_of hU
  have one : ∀ x ∈ U, ∀ (F : ((Int × Int) × (List (Int × Int))) → (Int × Int) → Option ((Int × Int) × (List (Int × Int)))) (hF : ∀ s104 x105, F s104 x105 = (
      Option.bind (m_ratio x105.2 (wN (c x) : Int)) fun t132 =>
      Option.bind (if ((getI d x105.1).isSome) = true then
        Option.bind (getI d x105.1) fun t141 =>
        Option.bind (ixL s104.2 t141) fun t143 =>
        Option.bind (m_minus t143 t132) fun t145 =>
        Option.bind (getI d x105.1) fun t147 =>
        Option.bind (ixO s104.2.length t147) fun t149 =>
        some ((s104.1, (s104.2.set t149 t145)))
      else
        Option.bind (ixL known x105.1) fun t153 =>
        Option.bind (m_times t132 t153) fun t155 =>
        Option.bind (m_plus s104.1 t155) fun t157 =>
        some ((t157, s104.2))
      ) fun (s138 : ((Int × Int) × (List (Int × Int)))) =>
      some ((s138.1, s138.2)))), foldO F (ofQ (ex x), UR U fun y => if y = x then 1 else 0) (c x).2 = some (ofQ (bE c U kn ex x), UR U (aE c x)) ∧ (∀ y, y ∈ U → IsI (2 * wN (c x)) ((wN (c x) : Rat) * aE c x y)) ∧ IsI (2 * wN (c x) * (L * C)) (((wN (c x) * L : Nat) : Rat) * bE c U kn ex x) := fun x hx F hF => by
    obtain ⟨x0, x1⟩ := hUr x hx
    have we := hc.we x x0 x1
    obtain ⟨w1, w2⟩ : 1 ≤ wN (c x) ∧ wsum (c x).2 = (wN (c x) : Int) := wN_pos we
    have wm := hW x hx
    have hwm : 2 * wN (c x) * (L * C) ≤ 2 * Wm * (L * C) := Nat.mul_le_mul_right _ (by omega)
    have hx2 := (hex x hx).2
    refine eq_fold (n := n) hU hd hkn w1 hL hC (show 2 * wN (c x) < 2 ^ a by omega) (show 2 * wN (c x) * (L * C) < 2 ^ b by omega) ha0 hb0 hab F hF (c x).2 _ _ 0 (fun q hq => ⟨(hc.r x x0 x1 q hq).1, (hc.r x x0 x1 q hq).2, (we.2.2 q hq).1⟩) (fun y hy => ?_) ?_ (by show (0 : Int) + wsum (c x).2 ≤ (wN (c x) : Int); rw [w2]; show (0 : Int) + (wN (c x) : Int) ≤ _; omega)
    · split
      · exact ⟨(wN (c x) : Int), by push_cast; grind, by omega⟩
      · exact ⟨0, by push_cast; grind, by simp⟩
    · have : ((wN (c x) * L : Nat) : Rat) * ex x = (wN (c x) : Rat) * ((L : Rat) * ex x) := by push_cast; grind
      rw [this, Nat.add_zero]
      exact isI_mul ⟨(wN (c x) : Int), by push_cast; rfl, by omega⟩ hx2
  refine ⟨?_, fun x hx => (one x hx _ fun _ _ => rfl).2.1, fun x hx => (one x hx _ fun _ _ => rfl).2.2⟩
  unfold m_equations
  refine bnd (room_s (by rw [enumI_len]; omega)) (bnd hd1 ?_)
  refine bnd (a := (U.map fun x => ofQ (bE c U kn ex x), U.map fun x => UR U (aE c x))) ?_ rfl
  have : ∀ (l : List Int) (R : List (Int × Int)) (M : List (List (Int × Int))) (F : ((List (Int × Int)) × (List (List (Int × Int)))) → Int → Option ((List (Int × Int)) × (List (List (Int × Int))))), (∀ x ∈ l, x ∈ U) → R.length + l.length ≤ 1000 → M.length + l.length ≤ 1000 → (∀ x ∈ U, ∀ R M, R.length ≤ 1000 → M.length ≤ 1000 → F (R, M) x = some (R ++ [ofQ (bE c U kn ex x)], M ++ [UR U (aE c x)])) → foldO F (R, M) l = some (R ++ l.map (fun x => ofQ (bE c U kn ex x)), M ++ l.map fun x => UR U (aE c x)) := by
    intro l
    induction l with
    | nil => intro R M F _ _ _ _; show some (R, M) = some (R ++ [], M ++ []); rw [List.append_nil, List.append_nil]
    | cons x l ih =>
      intro R M F hl h1 h2 hF
      rw [List.length_cons] at h1 h2
      refine foldO_cons (hF x (hl x List.mem_cons_self) R M (by omega) (by omega)) ?_
      rw [ih _ _ F (fun y hy => hl y (List.mem_cons_of_mem _ hy)) (by rw [List.length_append, List.length_singleton]; omega) (by rw [List.length_append, List.length_singleton]; omega) hF]
      rw [List.append_assoc, List.append_assoc]
      rfl
  refine Eq.trans (this U [] [] _ (fun x hx => hx) (by simp; omega) (by simp; omega) fun x hx R M hR hM => ?_) rfl
  obtain ⟨x0, x1⟩ := hUr x hx
  have hdx : getI d x = some ((U.idxOf x : Nat) : Int) := by rw [hd, if_pos hx]
  have we := hc.we x x0 x1
  obtain ⟨w1, w2⟩ : 1 ≤ wN (c x) ∧ wsum (c x).2 = (wN (c x) : Int) := wN_pos we
  refine bnd (hc.ix x x0 x1) (bnd (ixL_s (n := 0) rfl rfl) (bnd (total_ok we) (bnd (repL_s (by omega)) (bnd hdx (bnd (ixO_s rfl (by rw [rep_flat, List.length_replicate]; exact List.idxOf_lt_length_of_mem hx)) (bnd (hex x hx).1 ?_))))))
  have e0 : ((List.replicate U.length [((0 : Int), (1 : Int))]).flatten).set (U.idxOf x) ((1 : Int), (1 : Int)) = UR U fun y => if y = x then 1 else 0 := by
    rw [rep_flat, show List.replicate U.length ((0 : Int), (1 : Int)) = U.map fun _ => ((0 : Int), (1 : Int)) by rw [List.map_const'], map_set hU hx]
    refine List.map_congr_left fun y _ => ?_
    show (if y = x then ((1 : Int), (1 : Int)) else ((0 : Int), (1 : Int))) = ofQ (if y = x then 1 else 0)
    split
    · exact ofQ_1.symm
    · exact ofQ_0.symm
  rw [e0, w2]
  refine bnd (one x hx _ fun _ _ => rfl).1 (bnd (room_s (by show M.length ≤ _; omega)) (bnd (room_s (by show R.length ≤ _; omega)) rfl))
end L3

namespace L3
open PySem L2
/-! ### values that are the mean of the values of the ends: there is only one way -/
def sE : List (Int × Int) → (Int → Rat) → Rat
  | [], _ => 0
  | q :: e, f => (q.2 : Rat) * f q.1 + sE e f
inductive Out (U : List Int) (c : Int → Int × List (Int × Int)) : Int → Prop
  | out {x : Int} : x ∉ U → Out U c x
  | step {x : Int} {q : Int × Int} : q ∈ (c x).2 → Out U c q.1 → Out U c x
theorem list_max : ∀ {U : List Int} (d : Int → Rat), U ≠ [] → ∃ x ∈ U, ∀ y ∈ U, d y ≤ d x
  | [u], d, _ => ⟨u, List.mem_cons_self, fun y hy => by rw [List.mem_singleton.mp hy]; exact Rat.le_refl⟩
  | u :: u' :: U, d, _ => by
    obtain ⟨x, hx, h⟩ := list_max (U := u' :: U) d (by simp)
    by_cases g : d u ≤ d x
    · refine ⟨x, List.mem_cons_of_mem _ hx, fun y hy => ?_⟩
      rcases List.mem_cons.mp hy with rfl | hy
      · exact g
      · exact h y hy
    · refine ⟨u, List.mem_cons_self, fun y hy => ?_⟩
      rcases List.mem_cons.mp hy with rfl | hy
      · exact Rat.le_refl
      · have := h y hy
        grind
theorem sE_le {m : Rat} {d : Int → Rat} (h : ∀ y, d y ≤ m) : ∀ {e : List (Int × Int)}, (∀ q ∈ e, 1 ≤ q.2) → sE e d ≤ (wsum e : Rat) * m ∧ (sE e d = (wsum e : Rat) * m → ∀ q ∈ e, d q.1 = m)
  | [], _ => ⟨by show (0 : Rat) ≤ ((0 : Int) : Rat) * m; grind, fun _ q hq => by simp at hq⟩
  | q :: e, hq => by
    obtain ⟨h1, h2⟩ := sE_le h (e := e) fun p hp => hq p (List.mem_cons_of_mem _ hp)
    have p1 : (1 : Rat) ≤ (q.2 : Rat) := by exact_mod_cast hq q List.mem_cons_self
    have hs : ((wsum (q :: e) : Int) : Rat) = (q.2 : Rat) + (wsum e : Rat) := by
      have : wsum (q :: e) = q.2 + wsum e := by show (List.map _ (q :: e)).sum = _; rw [List.map_cons, List.sum_cons]
      rw [this]; push_cast; rfl
    have hd := h q.1
    have h3 : (q.2 : Rat) * d q.1 ≤ (q.2 : Rat) * m := Rat.mul_le_mul_of_nonneg_left hd (by grind)
    have e1 : sE (q :: e) d = (q.2 : Rat) * d q.1 + sE e d := rfl
    rw [e1, hs]
    refine ⟨by grind, fun z p hp => ?_⟩
    have z1 : (q.2 : Rat) * d q.1 = (q.2 : Rat) * m := by grind
    have z2 : sE e d = (wsum e : Rat) * m := by grind
    rcases List.mem_cons.mp hp with rfl | hp
    · have : (p.2 : Rat) * (d p.1 - m) = 0 := by grind
      rcases Rat.mul_eq_zero.mp this with h | h <;> grind
    · exact h2 z2 p hp
/-- the greatest principle -/
theorem max_le {U : List Int} {c : Int → Int × List (Int × Int)} {d : Int → Rat} (hw : ∀ x ∈ U, WE (c x).2) (h0 : ∀ y, y ∉ U → d y = 0) (he : ∀ x ∈ U, (wsum (c x).2 : Rat) * d x = sE (c x).2 d) (ho : ∀ x ∈ U, Out U c x) : ∀ x ∈ U, d x ≤ 0 := by
  intro x hx
  refine Classical.byContradiction fun hn => ?_
  obtain ⟨t, ht, hmax⟩ := list_max d (List.ne_nil_of_mem hx)
  have hpos : 0 < d t := by have := hmax x hx; grind
  have all : ∀ y, d y ≤ d t := fun y => by
    by_cases g : y ∈ U
    · exact hmax y g
    · rw [h0 y g]; grind
  have none : ∀ y, Out U c y → d y ≠ d t := fun y hy => by
    induction hy with
    | out h => rw [h0 _ h]; grind
    | @step z q hq _ ih =>
      intro hz
      by_cases g : z ∈ U
      · have h1 := he z g
        rw [hz] at h1
        exact ih ((sE_le all fun p hp => ((hw z g).2.2 p hp).1).2 h1.symm q hq)
      · rw [h0 z g] at hz; grind
  exact none t (ho t ht) rfl
theorem sE_neg {d : Int → Rat} : ∀ {e : List (Int × Int)}, sE e (fun y => -d y) = - sE e d
  | [] => by show (0 : Rat) = -0; grind
  | q :: e => by
    show (q.2 : Rat) * -d q.1 + sE e (fun y => -d y) = -((q.2 : Rat) * d q.1 + sE e d)
    rw [sE_neg]; grind
theorem sE_sub {f g : Int → Rat} : ∀ {e : List (Int × Int)}, sE e (fun y => f y - g y) = sE e f - sE e g
  | [] => by show (0 : Rat) = 0 - 0; grind
  | q :: e => by
    show (q.2 : Rat) * (f q.1 - g q.1) + sE e (fun y => f y - g y) = ((q.2 : Rat) * f q.1 + sE e f) - ((q.2 : Rat) * g q.1 + sE e g)
    rw [sE_sub]; grind
theorem ker_zero {U : List Int} {c : Int → Int × List (Int × Int)} {d : Int → Rat} (hw : ∀ x ∈ U, WE (c x).2) (h0 : ∀ y, y ∉ U → d y = 0) (he : ∀ x ∈ U, (wsum (c x).2 : Rat) * d x = sE (c x).2 d) (ho : ∀ x ∈ U, Out U c x) : ∀ x, d x = 0 := fun x => by
  by_cases g : x ∈ U
  · have h1 := max_le hw h0 he ho x g
    have h2 := max_le (d := fun y => -d y) hw (fun y hy => by rw [h0 y hy]; grind) (fun z hz => by rw [sE_neg, ← he z hz]; grind) ho x g
    grind
  · exact h0 x g
/-- the one way -/
theorem one_way {U : List Int} {c : Int → Int × List (Int × Int)} {ex u v : Int → Rat} (hw : ∀ x ∈ U, WE (c x).2) (h0 : ∀ y, y ∉ U → u y = v y) (hu : ∀ x ∈ U, (wsum (c x).2 : Rat) * (u x - ex x) = sE (c x).2 u) (hv : ∀ x ∈ U, (wsum (c x).2 : Rat) * (v x - ex x) = sE (c x).2 v) (ho : ∀ x ∈ U, Out U c x) : ∀ x, u x = v x := fun x => by
  have := ker_zero (d := fun y => u y - v y) hw (fun y hy => by rw [h0 y hy]; grind) (fun z hz => by
    rw [sE_sub]
    have a1 := hu z hz
    have a2 := hv z hz
    grind) ho x
  grind
/-! ### the matrix of a chain -/
theorem sm_pE {U : List Int} (hU : U.Nodup) (w : Nat) (y : Int → Rat) : ∀ e : List (Int × Int), sm U.length (fun j => pE w e (U.getD j 0) * y (U.getD j 0)) = sE e (fun z => if z ∈ U then y z / (w : Rat) else 0)
  | [] => by
    rw [sm_zero fun j _ => by show (0 : Rat) * _ = 0; grind]; rfl
  | q :: e => by
    have ih := sm_pE hU w y e
    show sm U.length (fun j => ((if q.1 = U.getD j 0 then (q.2 : Rat) / (w : Rat) else 0) + pE w e (U.getD j 0)) * y (U.getD j 0)) = (q.2 : Rat) * (if q.1 ∈ U then y q.1 / (w : Rat) else 0) + sE e _
    rw [sm_congr (g := fun j => (if q.1 = U.getD j 0 then (q.2 : Rat) / (w : Rat) else 0) * y (U.getD j 0) + pE w e (U.getD j 0) * y (U.getD j 0)) fun j _ => by grind, sm_add, ih]
    congr 1
    by_cases m : q.1 ∈ U
    · have hl := List.idxOf_lt_length_of_mem m
      have g0 : U.getD (U.idxOf q.1) 0 = q.1 := by rw [List.getD_eq_getElem?_getD, List.getElem?_eq_getElem hl, List.getElem_idxOf]; rfl
      rw [sm_one (k := U.idxOf q.1) hl fun i hi hne => ?_, g0, if_pos rfl, if_pos m]
      · grind
      · rw [if_neg, Rat.zero_mul]
        intro z
        refine hne ?_
        rw [List.getD_eq_getElem?_getD, List.getElem?_eq_getElem hi] at z
        exact (List.getElem_inj hU).mp (((List.getElem_idxOf hl).trans z).symm)
    · rw [if_neg m, sm_zero fun j hj => ?_]
      · grind
      · rw [if_neg, Rat.zero_mul]
        intro z
        rw [List.getD_eq_getElem?_getD, List.getElem?_eq_getElem hj] at z
        exact m (by rw [z]; exact List.getElem_mem hj)
theorem sm_aE {U : List Int} (hU : U.Nodup) {c : Int → Int × List (Int × Int)} (y : Int → Rat) {x : Int} (hx : x ∈ U) : sm U.length (fun j => aE c x (U.getD j 0) * y (U.getD j 0)) = y x - sE (c x).2 (fun z => if z ∈ U then y z / (wN (c x) : Rat) else 0) := by
  rw [← sm_pE hU (wN (c x)) y, sm_congr (g := fun j => (if U.getD j 0 = x then y x else 0) - pE (wN (c x)) (c x).2 (U.getD j 0) * y (U.getD j 0)) fun j _ => by
    show ((if U.getD j 0 = x then (1 : Rat) else 0) - pE _ _ _) * _ = _
    split
    · rename_i h; rw [h]; grind
    · grind, sm_sub]
  congr 1
  have hl := List.idxOf_lt_length_of_mem hx
  have g0 : U.getD (U.idxOf x) 0 = x := by rw [List.getD_eq_getElem?_getD, List.getElem?_eq_getElem hl, List.getElem_idxOf]; rfl
  rw [sm_one (k := U.idxOf x) hl fun i hi hne => ?_, if_pos g0]
  rw [if_neg]
  intro z
  refine hne ?_
  rw [List.getD_eq_getElem?_getD, List.getElem?_eq_getElem hi] at z
  exact (List.getElem_inj hU).mp ((z.trans (List.getElem_idxOf hl).symm))
theorem sE_div {w : Nat} (hw : 1 ≤ w) {U : List Int} {v kn : Int → Rat} (h : ∀ y, y ∉ U → v y = kn y) : ∀ e : List (Int × Int), (w : Rat) * (sE e (fun z => if z ∈ U then v z / (w : Rat) else 0) + kE w U kn e) = sE e v
  | [] => by show (w : Rat) * (0 + 0) = 0; grind
  | q :: e => by
    have ih := sE_div hw h e
    have w0 := nat_ne hw
    show (w : Rat) * ((q.2 : Rat) * (if q.1 ∈ U then v q.1 / (w : Rat) else 0) + sE e _ + ((if q.1 ∈ U then 0 else (q.2 : Rat) / (w : Rat) * kn q.1) + kE w U kn e)) = (q.2 : Rat) * v q.1 + sE e v
    rw [← ih]
    by_cases m : q.1 ∈ U
    · rw [if_pos m, if_pos m]; grind
    · rw [if_neg m, if_neg m, h q.1 m]; grind
end L3

namespace L3
open PySem L2
/-- a value for each state -/
def kl (n : Nat) (f : Int → Rat) : List (Int × Int) := (rng 0 (n : Int)).map fun z => ofQ (f z)
theorem kl_len {n : Nat} {f : Int → Rat} : (kl n f).length = n := by unfold kl; rw [List.length_map, rng_len]; omega
theorem kl_at {n : Nat} {f : Int → Rat} {i : Nat} (h : i < n) : (kl n f)[i]? = some (ofQ (f (i : Int))) := by
  unfold kl
  rw [List.getElem?_map, rng_ix, if_pos h]; rfl
theorem kl_ix {n : Nat} {f : Int → Rat} {y : Int} (h0 : 0 ≤ y) (h1 : y < (n : Int)) : ixL (kl n f) y = some (ofQ (f y)) := by
  obtain ⟨i, rfl⟩ := Int.eq_ofNat_of_zero_le h0
  exact ixL_s (kl_at (by omega)) rfl
theorem kl_congr {n : Nat} {f g : Int → Rat} (h : ∀ y, 0 ≤ y → y < (n : Int) → f y = g y) : kl n f = kl n g := List.map_congr_left fun y hy => by
  obtain ⟨i, hi⟩ := List.getElem?_of_mem hy
  obtain ⟨e1, e2⟩ := rng_at hi
  rw [h y (by omega) (by omega)]
theorem kl_set {n : Nat} {f : Int → Rat} {u : Int} (h0 : 0 ≤ u) (h1 : u < (n : Int)) (t : Rat) : (kl n f).set u.toNat (ofQ t) = kl n fun z => if z = u then t else f z := by
  refine List.ext_getElem? fun i => ?_
  rw [List.getElem?_set, kl_len]
  by_cases hi : i < n
  · rw [kl_at hi, kl_at hi]
    by_cases e : u.toNat = i
    · rw [if_pos e, if_pos (by omega), if_pos (by omega)]
    · rw [if_neg e, if_neg (by omega)]
  · rw [List.getElem?_eq_none (by rw [kl_len]; omega), List.getElem?_eq_none (by rw [kl_len]; omega)]
    split
    · rw [if_neg (by omega)]
    · rfl
/-- the values of the unknown states put in -/
def vU (U : List Int) (x : Nat → Rat) (kn : Int → Rat) (z : Int) : Rat := if z ∈ U then x (U.idxOf z) else kn z
theorem getD_idx {U : List Int} (hU : U.Nodup) {j : Nat} (h : j < U.length) : U.idxOf (U.getD j 0) = j := by
  have e : U.getD j 0 = U[j] := by rw [List.getD_eq_getElem?_getD, List.getElem?_eq_getElem h]; rfl
  have m : U[j] ∈ U := List.getElem_mem h
  have hl := List.idxOf_lt_length_of_mem m
  rw [e]
  exact (List.getElem_inj hU).mp (List.getElem_idxOf hl)
theorem getD_mem {U : List Int} {j : Nat} (h : j < U.length) : U.getD j 0 ∈ U := by
  rw [List.getD_eq_getElem?_getD, List.getElem?_eq_getElem h]; exact List.getElem_mem h
theorem vU_at {U : List Int} (hU : U.Nodup) {x : Nat → Rat} {kn : Int → Rat} {j : Nat} (h : j < U.length) : vU U x kn (U.getD j 0) = x j := by
  unfold vU
  rw [if_pos (getD_mem h), getD_idx hU h]
theorem put_step {U : List Int} (hU : U.Nodup) {x : Nat → Rat} {kn : Int → Rat} {n i : Nat} (hi : i < U.length) (h0 : 0 ≤ U.getD i 0) (h1 : U.getD i 0 < (n : Int)) : (kl n (fun z => if z ∈ U.take i then x (U.idxOf z) else kn z)).set (U.getD i 0).toNat (ofQ (x i)) = kl n fun z => if z ∈ U.take (i + 1) then x (U.idxOf z) else kn z := by
  rw [kl_set h0 h1]
  refine kl_congr fun z _ _ => ?_
  have et : U.take (i + 1) = U.take i ++ [U.getD i 0] := by
    rw [List.take_add_one, List.getD_eq_getElem?_getD, List.getElem?_eq_getElem hi]; rfl
  rw [et]
  by_cases e : z = U.getD i 0
  · rw [if_pos e, if_pos (by simp [e]), e, getD_idx hU hi]
  · rw [if_neg e]
    by_cases g : z ∈ U.take i
    · rw [if_pos g, if_pos (List.mem_append_left _ g)]
    · rw [if_neg g, if_neg fun h => by
        rcases List.mem_append.mp h with h | h
        · exact g h
        · exact e (List.mem_singleton.mp h)]
theorem put_end {U : List Int} {x : Nat → Rat} {kn : Int → Rat} {n : Nat} : kl n (fun z => if z ∈ U.take U.length then x (U.idxOf z) else kn z) = kl n (vU U x kn) := by
  rw [List.take_length]; rfl
/-- what the solver's answer says of the chain -/
theorem chain_sol {U : List Int} {c : Int → Int × List (Int × Int)} {kn ex : Int → Rat} (hU : U.Nodup) (hw : ∀ x ∈ U, WE (c x).2) (ho : ∀ x ∈ U, Out U c x) :
    (¬ ∃ x : Nat → Rat, (∃ j, j < U.length ∧ x j ≠ 0) ∧ ∀ r, r < U.length → sm U.length (fun j => aE c (U.getD r 0) (U.getD j 0) * x j) = 0) ∧
    ∀ x : Nat → Rat, (∀ r, r < U.length → sm U.length (fun j => aE c (U.getD r 0) (U.getD j 0) * x j) = bE c U kn ex (U.getD r 0)) → ∀ z ∈ U, (wsum (c z).2 : Rat) * (vU U x kn z - ex z) = sE (c z).2 (vU U x kn) := by
  have idx : ∀ z ∈ U, ∃ r, r < U.length ∧ U.getD r 0 = z := fun z hz => by
    have hl := List.idxOf_lt_length_of_mem hz
    exact ⟨_, hl, by rw [List.getD_eq_getElem?_getD, List.getElem?_eq_getElem hl, List.getElem_idxOf]; rfl⟩
  have wq : ∀ z ∈ U, 1 ≤ wN (c z) ∧ (wsum (c z).2 : Rat) = (wN (c z) : Rat) := fun z hz => by
    obtain ⟨w1, w2⟩ : 1 ≤ wN (c z) ∧ wsum (c z).2 = (wN (c z) : Int) := wN_pos (hw z hz)
    refine ⟨w1, ?_⟩
    rw [w2]; push_cast; rfl
  have row : ∀ (x : Nat → Rat) (kn : Int → Rat) r, r < U.length → sm U.length (fun j => aE c (U.getD r 0) (U.getD j 0) * x j) = vU U x kn (U.getD r 0) - sE (c (U.getD r 0)).2 (fun z => if z ∈ U then vU U x kn z / (wN (c (U.getD r 0)) : Rat) else 0) := fun x kn r hr => by
    rw [← sm_aE hU (vU U x kn) (getD_mem hr)]
    exact sm_congr fun j hj => by rw [vU_at hU hj]
  constructor
  · rintro ⟨x, ⟨j, hj, hx⟩, h⟩
    refine hx ?_
    have := ker_zero (d := vU U x fun _ => 0) hw (fun y hy => by unfold vU; rw [if_neg hy]) (fun z hz => by
      obtain ⟨r, hr, rfl⟩ := idx z hz
      have h1 := h r hr
      rw [row x (fun _ => 0) r hr] at h1
      obtain ⟨w1, w2⟩ := wq _ hz
      have h2 := sE_div (kn := fun _ => 0) w1 (U := U) (v := vU U x fun _ => 0) (fun y hy => by unfold vU; rw [if_neg hy]) (c (U.getD r 0)).2
      have h3 : ∀ e : List (Int × Int), kE (wN (c (U.getD r 0))) U (fun _ => 0) e = 0 := fun e => by
        induction e with
        | nil => rfl
        | cons q e ih =>
          show (if q.1 ∈ U then 0 else (q.2 : Rat) / _ * 0) + kE _ _ _ e = 0
          rw [ih]
          split <;> grind
      rw [h3] at h2
      rw [w2]
      grind) ho (U.getD j 0)
    rwa [vU_at hU hj] at this
  · intro x h z hz
    obtain ⟨r, hr, rfl⟩ := idx z hz
    have h1 := h r hr
    rw [row x kn r hr] at h1
    obtain ⟨w1, w2⟩ := wq _ hz
    have h2 := sE_div (kn := kn) w1 (U := U) (v := vU U x kn) (fun y hy => by unfold vU; rw [if_neg hy]) (c (U.getD r 0)).2
    unfold bE at h1
    rw [w2]
    grind
end L3

namespace L3
open PySem L2
theorem rows_get {U : List Int} {f : Int → Int → Rat} {r j : Nat} (hr : r < U.length) (hj : j < U.length) : ((U.map fun x => U.map (f x)).getD r []).getD j 0 = f (U.getD r 0) (U.getD j 0) := by
  have e1 : (U.map fun x => U.map (f x)).getD r [] = U.map (f (U.getD r 0)) := by
    rw [List.getD_eq_getElem?_getD, List.getElem?_map, List.getElem?_eq_getElem hr, List.getD_eq_getElem?_getD, List.getElem?_eq_getElem hr]; rfl
  rw [e1, List.getD_eq_getElem?_getD, List.getElem?_map, List.getElem?_eq_getElem hj, List.getD_eq_getElem?_getD (l := U) (i := j), List.getElem?_eq_getElem hj]; rfl
theorem right_get {U : List Int} {f : Int → Rat} {r : Nat} (hr : r < U.length) : (U.map f).getD r 0 = f (U.getD r 0) := by
  rw [List.getD_eq_getElem?_getD, List.getElem?_map, List.getElem?_eq_getElem hr, List.getD_eq_getElem?_getD, List.getElem?_eq_getElem hr]; rfl
/-- how large the table's entries may grow -/
structure SizeOk (m Wm L C k : Nat) : Prop where
  k1 : (m * (L * (2 * Wm))) ^ m * (2 * Wm * (L * C)) + m * (L * (2 * Wm) * (m * (2 * Wm * (L * C) * (m * (L * (2 * Wm))) ^ m))) < 2 ^ k
  k2 : Wm * L * (m * (L * (2 * Wm))) ^ m < 2 ^ k
  k0 : 0 < k
/-- the sizes of a chain's equations -/
theorem chain_size {U : List Int} {c : Int → Int × List (Int × Int)} {kn ex : Int → Rat} {Wm L C k : Nat} (hw : ∀ x ∈ U, 1 ≤ wN (c x) ∧ wN (c x) ≤ Wm) (hW0 : 1 ≤ Wm) (hL : 1 ≤ L) (hC : 1 ≤ C) (hk : SizeOk U.length Wm L C k)
    (h1 : ∀ x ∈ U, ∀ y ∈ U, IsI (2 * wN (c x)) ((wN (c x) : Rat) * aE c x y)) (h2 : ∀ x ∈ U, IsI (2 * wN (c x) * (L * C)) (((wN (c x) * L : Nat) : Rat) * bE c U kn ex x)) :
    ∀ {cc : Nat} {A' T : Mx} {π : Nat → Nat}, PermOn U.length π → (∀ r j, r < U.length → A' r j = augA U.length (U.map fun x => U.map (aE c x)) (U.map (bE c U kn ex)) (π r) j) → GJ U.length cc A' T → TB U.length k T := by
  intro cc A' T π hp ha hg
  refine size2 (s := fun r => wN (c (U.getD r 0)) * L) (M := L * (2 * Wm)) (N := 2 * Wm * (L * C)) (W := Wm * L) (fun r hr => ?_) (fun r j hr hj => ?_) (fun r hr => ?_) (Nat.mul_pos hL (by omega)) ?_ hk.k1 hk.k2 hp ha hg
  · obtain ⟨a1, a2⟩ := hw _ (getD_mem hr)
    exact ⟨Nat.mul_pos a1 hL, Nat.mul_le_mul_right _ a2⟩
  · obtain ⟨a1, a2⟩ := hw _ (getD_mem hr)
    rw [rows_get hr hj]
    have e : ((wN (c (U.getD r 0)) * L : Nat) : Rat) * aE c (U.getD r 0) (U.getD j 0) = (L : Rat) * ((wN (c (U.getD r 0)) : Rat) * aE c (U.getD r 0) (U.getD j 0)) := by push_cast; grind
    rw [e]
    exact isI_up (isI_mul ⟨(L : Int), by push_cast; rfl, Nat.le_of_eq (Int.natAbs_natCast L)⟩ (h1 _ (getD_mem hr) _ (getD_mem hj))) (Nat.mul_le_mul_left _ (by omega))
  · obtain ⟨a1, a2⟩ := hw _ (getD_mem hr)
    rw [right_get hr]
    exact isI_up (h2 _ (getD_mem hr)) (Nat.mul_le_mul_right _ (by omega))
  · have := Nat.mul_le_mul_left (2 * Wm) (Nat.le_mul_of_pos_right L hC)
    rw [Nat.mul_comm L]
    exact this
theorem filled_ok {sys : List (List (Int × List (Int × Int)))} {c : Int → Int × List (Int × Int)} {U : List Int} {extra : List (Int × Int)} {kn ex : Int → Rat} {n Wm L C a b k : Nat} (hc : ChOk n sys c) (hn : n ≤ 1000) (hU : U.Nodup) (hUr : ∀ x ∈ U, 0 ≤ x ∧ x < (n : Int)) (hlen : U.length ≤ 1000)
    (hkn : ∀ y, 0 ≤ y → y < (n : Int) → IsI (L * C) ((L : Rat) * kn y)) (hex : ∀ x ∈ U, ixL extra x = some (ofQ (ex x)) ∧ IsI (L * C) ((L : Rat) * ex x)) (hW : ∀ x ∈ U, wN (c x) ≤ Wm) (hW0 : 1 ≤ Wm) (hL : 1 ≤ L) (hC : 1 ≤ C) (ha : 2 * Wm < 2 ^ a) (hb : 2 * Wm * (L * C) < 2 ^ b) (ha0 : 0 < a) (hb0 : 0 < b) (hab : a + b ≤ 1500) (hk : SizeOk U.length Wm L C k) (hk2 : 3 * k ≤ 4000) (ho : ∀ x ∈ U, Out U c x) :
    ∃ v : Int → Rat, m_filled sys U (kl n kn) extra = some (kl n v) ∧ (∀ y, y ∉ U → v y = kn y) ∧ (∀ z ∈ U, (wsum (c z).2 : Rat) * (v z - ex z) = sE (c z).2 v) ∧ ∀ z ∈ U, Bd k (v z) := by
  have we : ∀ x ∈ U, WE (c x).2 := fun x hx => hc.we x (hUr x hx).1 (hUr x hx).2
  obtain ⟨e1, e2, e3⟩ := equations_ok (a := a) (b := b) hc hn hU hUr hlen (fun y h0 h1 => ⟨kl_ix h0 h1, hkn y h0 h1⟩) hex hW hL hC ha hb ha0 hb0 hab
  have wq : ∀ x ∈ U, 1 ≤ wN (c x) ∧ wN (c x) ≤ Wm := fun x hx => by
    have h : 1 ≤ wN (c x) ∧ wsum (c x).2 = (wN (c x) : Int) := wN_pos (we x hx)
    exact ⟨h.1, hW x hx⟩
  obtain ⟨o, ho1, ho2⟩ := solve_core (n := U.length) (k := k) (rows := U.map fun x => U.map (aE c x)) (right := U.map (bE c U kn ex)) hlen (List.length_map ..) (fun row hr => by
    obtain ⟨x, _, rfl⟩ := List.mem_map.mp hr
    exact List.length_map ..) (List.length_map ..) hk.k0 hk2 (fun {cc A' T π} hp ha hg => chain_size (c := c) (kn := kn) (ex := ex) wq hW0 hL hC hk e2 e3 hp ha hg)
  have r1 : (U.map fun x => U.map (aE c x)).map (fun row => row.map ofQ) = U.map fun x => UR U (aE c x) := by
    rw [List.map_map]
    refine List.map_congr_left fun x _ => ?_
    show (U.map (aE c x)).map ofQ = _
    rw [List.map_map]; rfl
  have r2 : (U.map (bE c U kn ex)).map ofQ = U.map fun x => ofQ (bE c U kn ex x) := by rw [List.map_map]; rfl
  rw [r1, r2] at ho1
  obtain ⟨s1, s2⟩ := chain_sol (kn := kn) (ex := ex) hU we ho
  have hm : ∀ (x : Nat → Rat) r, r < U.length → sm U.length (fun j => ((U.map fun x => U.map (aE c x)).getD r []).getD j 0 * x j) = sm U.length (fun j => aE c (U.getD r 0) (U.getD j 0) * x j) := fun x r hr => sm_congr fun j hj => by rw [rows_get hr hj]
  cases o with
  | none =>
    obtain ⟨x, hx, h⟩ := ho2
    exact absurd ⟨x, hx, fun r hr => by rw [← hm x r hr]; exact h r hr⟩ s1
  | some q =>
    obtain ⟨x, rfl, hx1, hx2, hx3⟩ := ho2
    refine ⟨vU U x kn, ?_, fun y hy => by unfold vU; rw [if_neg hy], s2 x fun r hr => by rw [← hm x r hr, hx1 r hr, right_get hr], fun z hz => ?_⟩
    · unfold m_filled
      refine bnd e1 (bnd ho1 ?_)
      refine bnd (a := kl n (vU U x kn)) ?_ rfl
      have key : ∀ (F : List (Int × Int) → (Int × Int) → Option (List (Int × Int))), (∀ s p, F s p = Option.bind (some ((List.range U.length).map fun r => ofQ (x r))) fun t51 => Option.bind (ixL t51 p.1) fun t53 => Option.bind (ixO s.length p.2) fun t55 => some (s.set t55 t53)) → foldO F (kl n kn) (enumI 0 U) = some (kl n (vU U x kn)) := fun F hF => by
        obtain ⟨s, h1, h2⟩ := y_foldI F (fun i s => s = kl n fun z => if z ∈ U.take i then x (U.idxOf z) else kn z) (xs := enumI 0 U) (s := kl n kn) (kl_congr fun z _ _ => by rw [if_neg (by simp)]) (by
          rintro i ⟨p1, p2⟩ s hp rfl
          obtain ⟨g1, g2⟩ := enumI_get hp
          obtain ⟨hi, g3⟩ := List.getElem?_eq_some_iff.mp g2
          have g1 : p1 = (i : Int) := by show p1 = _; have : p1 = ((0 + i : Nat) : Int) := g1; rw [this, Nat.zero_add]
          have g4 : p2 = U.getD i 0 := by rw [List.getD_eq_getElem?_getD, List.getElem?_eq_getElem hi]; exact g3.symm
          subst g1 g4
          obtain ⟨u0, u1⟩ := hUr _ (getD_mem hi)
          refine ⟨_, ?_, put_step hU hi u0 u1⟩
          rw [hF]
          refine bnd rfl (bnd (a := ofQ (x i)) (ixL_s (n := i) ?_ rfl) (bnd (a := (U.getD i 0).toNat) (ixO_s (by show U.getD i 0 = _; omega) (by rw [kl_len]; omega)) rfl))
          rw [List.getElem?_map, List.getElem?_range hi]; rfl)
        rw [h1, h2, enumI_len, put_end]
      exact key _ fun _ _ => rfl
    · have hl := List.idxOf_lt_length_of_mem hz
      unfold vU
      rw [if_pos hz]
      exact hx2 _ hl
end L3

namespace L3
open PySem L2
/-! ### the laws' own equations, one row -/
theorem l_eq_fold {U : List Int} {known : List (Int × Int)} {kn : Int → Rat} {n w L C a b : Nat} (hU : U.Nodup)
    (hkn : ∀ y, 0 ≤ y → y < (n : Int) → ixL known y = some (ofQ (kn y)) ∧ IsI (L * C) ((L : Rat) * kn y)) (hw : 1 ≤ w) (hL : 1 ≤ L) (hC : 1 ≤ C) (ha : 2 * w < 2 ^ a) (hb : 2 * w * (L * C) < 2 ^ b) (ha0 : 0 < a) (hb0 : 0 < b) (hab : a + (b + b) ≤ 988) (haa : a + a ≤ 988)
    (F : ((Int × Int) × (List (Int × Int))) → (Int × (Int × Int)) → Option ((Int × Int) × (List (Int × Int)))) (hF : ∀ s76 x77, F s76 x77 = (
      Option.bind (if (decide (x77.1 ∈ U)) = true then
        Option.bind (idxI U x77.1) fun t108 =>
        Option.bind (ixL s76.2 t108) fun t113 =>
        Option.bind (m_l_plus t113 ((((0 : Int) - x77.2.1), x77.2.2))) fun t115 =>
        Option.bind (ixO s76.2.length t108) fun t117 =>
        some ((s76.1, (s76.2.set t117 t115)))
      else
        Option.bind (ixL known x77.1) fun t121 =>
        Option.bind (m_l_times x77.2 t121) fun t123 =>
        Option.bind (m_l_plus s76.1 t123) fun t125 =>
        some ((t125, s76.2))
      ) fun (s105 : ((Int × Int) × (List (Int × Int)))) =>
      some ((s105.1, s105.2)))) :
    ∀ (e : List (Int × Int)) (f : Int → Rat) (g : Rat) (B : Nat), (∀ q ∈ e, 0 ≤ q.1 ∧ q.1 < (n : Int) ∧ 1 ≤ q.2) → (∀ y, y ∈ U → IsI (w + B) ((w : Rat) * f y)) → IsI ((w + B) * (L * C)) (((w * L : Nat) : Rat) * g) → (B : Int) + wsum e ≤ w →
      foldO F (ofQ g, UR U f) (e.map fun q => (q.1, ofQ ((q.2 : Rat) / (w : Rat)))) = some (ofQ (g + kE w U kn e), UR U fun y => f y - pE w e y) ∧ (∀ y, y ∈ U → IsI (2 * w) ((w : Rat) * (f y - pE w e y))) ∧ IsI (2 * w * (L * C)) (((w * L : Nat) : Rat) * (g + kE w U kn e)) := by
  have w0 := nat_ne hw
  have l0 := nat_ne hL
  have LC : 1 ≤ L * C := Nat.mul_pos hL hC
  have wb : ∀ {B : Nat}, B ≤ w → (w + B) * (L * C) ≤ 2 * w * (L * C) := fun {B} h => Nat.mul_le_mul_right _ (by omega)
  have wL : w * L < 2 ^ b := by
    refine Nat.lt_of_le_of_lt ?_ hb
    have h1 : w * L ≤ w * (L * C) := Nat.mul_le_mul_left _ (Nat.le_mul_of_pos_right _ hC)
    have h2 : w * (L * C) ≤ 2 * w * (L * C) := Nat.mul_le_mul_right _ (by omega)
    omega
  intro e
  induction e with
  | nil =>
    intro f g B _ hf hg hB
    have hB : B ≤ w := by
      have : wsum [] = 0 := rfl
      omega
    refine ⟨?_, fun y hy => ?_, ?_⟩
    · show some (ofQ g, UR U f) = some (ofQ (g + 0), UR U fun y => f y - 0)
      rw [Rat.add_zero]
      have : (fun y => f y - 0) = f := funext fun y => by grind
      rw [this]
    · show IsI _ ((w : Rat) * (f y - 0))
      rw [show f y - 0 = f y by grind]
      exact isI_up (hf y hy) (by omega)
    · show IsI _ (((w * L : Nat) : Rat) * (g + 0))
      rw [Rat.add_zero]
      exact isI_up hg (wb hB)
  | cons q e ih =>
    intro f g B he hf hg hB
    obtain ⟨q0, q1, q2⟩ := he q List.mem_cons_self
    have he' := fun p hp => he p (List.mem_cons_of_mem _ hp)
    have hsum : wsum (q :: e) = q.2 + wsum e := by show (List.map _ (q :: e)).sum = _; rw [List.map_cons, List.sum_cons]
    have se : 0 ≤ wsum e := by
      have : ∀ l : List (Int × Int), (∀ q ∈ l, 0 ≤ q.1 ∧ q.1 < (n : Int) ∧ 1 ≤ q.2) → 0 ≤ wsum l := by
        intro l
        induction l with
        | nil => intro _; exact Int.le_refl 0
        | cons p l ih =>
          intro h
          have h1 := ih fun z hz => h z (List.mem_cons_of_mem _ hz)
          have h2 := (h p List.mem_cons_self).2.2
          have : wsum (p :: l) = p.2 + wsum l := by show (List.map _ (p :: l)).sum = _; rw [List.map_cons, List.sum_cons]
          omega
      exact this e he'
    rw [hsum] at hB
    have hq2 : q.2.toNat ≤ w := by omega
    have hBw : B ≤ w := by omega
    have hB' : ((B + q.2.toNat : Nat) : Int) + wsum e ≤ w := by omega
    have bq : Bd a ((q.2 : Rat) / (w : Rat)) := by
      refine isI_bd (A := w) (S := w) ⟨q.2, by grind, by omega⟩ hw (by omega) (by omega)
    by_cases m : q.1 ∈ U
    · -- an unknown end
      have hf' : ∀ y, y ∈ U → IsI (w + (B + q.2.toNat)) ((w : Rat) * (if y = q.1 then f q.1 - (q.2 : Rat) / (w : Rat) else f y)) := fun y hy => by
        by_cases z : y = q.1
        · rw [if_pos z]; exact isI_step hw (by omega) (hf q.1 m)
        · rw [if_neg z]; exact isI_up (hf y hy) (by omega)
      obtain ⟨i1, i2, i3⟩ := ih (fun y => if y = q.1 then f q.1 - (q.2 : Rat) / (w : Rat) else f y) g (B + q.2.toNat) he' hf' (isI_up hg (Nat.mul_le_mul_right _ (by omega))) hB'
      have er : ∀ y, (if y = q.1 then f q.1 - (q.2 : Rat) / (w : Rat) else f y) - pE w e y = f y - pE w (q :: e) y := fun y => by
        show _ = f y - ((if q.1 = y then (q.2 : Rat) / (w : Rat) else 0) + pE w e y)
        by_cases z : y = q.1
        · rw [if_pos z, if_pos z.symm, z]; grind
        · rw [if_neg z, if_neg fun h => z h.symm]; grind
      have ek : g + kE w U kn e = g + kE w U kn (q :: e) := by
        show _ = g + ((if q.1 ∈ U then 0 else _) + kE w U kn e)
        rw [if_pos m]; grind
      rw [show (fun y => (if y = q.1 then f q.1 - (q.2 : Rat) / (w : Rat) else f y) - pE w e y) = fun y => f y - pE w (q :: e) y from funext er, ek] at i1
      rw [ek] at i3
      refine ⟨foldO_cons ?_ i1, fun y hy => by rw [← er]; exact i2 y hy, i3⟩
      rw [hF]
      have hg1 : idxI U q.1 = some ((U.idxOf q.1 : Nat) : Int) := idxI_of m
      have hp := l_plus_q (isI_bd (hf q.1 m) hw (show w + B < 2 ^ a by omega) (show w < 2 ^ a by omega)) (bd_neg bq) ha0 ha0 (by omega)
      rw [← neg_ofQ, ← Rat.sub_eq_add_neg] at hp
      refine bnd (a := (ofQ g, UR U fun y => if y = q.1 then f q.1 - (q.2 : Rat) / (w : Rat) else f y)) ?_ rfl
      refine (if_pos (decide_eq_true m)).trans (bnd hg1 (bnd (at_idx m _) (bnd hp (bnd (ixO_s rfl (by show _ < (UR U f).length; rw [ur_len]; exact List.idxOf_lt_length_of_mem m)) ?_))))
      show some (ofQ g, (UR U f).set _ _) = _
      unfold UR
      rw [map_set hU m]
      refine congrArg some (Prod.ext rfl (List.map_congr_left fun y _ => ?_))
      show (if y = q.1 then ofQ (f q.1 - (q.2 : Rat) / (w : Rat)) else ofQ (f y)) = ofQ (if y = q.1 then f q.1 - (q.2 : Rat) / (w : Rat) else f y)
      by_cases z : y = q.1
      · rw [if_pos z, if_pos z]
      · rw [if_neg z, if_neg z]
    · -- a known end
      obtain ⟨k1, k2⟩ := hkn q.1 q0 q1
      have hg' : IsI ((w + (B + q.2.toNat)) * (L * C)) (((w * L : Nat) : Rat) * (g + (q.2 : Rat) / (w : Rat) * kn q.1)) := by
        have e1 : ((w * L : Nat) : Rat) * (g + (q.2 : Rat) / (w : Rat) * kn q.1) = ((w * L : Nat) : Rat) * g + (q.2 : Rat) * ((L : Rat) * kn q.1) := by
          push_cast
          grind
        rw [e1, ← Nat.add_assoc, Nat.add_mul]
        exact isI_add hg (isI_mul ⟨q.2, rfl, by omega⟩ k2)
      obtain ⟨i1, i2, i3⟩ := ih f (g + (q.2 : Rat) / (w : Rat) * kn q.1) (B + q.2.toNat) he' (fun y hy => isI_up (hf y hy) (by omega)) hg' hB'
      have er : ∀ y, q.1 ≠ y → f y - pE w e y = f y - pE w (q :: e) y := fun y hy => by
        show _ = f y - ((if q.1 = y then (q.2 : Rat) / (w : Rat) else 0) + pE w e y)
        rw [if_neg hy]; grind
      have ek : g + (q.2 : Rat) / (w : Rat) * kn q.1 + kE w U kn e = g + kE w U kn (q :: e) := by
        show _ = g + ((if q.1 ∈ U then 0 else _) + kE w U kn e)
        rw [if_neg m]; grind
      rw [ek] at i1 i3
      have eu : (UR U fun y => f y - pE w e y) = UR U fun y => f y - pE w (q :: e) y := List.map_congr_left fun y hy => congrArg ofQ (er y fun z => m (z ▸ hy))
      rw [eu] at i1
      refine ⟨foldO_cons ?_ i1, fun y hy => ?_, i3⟩
      · rw [hF]
        refine bnd (a := (ofQ (g + (q.2 : Rat) / (w : Rat) * kn q.1), UR U f)) ?_ rfl
        have bk : Bd b (kn q.1) := isI_bd k2 hL (Nat.lt_of_le_of_lt (Nat.le_mul_of_pos_left _ (by omega)) hb) (Nat.lt_of_le_of_lt (Nat.le_mul_of_pos_left _ hw) wL)
        have bg : Bd b g := isI_bd hg (Nat.mul_pos hw hL) (Nat.lt_of_le_of_lt (wb hBw) hb) wL
        exact (if_neg (by simpa using m)).trans (bnd k1 (bnd (l_times_q bq bk ha0 hb0 (by omega)) (bnd (l_plus_q bg (bd_mul bq bk) hb0 (by omega) (by omega)) rfl)))
      · rw [← er y fun z => m (z ▸ hy)]; exact i2 y hy
end L3

namespace L3
open PySem L2
/-- a chain in the laws' own form -/
structure LChOk (n : Nat) (ch : List (Int × (List (Int × (Int × Int))))) (c : Int → Int × List (Int × Int)) : Prop where
  len : ch.length = n
  ix : ∀ x, 0 ≤ x → x < (n : Int) → ixL ch x = some ((c x).1, (c x).2.map fun q => (q.1, ofQ ((q.2 : Rat) / (wN (c x) : Rat))))
  we : ∀ x, 0 ≤ x → x < (n : Int) → WE (c x).2
  r : ∀ x, 0 ≤ x → x < (n : Int) → ∀ q ∈ (c x).2, 0 ≤ q.1 ∧ q.1 < (n : Int)
theorem l_filled_ok {ch : List (Int × (List (Int × (Int × Int))))} {c : Int → Int × List (Int × Int)} {U : List Int} {extra : List (Int × Int)} {kn ex : Int → Rat} {n Wm L C a b k : Nat} (hc : LChOk n ch c) (hn : n ≤ 1000) (hU : U.Nodup) (hUr : ∀ x ∈ U, 0 ≤ x ∧ x < (n : Int)) (hlen : U.length ≤ 1000)
    (hkn : ∀ y, 0 ≤ y → y < (n : Int) → IsI (L * C) ((L : Rat) * kn y)) (hex : ∀ x ∈ U, ixL extra x = some (ofQ (ex x)) ∧ IsI (L * C) ((L : Rat) * ex x)) (hW : ∀ x ∈ U, wN (c x) ≤ Wm) (hW0 : 1 ≤ Wm) (hL : 1 ≤ L) (hC : 1 ≤ C) (ha : 2 * Wm < 2 ^ a) (hb : 2 * Wm * (L * C) < 2 ^ b) (ha0 : 0 < a) (hb0 : 0 < b) (hab : a + (b + b) ≤ 988) (haa : a + a ≤ 988) (hk : SizeOk U.length Wm L C k) (hk2 : 3 * k ≤ 988) (ho : ∀ x ∈ U, Out U c x) :
    ∃ v : Int → Rat, m_l_filled ch U (kl n kn) extra = some (kl n v) ∧ (∀ y, y ∉ U → v y = kn y) ∧ (∀ z ∈ U, (wsum (c z).2 : Rat) * (v z - ex z) = sE (c z).2 v) ∧ ∀ z ∈ U, Bd k (v z) := by
  have we : ∀ x ∈ U, WE (c x).2 := fun x hx => hc.we x (hUr x hx).1 (hUr x hx).2
  have hkn' : ∀ y, 0 ≤ y → y < (n : Int) → ixL (kl n kn) y = some (ofQ (kn y)) ∧ IsI (L * C) ((L : Rat) * kn y) := fun y h0 h1 => ⟨kl_ix h0 h1, hkn y h0 h1⟩
  have one : ∀ x ∈ U, ∀ (F : ((Int × Int) × (List (Int × Int))) → (Int × (Int × Int)) → Option ((Int × Int) × (List (Int × Int)))) (hF : ∀ s76 x77, F s76 x77 = (
      Option.bind (if (decide (x77.1 ∈ U)) = true then
        Option.bind (idxI U x77.1) fun t108 =>
        Option.bind (ixL s76.2 t108) fun t113 =>
        Option.bind (m_l_plus t113 ((((0 : Int) - x77.2.1), x77.2.2))) fun t115 =>
        Option.bind (ixO s76.2.length t108) fun t117 =>
        some ((s76.1, (s76.2.set t117 t115)))
      else
        Option.bind (ixL (kl n kn) x77.1) fun t121 =>
        Option.bind (m_l_times x77.2 t121) fun t123 =>
        Option.bind (m_l_plus s76.1 t123) fun t125 =>
        some ((t125, s76.2))
      ) fun (s105 : ((Int × Int) × (List (Int × Int)))) =>
      some ((s105.1, s105.2)))), foldO F (ofQ (ex x), UR U fun y => if y = x then 1 else 0) ((c x).2.map fun q => (q.1, ofQ ((q.2 : Rat) / (wN (c x) : Rat)))) = some (ofQ (bE c U kn ex x), UR U (aE c x)) ∧ (∀ y, y ∈ U → IsI (2 * wN (c x)) ((wN (c x) : Rat) * aE c x y)) ∧ IsI (2 * wN (c x) * (L * C)) (((wN (c x) * L : Nat) : Rat) * bE c U kn ex x) := fun x hx F hF => by
    obtain ⟨x0, x1⟩ := hUr x hx
    have we := hc.we x x0 x1
    obtain ⟨w1, w2⟩ : 1 ≤ wN (c x) ∧ wsum (c x).2 = (wN (c x) : Int) := wN_pos we
    have wm := hW x hx
    have hwm : 2 * wN (c x) * (L * C) ≤ 2 * Wm * (L * C) := Nat.mul_le_mul_right _ (by omega)
    have hx2 := (hex x hx).2
    refine l_eq_fold (n := n) hU hkn' w1 hL hC (show 2 * wN (c x) < 2 ^ a by omega) (show 2 * wN (c x) * (L * C) < 2 ^ b by omega) ha0 hb0 hab haa F hF (c x).2 _ _ 0 (fun q hq => ⟨(hc.r x x0 x1 q hq).1, (hc.r x x0 x1 q hq).2, (we.2.2 q hq).1⟩) (fun y hy => ?_) ?_ (by show (0 : Int) + wsum (c x).2 ≤ (wN (c x) : Int); rw [w2]; show (0 : Int) + (wN (c x) : Int) ≤ _; omega)
    · split
      · exact ⟨(wN (c x) : Int), by push_cast; grind, by omega⟩
      · exact ⟨0, by push_cast; grind, by simp⟩
    · have : ((wN (c x) * L : Nat) : Rat) * ex x = (wN (c x) : Rat) * ((L : Rat) * ex x) := by push_cast; grind
      rw [this, Nat.add_zero]
      exact isI_mul ⟨(wN (c x) : Int), by push_cast; rfl, by omega⟩ hx2
  have e2 : ∀ x ∈ U, ∀ y ∈ U, IsI (2 * wN (c x)) ((wN (c x) : Rat) * aE c x y) := fun x hx => (one x hx _ fun _ _ => rfl).2.1
  have e3 : ∀ x ∈ U, IsI (2 * wN (c x) * (L * C)) (((wN (c x) * L : Nat) : Rat) * bE c U kn ex x) := fun x hx => (one x hx _ fun _ _ => rfl).2.2
  have rowsF : ∀ (l : List Int) (R : List (Int × Int)) (M : List (List (Int × Int))) (F : ((List (Int × Int)) × (List (List (Int × Int)))) → Int → Option ((List (Int × Int)) × (List (List (Int × Int))))), (∀ x ∈ l, x ∈ U) → R.length + l.length ≤ 1000 → M.length + l.length ≤ 1000 → (∀ x ∈ U, ∀ R M, R.length ≤ 1000 → M.length ≤ 1000 → F (R, M) x = some (R ++ [ofQ (bE c U kn ex x)], M ++ [UR U (aE c x)])) → foldO F (R, M) l = some (R ++ l.map (fun x => ofQ (bE c U kn ex x)), M ++ l.map fun x => UR U (aE c x)) := by
    intro l
    induction l with
    | nil => intro R M F _ _ _ _; show some (R, M) = some (R ++ [], M ++ []); rw [List.append_nil, List.append_nil]
    | cons x l ih =>
      intro R M F hl h1 h2 hF
      rw [List.length_cons] at h1 h2
      refine foldO_cons (hF x (hl x List.mem_cons_self) R M (by omega) (by omega)) ?_
      rw [ih _ _ F (fun y hy => hl y (List.mem_cons_of_mem _ hy)) (by rw [List.length_append, List.length_singleton]; omega) (by rw [List.length_append, List.length_singleton]; omega) hF]
      rw [List.append_assoc, List.append_assoc]
      rfl
  have wq : ∀ x ∈ U, 1 ≤ wN (c x) ∧ wN (c x) ≤ Wm := fun x hx => by
    have h : 1 ≤ wN (c x) ∧ wsum (c x).2 = (wN (c x) : Int) := wN_pos (we x hx)
    exact ⟨h.1, hW x hx⟩
  obtain ⟨o, ho1, ho2⟩ := l_solve_core (n := U.length) (k := k) (rows := U.map fun x => U.map (aE c x)) (right := U.map (bE c U kn ex)) hlen (List.length_map ..) (fun row hr => by
    obtain ⟨x, _, rfl⟩ := List.mem_map.mp hr
    exact List.length_map ..) (List.length_map ..) hk.k0 hk2 (fun {cc A' T π} hp ha hg => chain_size (c := c) (kn := kn) (ex := ex) wq hW0 hL hC hk e2 e3 hp ha hg)
  have r1 : (U.map fun x => U.map (aE c x)).map (fun row => row.map ofQ) = U.map fun x => UR U (aE c x) := by
    rw [List.map_map]
    refine List.map_congr_left fun x _ => ?_
    show (U.map (aE c x)).map ofQ = _
    rw [List.map_map]; rfl
  have r2 : (U.map (bE c U kn ex)).map ofQ = U.map fun x => ofQ (bE c U kn ex x) := by rw [List.map_map]; rfl
  rw [r1, r2] at ho1
  obtain ⟨s1, s2⟩ := chain_sol (kn := kn) (ex := ex) hU we ho
  have hm : ∀ (x : Nat → Rat) r, r < U.length → sm U.length (fun j => ((U.map fun x => U.map (aE c x)).getD r []).getD j 0 * x j) = sm U.length (fun j => aE c (U.getD r 0) (U.getD j 0) * x j) := fun x r hr => sm_congr fun j hj => by rw [rows_get hr hj]
  cases o with
  | none =>
    obtain ⟨x, hx, h⟩ := ho2
    exact absurd ⟨x, hx, fun r hr => by rw [← hm x r hr]; exact h r hr⟩ s1
  | some q =>
    obtain ⟨x, rfl, hx1, hx2, hx3⟩ := ho2
    refine ⟨vU U x kn, ?_, fun y hy => by unfold vU; rw [if_neg hy], s2 x fun r hr => by rw [← hm x r hr, hx1 r hr, right_get hr], fun z hz => ?_⟩
    · unfold m_l_filled
      refine bnd (a := (U.map fun x => ofQ (bE c U kn ex x), U.map fun x => UR U (aE c x))) ?_ (bnd ho1 (bnd (small62_s (by omega) (by omega)) ?_))
      · refine Eq.trans (rowsF U [] [] _ (fun x hx => hx) (by simp; omega) (by simp; omega) fun x hx R M hR hM => ?_) rfl
        obtain ⟨x0, x1⟩ := hUr x hx
        refine bnd (room_s (by omega)) (bnd (compM_map (g := fun y => ofQ (if y = x then 1 else 0)) fun y _ => ?_) (bnd (hex x hx).1 (bnd (hc.ix x x0 x1) ?_)))
        · refine congrArg (fun z => some (some z, ())) ?_
          by_cases e : y = x
          · rw [if_pos (decide_eq_true e), if_pos e]; exact ofQ_1.symm
          · rw [if_neg (by simpa using e), if_neg e]; exact ofQ_0.symm
        · exact bnd (one x hx _ fun _ _ => rfl).1 (bnd (room_s (by show M.length ≤ _; omega)) (bnd (room_s (by show R.length ≤ _; omega)) rfl))
      · refine bnd (a := kl n (vU U x kn)) ?_ rfl
        have key : ∀ (F : List (Int × Int) → Int → Option (List (Int × Int))), (∀ s p, F s p = Option.bind (some ((List.range U.length).map fun r => ofQ (x r))) fun t202 => Option.bind (ixL t202 p) fun t204 => Option.bind (ixL U p) fun t206 => Option.bind (ixO s.length t206) fun t208 => some (s.set t208 t204)) → foldO F (kl n kn) (rng 0 (U.length : Int)) = some (kl n (vU U x kn)) := fun F hF => by
          obtain ⟨s, h1, h2⟩ := y_foldI F (fun i s => s = kl n fun z => if z ∈ U.take i then x (U.idxOf z) else kn z) (xs := rng 0 (U.length : Int)) (s := kl n kn) (kl_congr fun z _ _ => by rw [if_neg (by simp)]) (by
            rintro i p s hp rfl
            obtain ⟨g1, g2⟩ := rng_at hp
            have g1 : p = (i : Int) := by omega
            subst g1
            have hi : i < U.length := by omega
            obtain ⟨u0, u1⟩ := hUr _ (getD_mem hi)
            refine ⟨_, ?_, put_step hU hi u0 u1⟩
            rw [hF]
            refine bnd rfl (bnd (a := ofQ (x i)) (ixL_s (n := i) ?_ rfl) (bnd (a := U.getD i 0) (ixL_s (n := i) ?_ rfl) (bnd (a := (U.getD i 0).toNat) (ixO_s (by omega) (by rw [kl_len]; omega)) rfl)))
            · rw [List.getElem?_map, List.getElem?_range hi]; rfl
            · rw [List.getD_eq_getElem?_getD, List.getElem?_eq_getElem hi]; rfl)
          rw [h1, h2, rng_len, show ((U.length : Int) - 0).toNat = U.length by omega, put_end]
        exact key _ fun _ _ => rfl
    · have hl := List.idxOf_lt_length_of_mem hz
      unfold vU
      rw [if_pos hz]
      exact hx2 _ hl
end L3

namespace L3
open PySem L2
theorem ixL_lit {α : Type} {xs : List α} {i : Int} {P : α → Prop} (h0 : 0 ≤ i) (h1 : i < xs.length) (h : ∀ x ∈ xs, P x) : Yes (ixL xs i) P := by
  obtain ⟨n, hn⟩ := Int.eq_ofNat_of_zero_le h0
  have hl : n < xs.length := by omega
  exact ⟨xs[n], ixL_s (List.getElem?_eq_getElem hl) hn, h _ (List.getElem_mem hl)⟩
/-- comprehensions: they answer -/
theorem y_comp {S α β : Type} (f : S → α → Option (Option β × S)) (I : Nat → List β → S → Prop) {xs : List α} {s : S} (h0 : I 0 [] s) (hs : ∀ (i : Nat) x ys s, xs[i]? = some x → I i ys s → Yes (f s x) fun r => I (i + 1) (ys ++ r.1.toList) r.2) : Yes (compM f s xs) fun r => I xs.length r.1 r.2 := by
  have key : ∀ (xs : List α) (k : Nat) (pre : List β) (s : S), I k pre s → (∀ (i : Nat) x ys s, xs[i]? = some x → I (k + i) ys s → Yes (f s x) fun r => I (k + i + 1) (ys ++ r.1.toList) r.2) → Yes (compM f s xs) fun r => I (k + xs.length) (pre ++ r.1) r.2 := by
    intro xs
    induction xs with
    | nil => intro k pre s h _; exact ⟨([], s), rfl, by simpa using h⟩
    | cons x xs ih =>
      intro k pre s h hs
      obtain ⟨⟨o, s'⟩, h1, h2⟩ := hs 0 x pre s rfl h
      obtain ⟨⟨ys, s2⟩, h3, h4⟩ := ih (k + 1) (pre ++ o.toList) s' h2 fun i y zs s hy hI => by
        have := hs (i + 1) y zs s (by simpa using hy) (by rw [show k + (i + 1) = k + 1 + i by omega]; exact hI)
        rw [show k + (i + 1) + 1 = k + 1 + i + 1 by omega] at this
        exact this
      refine ⟨(o.toList ++ ys, s2), ?_, ?_⟩
      · unfold compM
        rw [h1]
        dsimp only
        rw [h3]
      · rw [show k + (x :: xs).length = k + 1 + xs.length by simp; omega]
        show I _ (pre ++ (o.toList ++ ys)) s2
        rw [← List.append_assoc]
        exact h4
  have := key xs 0 [] s h0 fun i x ys s hx hI => by
    rw [Nat.zero_add] at hI ⊢
    exact hs i x ys s hx hI
  simpa using this
end L3

namespace L3
open PySem L2
/-! ### drawn systems -/
abbrev TE' := List (Int × Int)
abbrev TC' := Int × List (Int × Int)
abbrev TS' := List (List (Int × List (Int × Int)))
def VE (many : Nat) (e : List (Int × Int)) : Prop := e ≠ [] ∧ e.length ≤ many ∧ (∀ q ∈ e, 0 ≤ q.1 ∧ q.1 < (many : Int) ∧ 1 ≤ q.2 ∧ q.2 ≤ 1000) ∧ e.Pairwise fun a b => a.1 < b.1
def VC (many : Nat) (c : Int × List (Int × Int)) : Prop := 0 ≤ c.1 ∧ c.1 ≤ 1000 ∧ VE many c.2
def VCS (many most : Nat) (cs : List (Int × List (Int × Int))) : Prop := 1 ≤ cs.length ∧ cs.length ≤ most ∧ ∀ c ∈ cs, VC many c
def VS (most : Nat) (s : List (List (Int × List (Int × Int)))) : Prop := 1 ≤ s.length ∧ ∀ cs ∈ s, VCS s.length most cs
theorem ends_ok {st : List Int × Int} {n many : Int} (hs : StOk st n) (hn : n < 2 ^ 50) (hm : 1 ≤ many) (hm2 : many ≤ 100) : Yes (m_l_ends st many) fun r => VE many.toNat r.1 ∧ StOk r.2 (n + 1 + 2 * many) := by
  unfold m_l_ends
  refine y_bind (take_ok hs (by omega) (by omega)) fun t3 h3 => ?_
  refine y_eq (small62_s (by omega) (by omega)) ?_
  obtain ⟨⟨h31, h32⟩, h33⟩ := h3
  refine y_bind (Q := fun (p : List (Int × Int) × (List Int × Int)) => VE many.toNat p.1 ∧ StOk p.2 (n + 1 + 2 * many)) ?_ fun p hp => y_some hp
  refine (y_foldI _ (fun i (p : List (Int × Int) × (List Int × Int)) => p.1.length ≤ i ∧ (∀ q ∈ p.1, 0 ≤ q.1 ∧ q.1 < (i : Int) ∧ 1 ≤ q.2 ∧ q.2 ≤ 1000) ∧ (p.1.Pairwise fun a b => a.1 < b.1) ∧ (t3.1 < i → p.1 ≠ []) ∧ StOk p.2 (n + 1 + 2 * i))
    ⟨by simp, by simp, .nil, fun h => absurd h (by omega), by simpa using h33⟩ ?_).mono fun p hp => ?_
  · rintro i x ⟨e, st⟩ hx ⟨g1, g2, g3, g4, g5⟩
    obtain ⟨e1, e2⟩ := rng_at hx
    have e1 : x = (i : Int) := by omega
    subst e1
    dsimp only at g1 g2 g3 g4 g5
    refine y_bind (Q := fun (p : Bool × (List Int × Int)) => ((t3.1 = (i : Int)) → p.1 = true) ∧ StOk p.2 (n + 1 + 2 * i + 1)) (y_if (fun c => y_some ⟨fun _ => rfl, ?_⟩) (fun c => ?_)) fun p hp => ?_
    · exact g5.le (by omega)
    · exact y_bind (take_ok g5 (by omega) (by decide)) fun t30 h30 => y_some ⟨fun q => absurd (decide_eq_true q.symm) c, h30.2⟩
    · refine y_bind (Q := fun (q : List (Int × Int) × (List Int × Int)) => q.1.length ≤ i + 1 ∧ (∀ z ∈ q.1, 0 ≤ z.1 ∧ z.1 < ((i + 1 : Nat) : Int) ∧ 1 ≤ z.2 ∧ z.2 ≤ 1000) ∧ (q.1.Pairwise fun a b => a.1 < b.1) ∧ (t3.1 < ((i + 1 : Nat) : Int) → q.1 ≠ []) ∧ StOk q.2 (n + 1 + 2 * ((i + 1 : Nat) : Int))) (y_if (fun c => ?_) fun c => y_some ?_) fun q hq => y_some hq
      · refine y_bind (take_ok hp.2 (by omega) (by decide)) fun t39 h39 => ?_
        refine y_bind (ixL_lit (P := fun z => 1 ≤ z ∧ z ≤ 1000) h39.1.1 h39.1.2 (by decide)) fun t41 h41 => y_eq (room_s (by show e.length ≤ _; omega)) (y_some ⟨?_, ?_, ?_, ?_, ?_⟩)
        · show (e ++ [_]).length ≤ _
          rw [List.length_append, List.length_singleton]; omega
        · intro z hz
          rcases List.mem_append.mp hz with hz | hz
          · have := g2 z hz; omega
          · rw [List.mem_singleton.mp hz]; show 0 ≤ (i : Int) ∧ (i : Int) < _ ∧ 1 ≤ t41 ∧ t41 ≤ 1000; omega
        · show (e ++ [_]).Pairwise _
          refine List.pairwise_append.mpr ⟨g3, List.pairwise_singleton _ _, fun a ha b hb => ?_⟩
          rw [List.mem_singleton.mp hb]
          exact (g2 a ha).2.1
        · intro _ h; exact absurd h (by simp)
        · exact h39.2.le (by omega)
      · refine ⟨Nat.le_succ_of_le g1, fun z hz => by have := g2 z hz; omega, g3, fun h => ?_, ?_⟩
        · by_cases q : t3.1 = (i : Int)
          · exact absurd (hp.1 q) c
          · exact g4 (by omega)
        · exact hp.2.le (by omega)
  · obtain ⟨g1, g2, g3, g4, g5⟩ := hp
    rw [rng_len] at g1 g2 g4 g5
    have em : (((many - 0).toNat : Nat) : Int) = many := by omega
    refine ⟨⟨g4 (by omega), by omega, fun q hq => by have := g2 q hq; omega, g3⟩, ?_⟩
    rw [em] at g5
    exact g5
theorem choices_ok {st : List Int × Int} {n many most : Int} (hs : StOk st n) (hn : n < 2 ^ 49) (hm : 1 ≤ many) (hm2 : many ≤ 100) (h1 : 1 ≤ most) (h2 : most ≤ 100) : Yes (m_l_choices st many most) fun r => VCS many.toNat most.toNat r.1 ∧ StOk r.2 (n + 1 + most * 300) := by
  unfold m_l_choices
  refine y_bind (take_ok hs (by omega) (by omega)) fun t3 h3 => ?_
  obtain ⟨⟨h31, h32⟩, h33⟩ := h3
  refine y_eq (small62_s (by omega) (by omega)) ?_
  refine y_bind (Q := fun (p : List (Int × List (Int × Int)) × (List Int × Int)) => VCS many.toNat most.toNat p.1 ∧ StOk p.2 (n + 1 + most * 300)) ?_ fun p hp => y_some hp
  refine (y_foldI _ (fun i (p : List (Int × List (Int × Int)) × (List Int × Int)) => p.1.length = i ∧ (∀ c ∈ p.1, VC many.toNat c) ∧ StOk p.2 (n + 1 + 300 * i)) ⟨rfl, by simp, by simpa using h33⟩ ?_).mono fun p hp => ?_
  · rintro i x ⟨e, st⟩ hx ⟨g1, g2, g3⟩
    obtain ⟨e1, e2⟩ := rng_at hx
    dsimp only at g1 g2 g3
    refine y_bind (take_ok g3 (by omega) (by decide)) fun t27 h27 => ?_
    refine y_bind (ixL_lit (P := fun z => 0 ≤ z ∧ z ≤ 1000) h27.1.1 h27.1.2 (by decide)) fun t29 h29 => ?_
    refine y_bind (ends_ok h27.2 (by omega) hm hm2) fun t31 h31' => y_eq (room_s (by show e.length ≤ _; omega)) (y_some ⟨?_, ?_, ?_⟩)
    · show (e ++ [_]).length = _
      rw [List.length_append, List.length_singleton, g1]
    · intro z hz
      rcases List.mem_append.mp hz with hz | hz
      · exact g2 z hz
      · rw [List.mem_singleton.mp hz]; exact ⟨h29.1, h29.2, h31'.1⟩
    · exact h31'.2.le (by omega)
  · obtain ⟨g1, g2, g3⟩ := hp
    rw [rng_len] at g1 g3
    refine ⟨⟨by omega, by omega, g2⟩, ?_⟩
    exact g3.le (by omega)
theorem system_ok {st : List Int × Int} {n most : Int} (hs : StOk st n) (hn : n < 2 ^ 48) (h1 : 1 ≤ most) (h2 : most ≤ 99) : Yes (m_l_system st most) fun r => (VS 3 r.1 ∧ (r.1.length : Int) ≤ most) ∧ StOk r.2 (n + 1 + most * 1000) := by
  unfold m_l_system
  refine y_bind (take_ok hs (by omega) (by omega)) fun t1 h => ?_
  obtain ⟨⟨h11, h12⟩, h13⟩ := h
  refine y_eq (small62_s (by omega) (by omega)) (y_eq (room_s (by rw [rng_len]; omega)) ?_)
  refine y_bind (Q := fun (r : List (List (Int × List (Int × Int))) × (List Int × Int)) => (VS 3 r.1 ∧ (r.1.length : Int) ≤ most) ∧ StOk r.2 (n + 1 + most * 1000)) ?_ fun r hr => y_some hr
  refine (y_comp _ (fun i ys s => ys.length = i ∧ (∀ cs ∈ ys, VCS (1 + t1.1).toNat 3 cs) ∧ StOk s (n + 1 + 1000 * i)) ⟨rfl, by simp, by simpa using h13⟩ ?_).mono fun r hr => ?_
  · rintro i x ys s hx ⟨g1, g2, g3⟩
    obtain ⟨e1, e2⟩ := rng_at hx
    refine y_bind (choices_ok g3 (by omega) (by omega) (by omega) (by decide) (by decide)) fun t32 h32 => y_some ⟨?_, ?_, ?_⟩
    · simp [g1]
    · intro cs hc
      rcases List.mem_append.mp hc with hc | hc
      · exact g2 cs hc
      · have hc : cs = t32.1 := by simpa using hc
        rw [hc]; exact h32.1
    · exact h32.2.le (by omega)
  · obtain ⟨g1, g2, g3⟩ := hr
    rw [rng_len] at g1 g3
    have el : (1 + t1.1).toNat = r.1.length := by omega
    refine ⟨⟨⟨by omega, fun cs hc => by rw [← el]; exact g2 cs hc⟩, by omega⟩, ?_⟩
    exact g3.le (by omega)
end L3

namespace L3
open PySem L2
/-! ### sets of states -/
def restOf (n : Int) (al ta : List Int) : List Int := (rng 0 n).filter fun x => decide (x ∈ al) && !decide (x ∈ ta)
theorem rest_ok {sys : List (List (Int × List (Int × Int)))} {al ta : List Int} (h : sys.length ≤ 1000) : m_rest_of sys al ta = some (restOf sys.length al ta) := by
  unfold m_rest_of
  refine bnd (small62_s (by omega) (by omega)) (bnd (room_s (by rw [rng_len]; omega)) (bnd (compM_filter fun x _ => rfl) rfl))
theorem rest_in {n : Int} {al ta : List Int} {r : Int} (h : r ∈ restOf n al ta) : (0 ≤ r ∧ r < n) ∧ r ∈ al ∧ r ∉ ta := by
  obtain ⟨h1, h2⟩ := List.mem_filter.mp h
  simp at h2
  exact ⟨rng_mem h1, h2⟩
theorem rest_len {n : Nat} {al ta : List Int} : (restOf (n : Int) al ta).length ≤ n := by
  refine Nat.le_trans (List.length_filter_le _ _) ?_
  rw [rng_len]; omega
theorem some_ok {st : List Int × Int} {n many share : Int} (hs : StOk st n) (hn : n < 2 ^ 50) (h0 : 0 ≤ many) (h1 : many ≤ 1000) (h2 : 0 < share) : Yes (m_l_some st many share) fun r => ((∀ x ∈ r.1, 0 ≤ x ∧ x < many) ∧ r.1.Nodup) ∧ StOk r.2 (n + many + 1) := by
  unfold m_l_some
  refine y_eq (small62_s (by omega) (by omega)) (y_eq (room_s (by rw [rng_len]; omega)) ?_)
  refine y_bind (Q := fun (r : List Int × (List Int × Int)) => ((∀ x ∈ r.1, 0 ≤ x ∧ x < many) ∧ r.1.Nodup) ∧ StOk r.2 (n + many)) ?_ fun r hr => ?_
  · refine (y_comp _ (fun i ys s => ((∀ x ∈ ys, 0 ≤ x ∧ x < (i : Int)) ∧ ys.Nodup) ∧ StOk s (n + i)) ⟨⟨by simp, by simp⟩, by simpa using hs⟩ ?_).mono fun r hr => ?_
    · rintro i x ys s hx ⟨⟨g1, g2⟩, g3⟩
      obtain ⟨e1, e2⟩ := rng_at hx
      refine y_bind (take_ok g3 (by omega) h2) fun t ht => ?_
      refine y_if (fun c => y_some ⟨⟨fun y hy => ?_, ?_⟩, ht.2.le (by omega)⟩) (fun c => y_some ⟨⟨fun y hy => ?_, ?_⟩, ht.2.le (by omega)⟩)
      · rcases List.mem_append.mp hy with hy | hy
        · have := g1 y hy; omega
        · have : y = x := by simpa using hy
          omega
      · refine List.nodup_append.mpr ⟨g2, by simp, fun a ha b hb => ?_⟩
        have : b = x := by simpa using hb
        have := g1 a ha
        omega
      · have hy : y ∈ ys := by simpa using hy
        have := g1 y hy; omega
      · simpa using g2
    · rw [rng_len] at hr
      obtain ⟨⟨a, b⟩, c⟩ := hr
      have e : (((many - 0).toNat : Nat) : Int) = many := by omega
      rw [e] at a c
      exact ⟨⟨a, b⟩, c⟩
  · refine y_bind (take_ok hr.2 (by omega) (by decide)) fun t ht => ?_
    refine y_bind (Q := fun (r : List Int × (List Int × Int)) => ((∀ x ∈ r.1, 0 ≤ x ∧ x < many) ∧ r.1.Nodup) ∧ StOk r.2 (n + many + 1)) (y_if (fun c => y_some ⟨⟨fun x hx => hr.1.1 x (List.mem_reverse.mp hx), (List.reverse_perm _).nodup_iff.mpr hr.1.2⟩, ht.2⟩) (fun c => y_some ⟨hr.1, ht.2⟩)) fun r hr => y_some hr
end L3

namespace L3
open PySem L2
/-! ### sets of states that grow or shrink -/
abbrev TSy := List (List (Int × List (Int × Int)))
def ixb (ks : List Bool) (x : Int) : Bool := ks.getD x.toNat false
def chs' (sys : TSy) (x : Int) : List (Int × List (Int × Int)) := sys.getD x.toNat []
def OKS (n : Nat) (sys : TSy) : Prop := sys.length = n ∧ n ≤ 1000 ∧ ∀ cs ∈ sys, cs.length ≤ 1000 ∧ ∀ c ∈ cs, c.2.length ≤ 1000 ∧ ∀ q ∈ c.2, 0 ≤ q.1 ∧ q.1 < (n : Int)
def InR (n : Nat) (x : Int) : Prop := 0 ≤ x ∧ x < (n : Int)
theorem ixb_ix {n : Nat} {ks : List Bool} {x : Int} (h : ks.length = n) (hx : InR n x) : ixL ks x = some (ixb ks x) := by
  obtain ⟨h0, h1⟩ := hx
  obtain ⟨k, rfl⟩ := Int.eq_ofNat_of_zero_le h0
  have hk : k < ks.length := by omega
  refine ixL_s (n := k) ?_ rfl
  unfold ixb
  rw [Int.toNat_natCast, List.getD_eq_getElem?_getD, List.getElem?_eq_getElem hk]
  rfl
theorem chs_ix {n : Nat} {sys : TSy} {x : Int} (h : OKS n sys) (hx : InR n x) : ixL sys x = some (chs' sys x) ∧ chs' sys x ∈ sys := by
  obtain ⟨h0, h1⟩ := hx
  obtain ⟨k, rfl⟩ := Int.eq_ofNat_of_zero_le h0
  have hk : k < sys.length := by have := h.1; omega
  have e : chs' sys (k : Int) = sys[k] := by
    unfold chs'
    rw [Int.toNat_natCast, List.getD_eq_getElem?_getD, List.getElem?_eq_getElem hk]
    rfl
  rw [e]
  exact ⟨ixL_s (List.getElem?_eq_getElem hk) rfl, List.getElem_mem hk⟩
theorem ends_r {n : Nat} {sys : TSy} {x : Int} {c : Int × List (Int × Int)} {q : Int × Int} (h : OKS n sys) (hx : InR n x) (hc : c ∈ chs' sys x) (hq : q ∈ c.2) : InR n q.1 := ((h.2.2 _ (chs_ix h hx).2).2 c hc).2 q hq
theorem ixb_set {ks : List Bool} {x y : Int} {b : Bool} (hx : 0 ≤ x) (hy : 0 ≤ y) (hl : x < (ks.length : Int)) : ixb (ks.set x.toNat b) y = if y = x then b else ixb ks y := by
  obtain ⟨i, rfl⟩ := Int.eq_ofNat_of_zero_le hx
  obtain ⟨j, rfl⟩ := Int.eq_ofNat_of_zero_le hy
  unfold ixb
  simp only [Int.toNat_natCast, List.getD_eq_getElem?_getD]
  by_cases h : i = j
  · subst h
    rw [if_pos rfl, List.getElem?_set_self (by omega)]
    rfl
  · rw [if_neg (by omega), List.getElem?_set_ne h]
def endsIn (e : List (Int × Int)) (ks : List Bool) : Bool := e.any fun q => ixb ks q.1
def allIn (e : List (Int × Int)) (ks : List Bool) : Bool := e.all fun q => ixb ks q.1
theorem ends_in_ok {n : Nat} {e : List (Int × Int)} {ks : List Bool} (h : ks.length = n) (he : ∀ q ∈ e, InR n q.1) : m_ends_in e ks = some (endsIn e ks) := by
  unfold m_ends_in
  exact bnd (any_some fun q hq => bnd (ixb_ix h (he q hq)) rfl) rfl
theorem all_in_ok {n : Nat} {e : List (Int × Int)} {ks : List Bool} (h : ks.length = n) (he : ∀ q ∈ e, InR n q.1) : m_all_in e ks = some (allIn e ks) := by
  unfold m_all_in
  exact bnd (all_some fun q hq => bnd (ixb_ix h (he q hq)) rfl) rfl
/-! ### a loop that flips marks while it can -/
def stepG (fl : Bool) (cond : List Bool → Int → Bool) (s : Bool × List Bool) (x : Int) : Bool × List Bool := if (ixb s.2 x == !fl) && cond s.2 x then (true, s.2.set x.toNat fl) else s
theorem cnt_set {ks : List Bool} {x : Int} {b : Bool} (hx : 0 ≤ x) (hl : x < (ks.length : Int)) (h : ixb ks x = !b) : (ks.set x.toNat b).count (!b) < ks.count (!b) := by
  obtain ⟨i, rfl⟩ := Int.eq_ofNat_of_zero_le hx
  have hi : i < ks.length := by omega
  unfold ixb at h
  rw [Int.toNat_natCast, List.getD_eq_getElem?_getD, List.getElem?_eq_getElem hi] at h
  have h : ks[i] = !b := h
  have e1 : ((!b) == (!b)) = true := by cases b <;> rfl
  have e2 : (b == !b) = false := by cases b <;> rfl
  have : 0 < ks.count (!b) := List.count_pos_iff.mpr (h ▸ List.getElem_mem hi)
  rw [Int.toNat_natCast, List.count_set hi, h, e1, e2, if_pos rfl, if_neg (by decide)]
  omega
theorem grow_ok {rest : List Int} {fl : Bool} {cond : List Bool → Int → Bool} {n : Nat} {ks0 : List Bool} (h0 : ks0.length = n) (hr : ∀ x ∈ rest, InR n x)
    (body : (Bool × List Bool) → Int → Option (Bool × List Bool)) (hb : ∀ s x, s.2.length = n → x ∈ rest → body s x = some (stepG fl cond s x))
    (Inv : List Bool → Prop) (hI0 : Inv ks0) (hI : ∀ ks x, ks.length = n → Inv ks → x ∈ rest → ixb ks x = !fl → cond ks x = true → Inv (ks.set x.toNat fl))
    (F : (Bool × List Bool) → Option (Stp (Bool × List Bool) Empty)) (hF : ∀ s, F s = if s.1 = true then Option.bind (foldO body (false, s.2) rest) fun s' => some (Stp.nx (s'.1, s'.2)) else some (Stp.bk (s.1, s.2))) :
    Yes (whileB F (true, ks0)) fun s => s.2.length = n ∧ Inv s.2 ∧ ∀ x ∈ rest, ixb s.2 x = !fl → cond s.2 x = false := by
  refine y_whileB F (fun s => s.2.length = n ∧ Inv s.2 ∧ (s.1 = false → ∀ x ∈ rest, ixb s.2 x = !fl → cond s.2 x = false)) (fun s => 2 * s.2.count (!fl) + if s.1 = true then 1 else 0) _ ⟨h0, hI0, fun h => (by cases h)⟩ ?_
  rintro ⟨g, ks⟩ ⟨h1, h2, h3⟩
  dsimp only at h1 h2 h3
  rw [hF]
  refine y_if (fun c => ?_) (fun c => y_some ⟨h1, h2, h3 (by simpa using c)⟩)
  have c : g = true := c
  subst c
  refine y_bind (y_foldI body (fun i s => s.2.length = n ∧ Inv s.2 ∧ (s.1 = false → s.2 = ks ∧ ∀ (j : Nat) x, j < i → rest[j]? = some x → ixb ks x = !fl → cond ks x = false) ∧ (s.1 = true → s.2.count (!fl) < ks.count (!fl)) ∧ s.2.count (!fl) ≤ ks.count (!fl)) ⟨h1, h2, fun _ => ⟨rfl, fun j x hj => absurd hj (by omega)⟩, fun h => (by cases h), Nat.le_refl _⟩ ?_) fun s' hs' => y_some ?_
  · rintro i x ⟨g', ks'⟩ hx ⟨k1, k2, k3, k4, k5⟩
    dsimp only at k1 k2 k3 k4 k5
    have hm := List.mem_of_getElem? hx
    obtain ⟨x0, x1⟩ := hr x hm
    refine ⟨_, hb _ x k1 hm, ?_⟩
    unfold stepG
    by_cases t : ((ixb ks' x == !fl) && cond ks' x) = true
    · rw [if_pos t]
      simp only [Bool.and_eq_true, beq_iff_eq] at t
      have hc := cnt_set x0 (by omega) t.1
      exact ⟨by simp [k1], hI _ _ k1 k2 hm t.1 t.2, fun h => (by cases h), fun _ => Nat.lt_of_lt_of_le hc k5, Nat.le_trans (Nat.le_of_lt hc) k5⟩
    · rw [if_neg t]
      refine ⟨k1, k2, fun h => ?_, k4, k5⟩
      obtain ⟨e, k6⟩ := k3 h
      have e : ks' = ks := e
      subst e
      refine ⟨rfl, fun j y hj hy hy2 => ?_⟩
      by_cases ej : j = i
      · subst ej
        rw [hx] at hy
        cases hy
        simp only [Bool.and_eq_true, beq_iff_eq, not_and, Bool.not_eq_true] at t
        exact t hy2
      · exact k6 j y (by omega) hy hy2
  · obtain ⟨k1, k2, k3, k4, k5⟩ := hs'
    refine ⟨⟨k1, k2, fun h x hx hx2 => ?_⟩, ?_⟩
    · obtain ⟨e, k6⟩ := k3 h
      obtain ⟨j, hj⟩ := List.getElem?_of_mem hx
      rw [e] at hx2 ⊢
      exact k6 j x (List.getElem?_eq_some_iff.mp hj).1 hj hx2
    · show 2 * s'.2.count (!fl) + (if s'.1 = true then 1 else 0) < 2 * ks.count (!fl) + 1
      by_cases g : s'.1 = true
      · rw [if_pos g]; have := k4 g; omega
      · rw [if_neg g]; omega
/-! ### what is reached -/
inductive Rch (st : Int → Int → Prop) (b : Int → Prop) : Int → Prop
  | base {x : Int} : b x → Rch st b x
  | step {x y : Int} : st x y → Rch st b y → Rch st b x
theorem Rch.mono {st st' : Int → Int → Prop} {b b' : Int → Prop} (h1 : ∀ x y, st x y → st' x y) (h2 : ∀ x, b x → b' x) {x : Int} (h : Rch st b x) : Rch st' b' x := by
  induction h with
  | base h => exact .base (h2 _ h)
  | step s _ ih => exact .step (h1 _ _ s) ih
theorem Rch.sub {st : Int → Int → Prop} {b X : Int → Prop} (h1 : ∀ x y, st x y → X y → X x) (h2 : ∀ x, b x → X x) {x : Int} (h : Rch st b x) : X x := by
  induction h with
  | base h => exact h2 _ h
  | step s _ ih => exact h1 _ _ s ih
/-- some choice of x has y as an end -/
def stS (sys : TSy) (rest : List Int) (x y : Int) : Prop := x ∈ rest ∧ ∃ c ∈ chs' sys x, ∃ q ∈ c.2, q.1 = y
theorem backward_ok {n : Nat} {sys : TSy} {rest : List Int} {ks : List Bool} (hs : OKS n sys) (hr : ∀ x ∈ rest, InR n x) (hk : ks.length = n) :
    Yes (m_backward sys rest ks) fun r => r.length = n ∧ ∀ x, InR n x → (ixb r x = true ↔ Rch (stS sys rest) (fun y => InR n y ∧ ixb ks y = true) x) := by
  unfold m_backward
  refine y_bind (grow_ok (fl := true) (cond := fun ks x => (chs' sys x).any fun c => endsIn c.2 ks) hk hr _ (fun s x hl hx => ?_) (fun k => (∀ x, InR n x → ixb ks x = true → ixb k x = true) ∧ ∀ x, InR n x → ixb k x = true → Rch (stS sys rest) (fun y => InR n y ∧ ixb ks y = true) x) ⟨fun _ _ h => h, fun x hx h => .base ⟨hx, h⟩⟩ ?_ _ fun _ => rfl) fun s hs' => y_some ?_
  · obtain ⟨c1, c2⟩ := chs_ix hs (hr x hx)
    refine bnd (ixb_ix hl (hr x hx)) ?_
    show _ = some (if ((ixb s.2 x == !true) && (chs' sys x).any fun c => endsIn c.2 s.2) = true then (true, s.2.set x.toNat true) else s)
    cases hv : ixb s.2 x with
    | true => rfl
    | false =>
      refine bnd (a := (chs' sys x).any fun c => endsIn c.2 s.2) ?_ ?_
      · refine bnd c1 (bnd (any_some (g := fun c => endsIn c.2 s.2) fun c hc => ?_) rfl)
        exact bnd (ends_in_ok hl fun q hq => ends_r hs (hr x hx) hc hq) rfl
      · cases hc : (chs' sys x).any fun c => endsIn c.2 s.2 with
        | false => rfl
        | true =>
          refine bnd (bnd (ixO_s (i := x.toNat) (by have := (hr x hx).1; omega) (by have h1 := (hr x hx).1; have h2 := (hr x hx).2; omega)) rfl) rfl
  · rintro k x hl ⟨h1, h2⟩ hx hv hc
    have hxr := hr x hx
    refine ⟨fun y hy h => ?_, fun y hy h => ?_⟩
    · rw [ixb_set hxr.1 hy.1 (by have := hxr.2; omega)]
      split
      · rfl
      · exact h1 y hy h
    · rw [ixb_set hxr.1 hy.1 (by have := hxr.2; omega)] at h
      split at h
      · rename_i e
        subst e
        obtain ⟨c, hc1, hc2⟩ := List.any_eq_true.mp hc
        obtain ⟨q, hq1, hq2⟩ := List.any_eq_true.mp hc2
        exact .step ⟨hx, c, hc1, q, hq1, rfl⟩ (h2 q.1 (ends_r hs hxr hc1 hq1) hq2)
      · exact h2 y hy h
  · obtain ⟨l, ⟨h1, h2⟩, h3⟩ := hs'
    refine ⟨l, fun x hx => ⟨h2 x hx, fun h => ?_⟩⟩
    refine h.sub (X := fun x => ixb s.2 x = true) ?_ fun y hy => h1 y hy.1 hy.2
    rintro x y ⟨hx, c, hc, q, hq, rfl⟩ hy
    cases hv : ixb s.2 x with
    | true => rfl
    | false =>
      have := h3 x hx (by rw [hv]; rfl)
      rw [List.any_eq_false] at this
      have := this c hc
      exact absurd (List.any_eq_true.mpr ⟨q, hq, hy⟩) this
theorem never_ok {n : Nat} {sys : TSy} {al ta : List Int} (hs : OKS n sys) :
    Yes (m_never sys al ta) fun r => r.length = n ∧ (∀ x, InR n x → ixb r x = true → x ∉ ta ∧ (x ∈ restOf n al ta → ∃ c ∈ chs' sys x, ∀ q ∈ c.2, ixb r q.1 = true)) ∧
      ∀ X : Int → Prop, (∀ x, InR n x → X x → x ∉ ta ∧ (x ∈ restOf n al ta → ∃ c ∈ chs' sys x, ∀ q ∈ c.2, X q.1)) → ∀ x, InR n x → X x → ixb r x = true := by
  obtain ⟨l, l2, _⟩ := id hs
  have hr : ∀ x ∈ restOf (n : Int) al ta, InR n x := fun x hx => (rest_in hx).1
  unfold m_never
  refine y_eq (rest_ok (by omega)) (y_eq (small62_s (by omega) (by omega)) (y_eq (room_s (by rw [rng_len]; omega)) (y_eq (a := ((rng 0 (sys.length : Int)).map fun x => !decide (x ∈ ta), ())) (compM_map fun _ _ => rfl) ?_)))
  have h0 : ∀ x, InR n x → ixb ((rng 0 (sys.length : Int)).map fun x => !decide (x ∈ ta)) x = !decide (x ∈ ta) := by
    rintro x ⟨h0, h1⟩
    obtain ⟨k, rfl⟩ := Int.eq_ofNat_of_zero_le h0
    have e : (rng 0 (sys.length : Int))[k]? = some (k : Int) := by
      unfold rng
      rw [List.getElem?_map, List.getElem?_range (by omega)]
      simp
    unfold ixb
    rw [Int.toNat_natCast, List.getD_eq_getElem?_getD, List.getElem?_map, e]
    simp
  rw [l] at *
  refine y_bind (grow_ok (fl := false) (n := n) (rest := restOf n al ta) (cond := fun ks x => !(chs' sys x).any fun c => allIn c.2 ks) (by rw [List.length_map, rng_len]; omega) hr _ (fun s x hl hx => ?_) (fun k => (∀ x, InR n x → ixb k x = true → x ∉ ta) ∧ ∀ X : Int → Prop, (∀ x, InR n x → X x → x ∉ ta ∧ (x ∈ restOf n al ta → ∃ c ∈ chs' sys x, ∀ q ∈ c.2, X q.1)) → ∀ x, InR n x → X x → ixb k x = true) ⟨fun x hx h => ?_, fun X hX x hx h => ?_⟩ ?_ _ fun _ => rfl) fun s hs' => y_some ?_
  · obtain ⟨c1, c2⟩ := chs_ix hs (hr x hx)
    refine bnd (ixb_ix hl (hr x hx)) ?_
    show _ = some (if ((ixb s.2 x == !false) && !(chs' sys x).any fun c => allIn c.2 s.2) = true then (true, s.2.set x.toNat false) else s)
    cases hv : ixb s.2 x with
    | false => rfl
    | true =>
      refine bnd (a := !(chs' sys x).any fun c => allIn c.2 s.2) ?_ ?_
      · refine bnd c1 (bnd (any_some (g := fun c => allIn c.2 s.2) fun c hc => ?_) rfl)
        exact bnd (all_in_ok hl fun q hq => ends_r hs (hr x hx) hc hq) rfl
      · cases hc : (chs' sys x).any fun c => allIn c.2 s.2 with
        | true => rfl
        | false =>
          refine bnd (bnd (ixO_s (i := x.toNat) (by have := (hr x hx).1; omega) (by have h1 := (hr x hx).1; have h2 := (hr x hx).2; omega)) rfl) rfl
  · rw [h0 x hx] at h; simpa using h
  · rw [h0 x hx]; simpa using (hX x hx h).1
  · rintro k x hl ⟨h1, h2⟩ hx hv hc
    have hxr := hr x hx
    refine ⟨fun y hy h => ?_, fun X hX y hy h => ?_⟩
    · rw [ixb_set hxr.1 hy.1 (by have := hxr.2; omega)] at h
      split at h
      · cases h
      · exact h1 y hy h
    · rw [ixb_set hxr.1 hy.1 (by have := hxr.2; omega)]
      split
      · rename_i e
        subst e
        obtain ⟨c, hc1, hc2⟩ := (hX y hy h).2 hx
        have : ((chs' sys y).any fun c => allIn c.2 k) = true := List.any_eq_true.mpr ⟨c, hc1, List.all_eq_true.mpr fun q hq => h2 X hX q.1 (ends_r hs hxr hc1 hq) (hc2 q hq)⟩
        rw [this] at hc
        cases hc
      · exact h2 X hX y hy h
  · obtain ⟨l, ⟨h1, h2⟩, h3⟩ := hs'
    refine ⟨l, fun x hx hv => ⟨h1 x hx hv, fun hm => ?_⟩, h2⟩
    have := h3 x hm hv
    have this : ((chs' sys x).any fun c => allIn c.2 s.2) = true := by simpa using this
    obtain ⟨c, hc, hc2⟩ := List.any_eq_true.mp this
    exact ⟨c, hc, fun q hq => List.all_eq_true.mp hc2 q hq⟩
end L3

namespace L3
open PySem L2
/-- some choice of x within P has y as an end -/
def stP (sys : TSy) (rest : List Int) (P : Int → Prop) (x y : Int) : Prop := x ∈ rest ∧ ∃ c ∈ chs' sys x, (∀ q ∈ c.2, P q.1) ∧ ∃ q ∈ c.2, q.1 = y
theorem cnt_lt : ∀ {xs ys : List Bool}, xs.length = ys.length → (∀ i : Nat, xs[i]? = some true → ys[i]? = some true) → xs ≠ ys → xs.count true < ys.count true
  | [], [], _, _, h => absurd rfl h
  | x :: xs, y :: ys, hl, h, hne => by
    have le : ∀ {xs ys : List Bool}, xs.length = ys.length → (∀ i : Nat, xs[i]? = some true → ys[i]? = some true) → xs.count true ≤ ys.count true := by
      intro xs
      induction xs with
      | nil => intro ys hl h; simp
      | cons x xs ih =>
        intro ys hl h
        cases ys with
        | nil => simp at hl
        | cons y ys =>
          have := ih (ys := ys) (by simpa using hl) fun i => by simpa using h (i + 1)
          have h0 := h 0
          simp at h0
          rw [List.count_cons, List.count_cons]
          cases x <;> cases y <;> simp at h0 ⊢ <;> omega
    have ht : ∀ i : Nat, xs[i]? = some true → ys[i]? = some true := fun i => by simpa using h (i + 1)
    have h0 := h 0
    simp at h0
    have hl : xs.length = ys.length := by simpa using hl
    rw [List.count_cons, List.count_cons]
    by_cases e : xs = ys
    · subst e
      cases x <;> cases y <;> simp at h0 hne ⊢
    · have := cnt_lt hl ht e
      cases x <;> cases y <;> simp at h0 ⊢ <;> omega
theorem ixb_get {ks : List Bool} {i : Nat} : ks[i]? = some true ↔ (i < ks.length ∧ ixb ks (i : Int) = true) := by
  unfold ixb
  rw [Int.toNat_natCast, List.getD_eq_getElem?_getD]
  constructor
  · intro h
    exact ⟨(List.getElem?_eq_some_iff.mp h).1, by rw [h]; rfl⟩
  · rintro ⟨h1, h2⟩
    rw [List.getElem?_eq_getElem h1] at h2 ⊢
    exact congrArg some h2
def IsSure (n : Nat) (sys : TSy) (rest ta : List Int) (r : List Bool) : Prop := r.length = n ∧ (∀ x, InR n x → (ixb r x = true ↔ Rch (stP sys rest fun y => ixb r y = true) (fun y => y ∈ ta) x)) ∧
  ∀ X : Int → Prop, (∀ x, X x → InR n x) → (∀ x, X x → Rch (stP sys rest X) (fun y => y ∈ ta) x) → ∀ x, X x → ixb r x = true
/-! ### lists of states -/
theorem enumI_rng (ks : List Bool) : enumI 0 ks = (rng 0 (ks.length : Int)).map fun x => (x, ixb ks x) := by
  refine List.ext_getElem? fun i => ?_
  rw [enumI_at, List.getElem?_map, rng_ix]
  by_cases h : i < ks.length
  · rw [if_pos h, List.getElem?_eq_getElem h]
    simp [ixb, List.getD_eq_getElem?_getD, List.getElem?_eq_getElem h]
  · rw [if_neg h, List.getElem?_eq_none (by omega)]; rfl
theorem compM_pick {α : Type} {f : Unit → (α × Bool) → Option (Option α × Unit)} (hf : ∀ x, f () x = if x.2 = true then some (some x.1, ()) else some (none, ())) {g : α → Bool} : ∀ (xs : List α), compM f () (xs.map fun x => (x, g x)) = some (xs.filter g, ())
  | [] => rfl
  | x :: xs => by
    rw [List.map_cons]
    unfold compM
    rw [hf]
    cases hx : g x with
    | true => rw [if_pos rfl]; dsimp only; rw [compM_pick hf xs, List.filter_cons, hx]; rfl
    | false => rw [if_neg Bool.false_ne_true]; dsimp only; rw [compM_pick hf xs, List.filter_cons, hx]; rfl
theorem rng_in {n : Nat} {x : Int} : x ∈ rng 0 (n : Int) ↔ InR n x := by
  constructor
  · intro h; exact rng_mem h
  · rintro ⟨h0, h1⟩
    obtain ⟨k, rfl⟩ := Int.eq_ofNat_of_zero_le h0
    refine List.mem_of_getElem? (i := k) ?_
    rw [rng_ix, if_pos (by omega)]
def isPos (n : Nat) (sys : TSy) (al ta : List Int) (x : Int) : Prop := Rch (stS sys (restOf n al ta)) (fun y => InR n y ∧ y ∈ ta) x
noncomputable def dec (p : Prop) : Bool := @decide p (Classical.propDecidable p)
theorem dec_iff {p : Prop} : dec p = true ↔ p := @decide_eq_true_iff p (Classical.propDecidable p)
/-- the states with a property, in order -/
noncomputable def pick (n : Nat) (P : Int → Prop) : List Int := (rng 0 (n : Int)).filter fun x => dec (P x)
theorem pick_eq {n : Nat} {P : Int → Prop} {p : Int → Bool} (h : ∀ x, InR n x → (p x = true ↔ P x)) : (rng 0 (n : Int)).filter p = pick n P := by
  unfold pick
  refine List.filter_congr fun x hx => ?_
  have := h x (rng_in.mp hx)
  rw [Bool.eq_iff_iff, this, dec_iff]
theorem pick_congr {n : Nat} {P Q : Int → Prop} (h : ∀ x, InR n x → (P x ↔ Q x)) : pick n P = pick n Q := by
  unfold pick
  refine List.filter_congr fun x hx => ?_
  have := h x (rng_in.mp hx)
  rw [Bool.eq_iff_iff, dec_iff, dec_iff, this]
theorem pick_mem {n : Nat} {P : Int → Prop} {x : Int} : x ∈ pick n P ↔ InR n x ∧ P x := by
  unfold pick
  rw [List.mem_filter, rng_in, dec_iff]
theorem pick_len {n : Nat} {P : Int → Prop} : (pick n P).length ≤ n := by
  unfold pick
  refine Nat.le_trans (List.length_filter_le _ _) ?_
  rw [rng_len]; omega
/-- the set within which one can stay away from the targets -/
structure IsNev (n : Nat) (sys : TSy) (al ta : List Int) (N : Int → Prop) : Prop where
  r : ∀ x, N x → InR n x
  out : ∀ x, N x → x ∉ ta
  st : ∀ x, N x → x ∈ restOf n al ta → ∃ c ∈ chs' sys x, ∀ q ∈ c.2, N q.1
def isNev (n : Nat) (sys : TSy) (al ta : List Int) (x : Int) : Prop := ∃ N, IsNev n sys al ta N ∧ N x
theorem nev_self {n : Nat} {sys : TSy} {al ta : List Int} : IsNev n sys al ta (isNev n sys al ta) := ⟨fun x ⟨N, h, hx⟩ => h.r x hx, fun x ⟨N, h, hx⟩ => h.out x hx, fun x ⟨N, h, hx⟩ hm => by
  obtain ⟨c, hc, hq⟩ := h.st x hx hm
  exact ⟨c, hc, fun q hqq => ⟨N, h, hq q hqq⟩⟩⟩
theorem never_iff {n : Nat} {sys : TSy} {al ta : List Int} (hs : OKS n sys) : Yes (m_never sys al ta) fun r => r.length = n ∧ ∀ x, InR n x → (ixb r x = true ↔ isNev n sys al ta x) := by
  refine (never_ok hs).mono fun r ⟨h1, h2, h3⟩ => ⟨h1, fun x hx => ⟨fun h => ?_, fun ⟨N, hN, hx2⟩ => h3 N (fun y hy hNy => ⟨hN.out y hNy, hN.st y hNy⟩) x hx hx2⟩⟩
  refine ⟨fun y => InR n y ∧ ixb r y = true, ⟨fun y hy => hy.1, fun y hy => (h2 y hy.1 hy.2).1, fun y hy hm => ?_⟩, hx, h⟩
  obtain ⟨c, hc, hq⟩ := (h2 y hy.1 hy.2).2 hm
  exact ⟨c, hc, fun q hqq => ⟨ends_r hs hy.1 hc hqq, hq q hqq⟩⟩
/-- the greatest set from which the targets are reached within it -/
structure IsAtt (n : Nat) (sys : TSy) (al ta : List Int) (X : Int → Prop) : Prop where
  r : ∀ x, X x → InR n x
  st : ∀ x, X x → Rch (stP sys (restOf n al ta) X) (fun y => y ∈ ta) x
def isAtt (n : Nat) (sys : TSy) (al ta : List Int) (x : Int) : Prop := ∃ X, IsAtt n sys al ta X ∧ X x
theorem att_self {n : Nat} {sys : TSy} {al ta : List Int} : IsAtt n sys al ta (isAtt n sys al ta) := ⟨fun x ⟨N, h, hx⟩ => h.r x hx, fun x ⟨N, h, hx⟩ => (h.st x hx).mono (fun x y ⟨a, c, b, d, e⟩ => ⟨a, c, b, fun q hq => ⟨N, h, d q hq⟩, e⟩) fun _ h => h⟩
/-- from where the never set is reached -/
def isLost (n : Nat) (sys : TSy) (al ta : List Int) (x : Int) : Prop := Rch (stS sys (restOf n al ta)) (isNev n sys al ta) x
theorem certain_ok {n : Nat} {sys : TSy} {al ta : List Int} (hs : OKS n sys) : m_certain sys al ta = some (pick n fun x => ¬ isLost n sys al ta x) := by
  obtain ⟨l, l2, _⟩ := id hs
  have hr : ∀ x ∈ restOf (n : Int) al ta, InR n x := fun x hx => (rest_in hx).1
  have hro := rest_ok (sys := sys) (al := al) (ta := ta) (by omega)
  obtain ⟨r, r1, r2, r3⟩ := never_iff (al := al) (ta := ta) hs
  obtain ⟨b, b1, b2, b3⟩ := backward_ok hs hr r2
  rw [← l] at b1
  unfold m_certain
  refine bnd hro (bnd r1 (bnd b1 (bnd (small62_s (by omega) (by omega)) (bnd (room_s (by rw [rng_len]; omega)) (bnd (compM_filter (p := fun x => !ixb b x) fun x hx => ?_) ?_)))))
  · exact bnd (ixb_ix b2 (rng_in.mp (by rw [← l]; exact hx))) rfl
  · rw [l]
    refine congrArg some (pick_eq fun x hx => ?_)
    rw [Bool.not_eq_true', ← Bool.not_eq_true, b3 x hx]
    refine not_congr ⟨fun h => h.mono (fun _ _ h => h) fun y hy => (r3 y hy.1).mp hy.2, fun h => h.mono (fun _ _ h => h) fun y hy => ⟨nev_self.r y hy, (r3 y (nev_self.r y hy)).mpr hy⟩⟩
end L3

namespace L3
open PySem L2
/-! ### policies and sets of states -/
theorem least {P : Nat → Prop} (h : ∃ k, P k) : ∃ k, P k ∧ ∀ j, j < k → ¬ P j := by
  obtain ⟨k, hk⟩ := h
  induction k using Nat.strongRecOn with
  | ind k ih =>
    by_cases e : ∃ j, j < k ∧ P j
    · obtain ⟨j, hj, hp⟩ := e
      exact ih j hj hp
    · exact ⟨k, hk, fun j hj hp => e ⟨j, hj, hp⟩⟩
def RchN (st : Int → Int → Prop) (b : Int → Prop) : Nat → Int → Prop
  | 0, x => b x
  | k + 1, x => RchN st b k x ∨ ∃ y, st x y ∧ RchN st b k y
theorem rch_n {st : Int → Int → Prop} {b : Int → Prop} {x : Int} (h : Rch st b x) : ∃ k, RchN st b k x := by
  induction h with
  | base h => exact ⟨0, h⟩
  | step s _ ih => obtain ⟨k, hk⟩ := ih; exact ⟨k + 1, .inr ⟨_, s, hk⟩⟩
theorem n_rch {st : Int → Int → Prop} {b : Int → Prop} : ∀ {k : Nat} {x : Int}, RchN st b k x → Rch st b x
  | 0, _, h => .base h
  | _ + 1, _, .inl h => n_rch h
  | _ + 1, _, .inr ⟨_, s, h⟩ => .step s (n_rch h)
noncomputable def rkk (st : Int → Int → Prop) (b : Int → Prop) (x : Int) : Nat := @dite Nat (∃ k, RchN st b k x) (Classical.propDecidable _) (fun h => Classical.choose (least h)) fun _ => 0
theorem rkk_ok {st : Int → Int → Prop} {b : Int → Prop} {x : Int} (h : Rch st b x) : b x ∨ ∃ y, st x y ∧ Rch st b y ∧ rkk st b y < rkk st b x := by
  have hx := rch_n h
  have ex : rkk st b x = Classical.choose (least hx) := dif_pos hx
  obtain ⟨h1, h2⟩ := Classical.choose_spec (least hx)
  rw [← ex] at h1 h2
  cases e : rkk st b x with
  | zero => rw [e] at h1; exact .inl h1
  | succ k =>
    rw [e] at h1
    rcases h1 with h1 | ⟨y, s, hy⟩
    · exact absurd h1 (h2 k (by omega))
    · right
      refine ⟨y, s, n_rch hy, ?_⟩
      have hy' : ∃ k, RchN st b k y := ⟨k, hy⟩
      have ey : rkk st b y = Classical.choose (least hy') := dif_pos hy'
      obtain ⟨g1, g2⟩ := Classical.choose_spec (least hy')
      rw [← ey] at g1 g2
      refine Nat.lt_of_not_le fun z => g2 k (by omega) hy
/-- the choice of a policy -/
def chc (sys : TSy) (p : List Int) (x : Int) : Int × List (Int × Int) := (chs' sys x).getD (p.getD x.toNat 0).toNat (0, [])
def VP (n : Nat) (sys : TSy) (p : List Int) : Prop := p.length = n ∧ ∀ x, InR n x → 0 ≤ p.getD x.toNat 0 ∧ p.getD x.toNat 0 < ((chs' sys x).length : Int)
theorem chc_mem {n : Nat} {sys : TSy} {p : List Int} {x : Int} (h : VP n sys p) (hx : InR n x) : chc sys p x ∈ chs' sys x := by
  obtain ⟨h0, h1⟩ := h.2 x hx
  unfold chc
  generalize p.getD x.toNat 0 = i at *
  have hi : i.toNat < (chs' sys x).length := by omega
  rw [List.getD_eq_getElem?_getD, List.getElem?_eq_getElem hi]
  exact List.getElem_mem hi
theorem pickPol {n : Nat} {sys : TSy} (hne : ∀ x, InR n x → chs' sys x ≠ []) (R : Int → (Int × List (Int × Int)) → Prop) : ∃ p, VP n sys p ∧ ∀ x, InR n x → (∃ c ∈ chs' sys x, R x c) → R x (chc sys p x) := by
  have key : ∀ x : Int, InR n x → ∃ i : Nat, i < (chs' sys x).length ∧ ((∃ c ∈ chs' sys x, R x c) → R x ((chs' sys x).getD i (0, []))) := by
    intro x hx
    by_cases e : ∃ c ∈ chs' sys x, R x c
    · obtain ⟨c, hc, hr⟩ := e
      obtain ⟨i, hi⟩ := List.getElem?_of_mem hc
      refine ⟨i, (List.getElem?_eq_some_iff.mp hi).1, fun _ => ?_⟩
      rw [List.getD_eq_getElem?_getD, hi]
      exact hr
    · exact ⟨0, List.length_pos_iff.mpr (hne x hx), fun h => absurd h e⟩
  let g : Int → Nat := fun x => @dite Nat (InR n x) (Classical.propDecidable _) (fun h => Classical.choose (key x h)) fun _ => 0
  have hg : ∀ x, InR n x → g x < (chs' sys x).length ∧ ((∃ c ∈ chs' sys x, R x c) → R x ((chs' sys x).getD (g x) (0, []))) := fun x hx => by
    have e : g x = Classical.choose (key x hx) := dif_pos hx
    rw [e]
    exact Classical.choose_spec (key x hx)
  have hp : ∀ x, InR n x → ((rng 0 (n : Int)).map fun x => (g x : Int)).getD x.toNat 0 = (g x : Int) := by
    rintro x ⟨h0, h1⟩
    obtain ⟨k, rfl⟩ := Int.eq_ofNat_of_zero_le h0
    rw [List.getD_eq_getElem?_getD, List.getElem?_map, Int.toNat_natCast, rng_ix, if_pos (by omega)]
    rfl
  refine ⟨(rng 0 (n : Int)).map fun x => (g x : Int), ⟨by rw [List.length_map, rng_len]; omega, fun x hx => ?_⟩, fun x hx h => ?_⟩
  · rw [hp x hx]
    have := (hg x hx).1
    omega
  · unfold chc
    rw [hp x hx, Int.toNat_natCast]
    exact (hg x hx).2 h
def stC (sys : TSy) (p : List Int) (rest : List Int) (x y : Int) : Prop := x ∈ rest ∧ ∃ q ∈ (chc sys p x).2, q.1 = y
def canP (n : Nat) (sys : TSy) (p : List Int) (al ta : List Int) (x : Int) : Prop := Rch (stC sys p (restOf n al ta)) (fun y => InR n y ∧ y ∈ ta) x
def lostP (n : Nat) (sys : TSy) (p : List Int) (al ta : List Int) (x : Int) : Prop := Rch (stC sys p (restOf n al ta)) (fun y => InR n y ∧ ¬ canP n sys p al ta y) x
section
variable {n : Nat} {sys : TSy} {al ta : List Int} {x : Int}
theorem rest_r {x : Int} (h : x ∈ restOf (n : Int) al ta) : InR n x := (rest_in h).1
theorem stC_S {p : List Int} (hp : VP n sys p) {x y : Int} (h : stC sys p (restOf n al ta) x y) : stS sys (restOf n al ta) x y := ⟨h.1, _, chc_mem hp (rest_r h.1), h.2⟩
/-- by ranks -/
theorem by_rank {st : Int → Int → Prop} {b : Int → Prop} {T : Int → Prop} (h : ∀ x, Rch st b x → (∀ y, Rch st b y → rkk st b y < rkk st b x → T y) → T x) {x : Int} (hx : Rch st b x) : T x := by
  have key : ∀ (k : Nat) (x : Int), rkk st b x < k → Rch st b x → T x := by
    intro k
    induction k with
    | zero => intro x h; omega
    | succ k ih => exact fun x hk hx => h x hx fun y hy hl => ih y (by omega) hy
  exact key _ x (Nat.lt_succ_self _) hx
theorem pos_iff (hne : ∀ x, InR n x → chs' sys x ≠ []) : (∃ p, VP n sys p ∧ canP n sys p al ta x) ↔ isPos n sys al ta x := by
  constructor
  · rintro ⟨p, hp, h⟩
    exact h.mono (fun _ _ h => stC_S hp h) fun _ h => h
  · intro h
    obtain ⟨p, hp, hR⟩ := pickPol hne fun x c => ∃ q ∈ c.2, isPos n sys al ta q.1 ∧ rkk (stS sys (restOf n al ta)) (fun y => InR n y ∧ y ∈ ta) q.1 < rkk (stS sys (restOf n al ta)) (fun y => InR n y ∧ y ∈ ta) x
    refine ⟨p, hp, by_rank (T := canP n sys p al ta) (fun x hx ih => ?_) h⟩
    rcases rkk_ok hx with hb | ⟨y, ⟨hm, c, hc, q, hq, rfl⟩, hy, hl⟩
    · exact .base hb
    · obtain ⟨q', hq', h1, h2⟩ := hR x (rest_r hm) ⟨c, hc, q, hq, hy, hl⟩
      exact .step ⟨hm, q', hq', rfl⟩ (ih q'.1 h1 h2)
theorem nev_can {p : List Int} (hR : ∀ x, isNev n sys al ta x → x ∈ restOf n al ta → ∀ q ∈ (chc sys p x).2, isNev n sys al ta q.1) {y : Int} (h : canP n sys p al ta y) : ¬ isNev n sys al ta y := by
  refine h.sub (X := fun y => ¬ isNev n sys al ta y) ?_ fun y hy hn => nev_self.out y hn hy.2
  rintro x y ⟨hm, q, hq, rfl⟩ hy hx
  exact hy (hR x hx hm q hq)
theorem nev_of {p : List Int} (hs : OKS n sys) (hp : VP n sys p) (hx : InR n x) (h : ¬ canP n sys p al ta x) : isNev n sys al ta x := by
  refine ⟨fun y => InR n y ∧ ¬ canP n sys p al ta y, ⟨fun y hy => hy.1, fun y hy ht => hy.2 (.base ⟨hy.1, ht⟩), fun y hy hm => ?_⟩, hx, h⟩
  have hc := chc_mem hp hy.1
  exact ⟨_, hc, fun q hq => ⟨ends_r hs hy.1 hc hq, fun z => hy.2 (.step ⟨hm, q, hq, rfl⟩ z)⟩⟩
theorem nev_iff (hs : OKS n sys) (hne : ∀ x, InR n x → chs' sys x ≠ []) (hx : InR n x) : (∃ p, VP n sys p ∧ ¬ canP n sys p al ta x) ↔ isNev n sys al ta x := by
  constructor
  · rintro ⟨p, hp, h⟩
    exact nev_of hs hp hx h
  · intro h
    obtain ⟨p, hp, hR⟩ := pickPol hne fun _ c => ∀ q ∈ c.2, isNev n sys al ta q.1
    exact ⟨p, hp, fun z => nev_can (fun y hy hm => hR y (rest_r hm) (nev_self.st y hy hm)) z h⟩
theorem att_iff (hs : OKS n sys) (hne : ∀ x, InR n x → chs' sys x ≠ []) (hx : InR n x) : (∃ p, VP n sys p ∧ ¬ lostP n sys p al ta x) ↔ isAtt n sys al ta x := by
  constructor
  · rintro ⟨p, hp, h⟩
    refine ⟨fun y => InR n y ∧ ¬ lostP n sys p al ta y, ⟨fun y hy => hy.1, fun y hy => ?_⟩, hx, h⟩
    have hc : canP n sys p al ta y := Classical.byContradiction fun z => hy.2 (.base ⟨hy.1, z⟩)
    clear h hx
    induction hc with
    | base h => exact .base h.2
    | @step x y s _ ih =>
      obtain ⟨hm, q, hq, rfl⟩ := s
      have hc := chc_mem hp hy.1
      have all : ∀ r ∈ (chc sys p x).2, InR n r.1 ∧ ¬ lostP n sys p al ta r.1 := fun r hr => ⟨ends_r hs hy.1 hc hr, fun z => hy.2 (.step ⟨hm, r, hr, rfl⟩ z)⟩
      exact .step ⟨hm, _, hc, all, q, hq, rfl⟩ (ih (all q hq))
  · intro h
    let S := stP sys (restOf n al ta) (isAtt n sys al ta)
    let b : Int → Prop := fun y => y ∈ ta
    obtain ⟨p, hp, hR⟩ := pickPol hne fun x c => (∀ q ∈ c.2, isAtt n sys al ta q.1) ∧ ∃ q ∈ c.2, Rch S b q.1 ∧ rkk S b q.1 < rkk S b x
    have pol : ∀ x, Rch S b x → x ∈ restOf n al ta → (∀ q ∈ (chc sys p x).2, isAtt n sys al ta q.1) ∧ ∃ q ∈ (chc sys p x).2, Rch S b q.1 ∧ rkk S b q.1 < rkk S b x := fun x hx hm => by
      rcases rkk_ok hx with hb | ⟨y, ⟨hm, c, hc, ha, q, hq, rfl⟩, hy, hl⟩
      · exact absurd hb (rest_in hm).2.2
      · exact hR x (rest_r hm) ⟨c, hc, ha, q, hq, hy, hl⟩
    have can : ∀ x, Rch S b x → InR n x → canP n sys p al ta x := fun x hx => by
      refine by_rank (T := fun x => InR n x → canP n sys p al ta x) (fun x hx ih hr => ?_) hx
      rcases rkk_ok hx with hb | ⟨y, ⟨hm, _⟩, _⟩
      · exact .base ⟨hr, hb⟩
      · obtain ⟨_, q, hq, h1, h2⟩ := pol x hx hm
        exact .step ⟨hm, q, hq, rfl⟩ (ih q.1 h1 h2 (ends_r hs hr (chc_mem hp hr) hq))
    refine ⟨p, hp, fun z => ?_⟩
    refine z.sub (X := fun y => ¬ isAtt n sys al ta y) ?_ (fun y hy ha => hy.2 (can y (att_self.st y ha) hy.1)) h
    rintro x y ⟨hm, q, hq, rfl⟩ hy hx
    exact hy ((pol x (att_self.st x hx) hm).1 q hq)
theorem lost_iff (hs : OKS n sys) (hne : ∀ x, InR n x → chs' sys x ≠ []) : (∃ p, VP n sys p ∧ lostP n sys p al ta x) ↔ isLost n sys al ta x := by
  constructor
  · rintro ⟨p, hp, h⟩
    exact h.mono (fun _ _ h => stC_S hp h) fun y hy => nev_of hs hp hy.1 hy.2
  · intro h
    let S := stS sys (restOf n al ta)
    let b := isNev n sys al ta
    obtain ⟨p, hp, hR⟩ := pickPol hne fun x c => (isNev n sys al ta x → ∀ q ∈ c.2, isNev n sys al ta q.1) ∧ (¬ isNev n sys al ta x → ∃ q ∈ c.2, Rch S b q.1 ∧ rkk S b q.1 < rkk S b x)
    have nc : ∀ {y}, canP n sys p al ta y → ¬ isNev n sys al ta y := nev_can fun y hy hm => by
      obtain ⟨c, hc, ha⟩ := nev_self.st y hy hm
      exact (hR y (rest_r hm) ⟨c, hc, fun _ => ha, fun z => absurd hy z⟩).1 hy
    refine ⟨p, hp, by_rank (T := lostP n sys p al ta) (fun x hx ih => ?_) h⟩
    by_cases hn : isNev n sys al ta x
    · exact .base ⟨nev_self.r x hn, fun z => nc z hn⟩
    · rcases rkk_ok hx with hb | ⟨y, ⟨hm, c, hc, q, hq, rfl⟩, hy, hl⟩
      · exact absurd hb hn
      · obtain ⟨_, h2⟩ := hR x (rest_r hm) ⟨c, hc, fun z => absurd z hn, fun _ => ⟨q, hq, hy, hl⟩⟩
        obtain ⟨q', hq', h3, h4⟩ := h2 hn
        exact .step ⟨hm, q', hq', rfl⟩ (ih q'.1 h3 h4)
end
end L3

namespace L3
open PySem L2
/-! ### the law's own search -/
abbrev TCh := List (Int × (List (Int × (Int × Int))))
def chn (ch : TCh) (x : Int) : Int × (List (Int × (Int × Int))) := ch.getD x.toNat (0, [])
theorem chn_ix {ch : TCh} {x : Int} (hx : InR ch.length x) : ixL ch x = some (chn ch x) := by
  obtain ⟨h0, h1⟩ := hx
  obtain ⟨k, rfl⟩ := Int.eq_ofNat_of_zero_le h0
  have hk : k < ch.length := by omega
  refine ixL_s (n := k) ?_ rfl
  unfold chn
  rw [Int.toNat_natCast, List.getD_eq_getElem?_getD, List.getElem?_eq_getElem hk]
  rfl
def stN (ch : TCh) (rest : List Int) (x y : Int) : Prop := x ∈ rest ∧ ∃ q ∈ (chn ch x).2, q.1 = y
def trg (ch : TCh) (s : List Int) (x : Int) : Bool := !decide (x ∈ s) && (chn ch x).2.any fun q => decide (q.1 ∈ s)
def und (rest s : List Int) : Nat := (rest.filter fun x => !decide (x ∈ s)).length
theorem und_lt {rest s : List Int} {x : Int} (hx : x ∈ rest) (hs : x ∉ s) : und rest (s ++ [x]) < und rest s := by
  have sub : ∀ l : List Int, und l (s ++ [x]) ≤ und l s ∧ (x ∈ l → und l (s ++ [x]) < und l s) := by
    intro l
    induction l with
    | nil => exact ⟨Nat.le_refl _, fun h => absurd h (by simp)⟩
    | cons y l ih =>
      unfold und at ih ⊢
      rw [List.filter_cons, List.filter_cons]
      by_cases e : y = x
      · subst e
        rw [if_neg (by simp), if_pos (by simp [hs]), List.length_cons]
        exact ⟨Nat.le_succ_of_le ih.1, fun _ => Nat.lt_succ_of_le ih.1⟩
      · by_cases h : y ∈ s
        · rw [if_neg (by simp [h]), if_neg (by simp [h])]
          exact ⟨ih.1, fun z => ih.2 ((List.mem_cons.mp z).resolve_left (Ne.symm e))⟩
        · rw [if_pos (by simp [h, e]), if_pos (by simp [h]), List.length_cons, List.length_cons]
          refine ⟨Nat.succ_le_succ ih.1, fun z => Nat.succ_lt_succ (ih.2 ((List.mem_cons.mp z).resolve_left (Ne.symm e)))⟩
  exact (sub rest).2 hx
theorem filter_pos {α : Type} {p : α → Bool} {l : List α} : decide (((l.filter p).length : Int) > 0) = l.any p := by
  rw [Bool.eq_iff_iff, decide_eq_true_iff, List.any_eq_true]
  constructor
  · intro h
    have : 0 < (l.filter p).length := by omega
    obtain ⟨x, hx⟩ := List.exists_mem_of_length_pos this
    exact ⟨x, (List.mem_filter.mp hx).1, (List.mem_filter.mp hx).2⟩
  · rintro ⟨x, h1, h2⟩
    have := List.length_pos_of_mem (List.mem_filter.mpr ⟨h1, h2⟩)
    omega
theorem l_back_ok {ch : TCh} {rest known : List Int} (hl : ch.length ≤ 100) (hr : ∀ x ∈ rest, InR ch.length x) (hrl : rest.length ≤ ch.length) (hk : known.length ≤ 1000) (he : ∀ c ∈ ch, c.2.length ≤ 1000) :
    Yes (m_l_backward ch rest known) fun r => ∀ x, x ∈ r ↔ Rch (stN ch rest) (fun y => y ∈ known) x := by
  have hnn : ch.length * ch.length ≤ 10000 := Nat.mul_le_mul hl hl
  unfold m_l_backward
  refine y_eq (small62_s (by omega) (by omega)) ?_
  refine y_bind (y_foldI _ (fun i s => s.length ≤ known.length + i * ch.length ∧ (∀ x ∈ known, x ∈ s) ∧ (∀ x ∈ s, Rch (stN ch rest) (fun y => y ∈ known) x) ∧ ((∀ x ∈ rest, trg ch s x = false) ∨ und rest s + i ≤ ch.length)) ⟨by omega, fun _ h => h, fun x h => .base h, .inr (by have := List.length_filter_le (fun x => !decide (x ∈ known)) rest; unfold und; omega)⟩ ?_) fun s hs => y_some ?_
  · rintro i k s hk' ⟨h1, h2, h3, h4⟩
    have hi : i < ch.length := by have := (rng_at hk').2; omega
    have hii : i * ch.length ≤ ch.length * ch.length := Nat.mul_le_mul_right _ (by omega)
    refine y_bind (y_foldI _ (fun j s' => s'.length ≤ s.length + j ∧ (∀ x ∈ s, x ∈ s') ∧ (∀ x ∈ s', Rch (stN ch rest) (fun y => y ∈ known) x) ∧ ((s' = s ∧ ∀ (m : Nat) x, m < j → rest[m]? = some x → trg ch s x = false) ∨ (und rest s' < und rest s ∧ ¬ ∀ x ∈ rest, trg ch s x = false))) ⟨by omega, fun _ h => h, h3, .inl ⟨rfl, fun m x hm => absurd hm (by omega)⟩⟩ ?_) fun s' hs' => y_some ?_
    · rintro j x s' hx ⟨g1, g2, g3, g4⟩
      have hm := List.mem_of_getElem? hx
      have hj : j < rest.length := (List.getElem?_eq_some_iff.mp hx).1
      have hce : (chn ch x).2.length ≤ 1000 := by
        have h := chn_ix (hr x hm)
        obtain ⟨h0, h1⟩ := hr x hm
        obtain ⟨k, rfl⟩ := Int.eq_ofNat_of_zero_le h0
        unfold chn
        rw [Int.toNat_natCast, List.getD_eq_getElem?_getD, List.getElem?_eq_getElem (by omega : k < ch.length)]
        exact he _ (List.getElem_mem _)
      refine y_eq (a := trg ch s' x) ?_ ?_
      · unfold trg
        by_cases hin : x ∈ s'
        · rw [decide_eq_true hin]; rfl
        · rw [decide_eq_false hin]
          refine bnd (chn_ix (hr x hm)) (bnd (room_s (by omega)) (bnd (compM_filter (p := fun q => decide (q.1 ∈ s')) fun q _ => rfl) ?_))
          rw [filter_pos]
          rfl
      · refine y_bind (Q := fun s'' => s''.length ≤ s.length + (j + 1) ∧ (∀ x ∈ s, x ∈ s'') ∧ (∀ x ∈ s'', Rch (stN ch rest) (fun y => y ∈ known) x) ∧ ((s'' = s ∧ ∀ (m : Nat) x, m < j + 1 → rest[m]? = some x → trg ch s x = false) ∨ (und rest s'' < und rest s ∧ ¬ ∀ x ∈ rest, trg ch s x = false))) (y_if (fun c => ?_) (fun c => y_some ?_)) fun s'' h => y_some h
        · refine y_eq (room_s (by omega)) (y_some ⟨by simp; omega, fun y hy => List.mem_append_left _ (g2 y hy), fun y hy => ?_, .inr ?_⟩)
          · rcases List.mem_append.mp hy with hy | hy
            · exact g3 y hy
            · rw [List.mem_singleton.mp hy]
              unfold trg at c
              rw [Bool.and_eq_true] at c
              obtain ⟨q, hq, hq2⟩ := List.any_eq_true.mp c.2
              exact .step ⟨hm, q, hq, rfl⟩ (g3 _ (of_decide_eq_true hq2))
          · have hin : x ∉ s' := by
              unfold trg at c
              rw [Bool.and_eq_true] at c
              simpa using c.1
            have := und_lt hm hin
            rcases g4 with ⟨e, _⟩ | ⟨e, e2⟩
            · subst e
              exact ⟨this, fun z => by rw [z x hm] at c; cases c⟩
            · exact ⟨by omega, e2⟩
        · refine ⟨by omega, g2, g3, ?_⟩
          rcases g4 with ⟨e, e2⟩ | g4
          · subst e
            refine .inl ⟨rfl, fun m y hmj hy => ?_⟩
            by_cases em : m = j
            · subst em
              rw [hx] at hy
              cases hy
              simpa using c
            · exact e2 m y (by omega) hy
          · exact .inr g4
    · obtain ⟨g1, g2, g3, g4⟩ := hs'
      have e1 : (i + 1) * ch.length = i * ch.length + ch.length := Nat.succ_mul _ _
      refine ⟨by omega, fun x hx => g2 x (h2 x hx), g3, ?_⟩
      rcases g4 with ⟨e, e2⟩ | ⟨e, e2⟩
      · subst e
        refine .inl fun x hx => ?_
        obtain ⟨m, hm⟩ := List.getElem?_of_mem hx
        exact e2 m x (List.getElem?_eq_some_iff.mp hm).1 hm
      · rcases h4 with h4 | h4
        · exact absurd h4 e2
        · exact .inr (by omega)
  · obtain ⟨h1, h2, h3, h4⟩ := hs
    rw [rng_len] at h4
    have closed : ∀ x ∈ rest, trg ch s x = false := by
      rcases h4 with h4 | h4
      · exact h4
      · intro x hx
        have : und rest s = 0 := by omega
        unfold und at this
        have := List.length_eq_zero_iff.mp this
        rw [List.filter_eq_nil_iff] at this
        have := this x hx
        have hin : x ∈ s := by simpa using this
        unfold trg
        rw [decide_eq_true hin]; rfl
    intro x
    refine ⟨h3 x, fun h => h.sub (X := fun x => x ∈ s) ?_ h2⟩
    rintro x y ⟨hm, q, hq, rfl⟩ hy
    have := closed x hm
    by_cases hin : x ∈ s
    · exact hin
    · unfold trg at this
      rw [decide_eq_false hin] at this
      have : ((chn ch x).2.any fun q => decide (q.1 ∈ s)) = false := by simpa using this
      rw [List.any_eq_false] at this
      exact absurd (decide_eq_true hy) (this q hq)
end L3

namespace L3
open PySem L2
theorem putI_len2 (k v : Int) : ∀ l : List (Int × Int), (putI l k v).length ≤ l.length + 1 ∧ 1 ≤ (putI l k v).length
  | [] => ⟨Nat.le_refl _, Nat.le_refl _⟩
  | q :: l => by
    have ih := putI_len2 k v l
    by_cases h : q.1 = k
    · unfold putI; rw [if_pos h]; simp
    · rw [putI_cons_ne h]; simp; omega
theorem putI_mem (k v : Int) : ∀ (l : List (Int × Int)) (q : Int × Int), q ∈ putI l k v → q.2 = v ∨ ∃ q' ∈ l, q.2 = q'.2
  | [], q, h => by
    have h : q ∈ [(k, v)] := h
    left; rw [List.mem_singleton.mp h]
  | p :: l, q, h => by
    by_cases e : p.1 = k
    · unfold putI at h
      rw [if_pos e] at h
      rcases List.mem_cons.mp h with rfl | h
      · exact .inl rfl
      · obtain ⟨q', h1, h2⟩ := List.mem_map.mp h
        by_cases e2 : q'.1 = k
        · rw [if_pos e2] at h2; left; rw [← h2]
        · rw [if_neg e2] at h2; right; exact ⟨q', List.mem_cons_of_mem _ h1, by rw [h2]⟩
    · rw [putI_cons_ne e] at h
      rcases List.mem_cons.mp h with rfl | h
      · exact .inr ⟨_, List.mem_cons_self, rfl⟩
      · rcases putI_mem k v l q h with h | ⟨q', h1, h2⟩
        · exact .inl h
        · exact .inr ⟨q', List.mem_cons_of_mem _ h1, h2⟩
theorem putI_keys (k v : Int) : ∀ l : List (Int × Int), (putI l k v).map (·.1) = if k ∈ l.map (·.1) then l.map (·.1) else l.map (·.1) ++ [k]
  | [] => rfl
  | q :: l => by
    by_cases e : q.1 = k
    · unfold putI
      rw [if_pos e, if_pos (by rw [← e]; simp)]
      rw [List.map_cons, List.map_cons, List.map_map]
      congr 1
      refine List.map_congr_left fun r _ => ?_
      show (if r.1 = k then (r.1, v) else r).1 = r.1
      split <;> rfl
    · rw [putI_cons_ne e, List.map_cons, putI_keys k v l, List.map_cons]
      by_cases h : k ∈ l.map (·.1)
      · rw [if_pos h, if_pos (List.mem_cons_of_mem _ h)]
      · rw [if_neg h, if_neg (fun z => (List.mem_cons.mp z).elim (fun w => e w.symm) h)]
        rfl
theorem putI_nodup {k v : Int} {l : List (Int × Int)} (h : (l.map (·.1)).Nodup) : ((putI l k v).map (·.1)).Nodup := by
  rw [putI_keys]
  split
  · exact h
  · rename_i hk
    exact List.nodup_append.mpr ⟨h, by simp, fun a ha b hb => by rw [List.mem_singleton.mp hb]; exact fun z => hk (z ▸ ha)⟩
theorem sortI_sorted (l : List (Int × Int)) : (sortI l).Pairwise fun a b => a.1 < b.1 ∨ a.1 = b.1 ∧ a.2 ≤ b.2 := by
  refine (List.pairwise_mergeSort (le := leI) (fun a b c h1 h2 => ?_) (fun a b => ?_) l).imp fun {a b} h => ?_
  · unfold leI at *
    rw [Bool.not_eq_true'] at *
    have a1 := SrtO.lexB_no.mp h1
    have a2 := SrtO.lexB_no.mp h2
    refine SrtO.lexB_no.mpr ?_
    omega
  · unfold leI
    cases e : SrtO.lexB b a with
    | false => rfl
    | true =>
      have a1 := SrtO.lexB_iff.mp e
      have a2 : SrtO.lexB a b = false := SrtO.lexB_no.mpr (by omega)
      rw [a2]; rfl
  · unfold leI at h
    rw [Bool.not_eq_true'] at h
    have := SrtO.lexB_no.mp h
    omega
theorem ve_sort {many : Nat} {d : List (Int × Int)} (h1 : d ≠ []) (h2 : d.length ≤ many) (h3 : ∀ q ∈ d, 0 ≤ q.1 ∧ q.1 < (many : Int) ∧ 1 ≤ q.2 ∧ q.2 ≤ 1000) (h4 : (d.map (·.1)).Nodup) : VE many (sortI d) := by
  have p := sortI_perm d
  refine ⟨fun z => h1 ?_, by rw [p.length_eq]; exact h2, fun q hq => h3 q (p.mem_iff.mp hq), ?_⟩
  · rw [z] at p; exact p.symm.eq_nil
  · have n := ((p.map (·.1)).nodup_iff).mpr h4
    have n : (sortI d).Pairwise fun a b => a.1 ≠ b.1 := List.pairwise_map.mp n
    exact (n.and (sortI_sorted d)).imp fun {a b} h => by omega
/-- a drawn larger system -/
def LS (many : Nat) (s : List (List (Int × List (Int × Int)))) : Prop := s.length = many ∧ ∀ cs ∈ s, (1 ≤ cs.length ∧ cs.length ≤ 6) ∧ ∀ c ∈ cs, VC many c ∧ c.2.length ≤ 6
theorem large_ok {st : List Int × Int} {n many : Int} (hs : StOk st n) (hn : n < 2 ^ 48) (h1 : 1 ≤ many) (h2 : many ≤ 99) : Yes (m_l_large st many) fun r => LS many.toNat r.1 ∧ StOk r.2 (n + 1000 * many) := by
  unfold m_l_large
  refine y_eq (small62_s (by omega) (by omega)) ?_
  refine y_bind (Q := fun (p : TS' × (List Int × Int)) => LS many.toNat p.1 ∧ StOk p.2 (n + 1000 * many)) ?_ fun p hp => y_some hp
  refine (y_foldI _ (fun i (p : TS' × (List Int × Int)) => p.1.length = i ∧ (∀ cs ∈ p.1, (1 ≤ cs.length ∧ cs.length ≤ 6) ∧ ∀ c ∈ cs, VC many.toNat c ∧ c.2.length ≤ 6) ∧ StOk p.2 (n + 1000 * i)) ⟨rfl, by simp, by simpa using hs⟩ ?_).mono fun p hp => ?_
  · rintro i x ⟨e, st⟩ hx ⟨g1, g2, g3⟩
    obtain ⟨e1, e2⟩ := rng_at hx
    dsimp only at g1 g2 g3
    refine y_bind (take_ok g3 (by omega) (by decide)) fun t31 h31 => ?_
    refine y_bind (ixL_lit (P := fun z => 1 ≤ z ∧ z ≤ 6) h31.1.1 h31.1.2 (by decide)) fun t33 h33 => ?_
    refine y_eq (small62_s (by omega) (by omega)) ?_
    refine y_bind (Q := fun (p : List TC' × (List Int × Int)) => ((1 ≤ p.1.length ∧ p.1.length ≤ 6) ∧ ∀ c ∈ p.1, VC many.toNat c ∧ c.2.length ≤ 6) ∧ StOk p.2 (n + 1000 * (i + 1 : Nat))) ?_ fun p hp => ?_
    · refine (y_foldI _ (fun j (p : List TC' × (List Int × Int)) => p.1.length = j ∧ (∀ c ∈ p.1, VC many.toNat c ∧ c.2.length ≤ 6) ∧ StOk p.2 (n + 1000 * i + 1 + 50 * j)) ⟨rfl, by simp, by simpa using h31.2⟩ ?_).mono fun p hp => ?_
      · rintro j y ⟨e', st'⟩ hy ⟨f1, f2, f3⟩
        obtain ⟨d1, d2⟩ := rng_at hy
        dsimp only at f1 f2 f3
        refine y_bind (take_ok f3 (by omega) (by decide)) fun t61 h61 => ?_
        have r61 := h61.1
        refine y_eq (small62_s (by omega) (by omega)) ?_
        refine y_bind (Q := fun (p : TE' × (List Int × Int)) => (VE many.toNat (sortI p.1) ∧ p.1.length ≤ 6) ∧ StOk p.2 (n + 1000 * i + 1 + 50 * j + 20)) ?_ fun p hp => ?_
        · refine (y_foldI _ (fun k (p : TE' × (List Int × Int)) => p.1.length ≤ k ∧ (0 < k → 1 ≤ p.1.length) ∧ ((∀ q ∈ p.1, 0 ≤ q.1 ∧ q.1 < many ∧ 1 ≤ q.2 ∧ q.2 ≤ 1000) ∧ (p.1.map (·.1)).Nodup) ∧ StOk p.2 (n + 1000 * i + 1 + 50 * j + 1 + 2 * k)) ⟨Nat.le_refl _, fun h => absurd h (by omega), by simp, by simpa using h61.2⟩ ?_).mono fun p hp => ?_
          · rintro k z ⟨d, st2⟩ hz ⟨k1, k2, k3, k4⟩
            obtain ⟨c1, c2⟩ := rng_at hz
            dsimp only at k1 k2 k3 k4
            refine y_bind (take_ok k4 (by omega) (by decide)) fun t85 h85 => ?_
            refine y_bind (ixL_lit (P := fun z => 1 ≤ z ∧ z ≤ 1000) h85.1.1 h85.1.2 (by decide)) fun t87 h87 => ?_
            refine y_bind (take_ok h85.2 (by omega) (by omega)) fun t89 h89 => ?_
            refine y_eq (room_s (by show d.length ≤ _; omega)) (y_some ⟨?_, fun _ => (putI_len2 _ _ d).2, ⟨fun q hq => ?_, putI_nodup k3.2⟩, ?_⟩)
            · have := (putI_len2 t89.1 t87 d).1
              show (putI d t89.1 t87).length ≤ _
              omega
            · have hk : 0 ≤ q.1 ∧ q.1 < many := by
                have hq1 : q.1 ∈ (putI d t89.1 t87).map (·.1) := List.mem_map_of_mem hq
                rw [putI_keys] at hq1
                have : q.1 ∈ d.map (·.1) ∨ q.1 = t89.1 := by
                  split at hq1
                  · exact .inl hq1
                  · exact (List.mem_append.mp hq1).imp id List.mem_singleton.mp
                rcases this with h | h
                · obtain ⟨r, hr, e⟩ := List.mem_map.mp h
                  have := k3.1 r hr
                  omega
                · rw [h]; exact h89.1
              refine ⟨hk.1, hk.2, ?_⟩
              rcases putI_mem _ _ d q hq with h | ⟨q', m1, m2⟩
              · rw [h]; exact h87
              · rw [m2]; exact (k3.1 q' m1).2.2
            · exact h89.2.le (by omega)
          · obtain ⟨k1, k2, k3, k4⟩ := hp
            rw [rng_len] at k1 k2 k4
            have k2 := k2 (by omega)
            have em : ((many.toNat : Nat) : Int) = many := by omega
            refine ⟨⟨ve_sort (fun z => by rw [z] at k2; exact absurd k2 (by simp)) ?_ (by rw [em]; exact k3.1) k3.2, by omega⟩, k4.le (by omega)⟩
            have := nodup_le (many := many.toNat) k3.2 fun x hx => by
              obtain ⟨r, hr, e⟩ := List.mem_map.mp hx
              have := k3.1 r hr
              omega
            rwa [List.length_map] at this
        · refine y_bind (take_ok hp.2 (by omega) (by decide)) fun t101 h101 => y_eq (room_s (by show e'.length ≤ _; omega)) (y_some ⟨?_, ?_, ?_⟩)
          · show (e' ++ [_]).length = _
            rw [List.length_append, List.length_singleton, f1]
          · intro c hc
            rcases List.mem_append.mp hc with hc | hc
            · exact f2 c hc
            · rw [List.mem_singleton.mp hc]; exact ⟨⟨h101.1.1, by have := h101.1.2; show t101.1 ≤ _; omega, hp.1.1⟩, by show (sortI p.1).length ≤ _; rw [(sortI_perm _).length_eq]; exact hp.1.2⟩
          · exact h101.2.le (by omega)
      · obtain ⟨f1, f2, f3⟩ := hp
        rw [rng_len] at f1 f3
        exact ⟨⟨⟨by omega, by omega⟩, f2⟩, f3.le (by omega)⟩
    · refine y_eq (room_s (by show e.length ≤ _; omega)) (y_some ⟨?_, ?_, hp.2⟩)
      · show (e ++ [_]).length = _
        rw [List.length_append, List.length_singleton, g1]
      · intro cs hc
        rcases List.mem_append.mp hc with hc | hc
        · exact g2 cs hc
        · rw [List.mem_singleton.mp hc]; exact hp.1
  · obtain ⟨g1, g2, g3⟩ := hp
    rw [rng_len] at g1 g3
    exact ⟨⟨by omega, g2⟩, g3.le (by omega)⟩
end L3

namespace L3
open PySem L2
def TH (many : Nat) (s : List (List (Int × List (Int × Int)))) : Prop := s.length = many ∧ ∀ cs ∈ s, (1 ≤ cs.length ∧ cs.length ≤ 2) ∧ ∀ c ∈ cs, VC many c ∧ c.2.length ≤ 2 ∧ ∀ q ∈ c.2, q.2 ≤ 2
theorem thin_ok {st : List Int × Int} {n many : Int} (hs : StOk st n) (hn : n < 2 ^ 48) (h1 : 1 ≤ many) (h2 : many ≤ 99) : Yes (m_l_thin st many) fun r => TH many.toNat r.1 ∧ StOk r.2 (n + 1000 * many) := by
  unfold m_l_thin
  refine y_eq (small62_s (by omega) (by omega)) ?_
  refine y_bind (Q := fun (p : TS' × (List Int × Int)) => TH many.toNat p.1 ∧ StOk p.2 (n + 1000 * many)) ?_ fun p hp => y_some hp
  refine (y_foldI _ (fun i (p : TS' × (List Int × Int)) => p.1.length = i ∧ (∀ cs ∈ p.1, (1 ≤ cs.length ∧ cs.length ≤ 2) ∧ ∀ c ∈ cs, VC many.toNat c ∧ c.2.length ≤ 2 ∧ ∀ q ∈ c.2, q.2 ≤ 2) ∧ StOk p.2 (n + 1000 * i)) ⟨rfl, by simp, by simpa using hs⟩ ?_).mono fun p hp => ?_
  · rintro i x ⟨e, st⟩ hx ⟨g1, g2, g3⟩
    obtain ⟨e1, e2⟩ := rng_at hx
    dsimp only at g1 g2 g3
    refine y_bind (take_ok g3 (by omega) (by decide)) fun t31 h31 => ?_
    have r31 := h31.1
    refine y_eq (small62_s (by omega) (by omega)) ?_
    refine y_bind (Q := fun (p : List TC' × (List Int × Int)) => ((1 ≤ p.1.length ∧ p.1.length ≤ 2) ∧ ∀ c ∈ p.1, VC many.toNat c ∧ c.2.length ≤ 2 ∧ ∀ q ∈ c.2, q.2 ≤ 2) ∧ StOk p.2 (n + 1000 * (i + 1 : Nat))) ?_ fun p hp => ?_
    · refine (y_foldI _ (fun j (p : List TC' × (List Int × Int)) => p.1.length = j ∧ (∀ c ∈ p.1, VC many.toNat c ∧ c.2.length ≤ 2 ∧ ∀ q ∈ c.2, q.2 ≤ 2) ∧ StOk p.2 (n + 1000 * i + 1 + 50 * j)) ⟨rfl, by simp, by simpa using h31.2⟩ ?_).mono fun p hp => ?_
      · rintro j y ⟨e', st'⟩ hy ⟨f1, f2, f3⟩
        obtain ⟨d1, d2⟩ := rng_at hy
        dsimp only at f1 f2 f3
        refine y_bind (take_ok f3 (by omega) (by decide)) fun t61 h61 => ?_
        have r61 := h61.1
        refine y_eq (small62_s (by omega) (by omega)) ?_
        refine y_bind (Q := fun (p : TE' × (List Int × Int)) => (VE many.toNat (sortI p.1) ∧ p.1.length ≤ 2 ∧ ∀ q ∈ p.1, q.2 ≤ 2) ∧ StOk p.2 (n + 1000 * i + 1 + 50 * j + 20)) ?_ fun p hp => ?_
        · refine (y_foldI _ (fun k (p : TE' × (List Int × Int)) => p.1.length ≤ k ∧ (0 < k → 1 ≤ p.1.length) ∧ ((∀ q ∈ p.1, 0 ≤ q.1 ∧ q.1 < many ∧ 1 ≤ q.2 ∧ q.2 ≤ 2) ∧ (p.1.map (·.1)).Nodup) ∧ StOk p.2 (n + 1000 * i + 1 + 50 * j + 1 + 3 * k)) ⟨Nat.le_refl _, fun h => absurd h (by omega), by simp, by simpa using h61.2⟩ ?_).mono fun p hp => ?_
          · rintro k z ⟨d, st2⟩ hz ⟨k1, k2, k3, k4⟩
            obtain ⟨c1, c2⟩ := rng_at hz
            dsimp only at k1 k2 k3 k4
            refine y_bind (take_ok k4 (by omega) (by decide)) fun t85 h85 => ?_
            have r85 := h85.1
            have a1 := Int.emod_nonneg (x + 1) (show many ≠ 0 by omega)
            have a2 := Int.emod_lt_of_pos (x + 1) (show 0 < many by omega)
            refine y_eq (modI_s (by omega)) (y_bind (take_ok h85.2 (by omega) (by omega)) fun t86 h86 => y_bind (take_ok h86.2 (by omega) (by decide)) fun t88 h88 => y_bind (ixL_lit (P := fun z => 0 ≤ z ∧ z < many) h88.1.1 h88.1.2 ?_) fun t89 h89 => ?_)
            · intro z hz
              simp only [List.mem_cons, List.not_mem_nil, or_false] at hz
              rcases hz with rfl | rfl
              · exact ⟨a1, a2⟩
              · exact h86.1
            refine y_eq (room_s (by show d.length ≤ _; omega)) (y_some ⟨?_, fun _ => (putI_len2 _ _ d).2, ⟨fun q hq => ?_, putI_nodup k3.2⟩, ?_⟩)
            · have := (putI_len2 t89 (1 + t85.1) d).1
              show (putI d t89 (1 + t85.1)).length ≤ _
              omega
            · have hk : 0 ≤ q.1 ∧ q.1 < many := by
                have hq1 : q.1 ∈ (putI d t89 (1 + t85.1)).map (·.1) := List.mem_map_of_mem hq
                rw [putI_keys] at hq1
                have : q.1 ∈ d.map (·.1) ∨ q.1 = t89 := by
                  split at hq1
                  · exact .inl hq1
                  · exact (List.mem_append.mp hq1).imp id List.mem_singleton.mp
                rcases this with h | h
                · obtain ⟨r, hr, e⟩ := List.mem_map.mp h
                  have := k3.1 r hr
                  omega
                · rw [h]; exact h89
              refine ⟨hk.1, hk.2, ?_⟩
              rcases putI_mem _ _ d q hq with h | ⟨q', m1, m2⟩
              · rw [h]; omega
              · rw [m2]; exact (k3.1 q' m1).2.2
            · exact h88.2.le (by omega)
          · obtain ⟨k1, k2, k3, k4⟩ := hp
            rw [rng_len] at k1 k2 k4
            have k2 := k2 (by omega)
            have em : ((many.toNat : Nat) : Int) = many := by omega
            refine ⟨⟨ve_sort (fun z => by rw [z] at k2; exact absurd k2 (by simp)) ?_ (by rw [em]; exact fun q hq => by have := k3.1 q hq; omega) k3.2, by omega, fun q hq => (k3.1 q hq).2.2.2⟩, k4.le (by omega)⟩
            have := nodup_le (many := many.toNat) k3.2 fun x hx => by
              obtain ⟨r, hr, e⟩ := List.mem_map.mp hx
              have := k3.1 r hr
              omega
            rwa [List.length_map] at this
        · refine y_bind (take_ok hp.2 (by omega) (by decide)) fun t101 h101 => y_eq (room_s (by show e'.length ≤ _; omega)) (y_some ⟨?_, ?_, ?_⟩)
          · show (e' ++ [_]).length = _
            rw [List.length_append, List.length_singleton, f1]
          · intro c hc
            rcases List.mem_append.mp hc with hc | hc
            · exact f2 c hc
            · rw [List.mem_singleton.mp hc]; exact ⟨⟨h101.1.1, by have := h101.1.2; show t101.1 ≤ _; omega, hp.1.1⟩, by show (sortI p.1).length ≤ _; rw [(sortI_perm _).length_eq]; exact hp.1.2.1, fun q hq => hp.1.2.2 q ((sortI_perm _).mem_iff.mp hq)⟩
          · exact h101.2.le (by omega)
      · obtain ⟨f1, f2, f3⟩ := hp
        rw [rng_len] at f1 f3
        exact ⟨⟨⟨by omega, by omega⟩, f2⟩, f3.le (by omega)⟩
    · refine y_eq (room_s (by show e.length ≤ _; omega)) (y_some ⟨?_, ?_, hp.2⟩)
      · show (e ++ [_]).length = _
        rw [List.length_append, List.length_singleton, g1]
      · intro cs hc
        rcases List.mem_append.mp hc with hc | hc
        · exact g2 cs hc
        · rw [List.mem_singleton.mp hc]; exact hp.1
  · obtain ⟨g1, g2, g3⟩ := hp
    rw [rng_len] at g1 g3
    exact ⟨⟨by omega, g2⟩, g3.le (by omega)⟩
end L3

namespace L3
open PySem L2
theorem oks_vs {s : TSy} (h : VS 3 s) (hl : s.length ≤ 100) : OKS s.length s := ⟨rfl, by omega, fun cs hc => by
  obtain ⟨a1, a2, a3⟩ := h.2 cs hc
  refine ⟨by omega, fun c hc => ?_⟩
  obtain ⟨_, _, b1, b2, b3, _⟩ := a3 c hc
  exact ⟨by omega, fun q hq => ⟨(b3 q hq).1, (b3 q hq).2.1⟩⟩⟩
theorem oks_ls {s : TSy} {n : Nat} (h : LS n s) (hl : n ≤ 100) : OKS s.length s := ⟨rfl, by have := h.1; omega, fun cs hc => by
  obtain ⟨⟨a1, a2⟩, a3⟩ := h.2 cs hc
  refine ⟨by omega, fun c hc => ?_⟩
  obtain ⟨⟨_, _, b1, b2, b3, _⟩, _⟩ := a3 c hc
  have := h.1
  exact ⟨by omega, fun q hq => ⟨(b3 q hq).1, by rw [this]; exact (b3 q hq).2.1⟩⟩⟩
theorem drawn_ok {st : List Int × Int} {n : Int} {s : TSy} (hs : StOk st n) (hn : n < 2 ^ 50) (hl : s.length ≤ 1000) (hne : ∀ cs ∈ s, 1 ≤ cs.length) : Yes (m_l_drawn_policy st s) fun r => VP s.length s r.1 ∧ StOk r.2 (n + s.length) := by
  unfold m_l_drawn_policy
  refine y_eq (room_s (by omega)) (y_bind (Q := fun (r : List Int × (List Int × Int)) => VP s.length s r.1 ∧ StOk r.2 (n + s.length)) ?_ fun r hr => y_some hr)
  refine (y_comp _ (fun i ys t => (ys.length = i ∧ ∀ j : Nat, j < i → 0 ≤ ys.getD j 0 ∧ ys.getD j 0 < ((s.getD j []).length : Int)) ∧ StOk t (n + i)) ⟨⟨rfl, fun j hj => absurd hj (by omega)⟩, by simpa using hs⟩ ?_).mono fun r hr => ⟨⟨hr.1.1, fun x ⟨h0, h1⟩ => hr.1.2 x.toNat (by omega)⟩, hr.2⟩
  rintro i cs ys t hx ⟨⟨g1, g2⟩, g3⟩
  have hi : i < s.length := (List.getElem?_eq_some_iff.mp hx).1
  have h1 := hne cs (List.mem_of_getElem? hx)
  refine y_bind (take_ok g3 (by omega) (by omega)) fun u hu => y_some ⟨⟨by simp [g1], fun j hj => ?_⟩, hu.2.le (by omega)⟩
  show 0 ≤ (ys ++ [u.1]).getD j 0 ∧ (ys ++ [u.1]).getD j 0 < _
  by_cases e : j = i
  · subst e
    rw [List.getD_eq_getElem?_getD, List.getElem?_append_right (by omega), g1, Nat.sub_self, List.getD_eq_getElem?_getD, hx]
    exact hu.1
  · rw [List.getD_eq_getElem?_getD, List.getElem?_append_left (by omega), ← List.getD_eq_getElem?_getD]
    exact g2 j (by omega)
end L3

namespace L3
open PySem L2
/-- the chain of a policy -/
def rsC (n : Nat) (s : TSy) (p : List Int) : TSy := (rng 0 (n : Int)).map fun x => [chc s p x]
def lcC (n : Nat) (s : TSy) (p : List Int) : List (Int × (List (Int × (Int × Int)))) := (rng 0 (n : Int)).map fun x => ((chc s p x).1, (chc s p x).2.map fun q => (q.1, ofQ ((q.2 : Rat) / (wN (chc s p x) : Rat))))
theorem pol_ix {n : Nat} {s : TSy} {p : List Int} (hp : VP n s p) {x : Int} (hx : InR n x) : ixL p x = some (p.getD x.toNat 0) := by
  obtain ⟨h0, h1⟩ := hx
  obtain ⟨i, rfl⟩ := Int.eq_ofNat_of_zero_le h0
  have hl := hp.1
  refine ixL_s (n := i) ?_ rfl
  rw [Int.toNat_natCast, List.getD_eq_getElem?_getD, List.getElem?_eq_getElem (by omega)]; rfl
theorem chc_ix {n : Nat} {s : TSy} {p : List Int} (hp : VP n s p) {x : Int} (hx : InR n x) : ixL (chs' s x) (p.getD x.toNat 0) = some (chc s p x) := by
  obtain ⟨h0, h1⟩ := hp.2 x hx
  obtain ⟨j, hj⟩ := Int.eq_ofNat_of_zero_le h0
  refine ixL_s (n := j) ?_ hj
  unfold chc
  rw [hj, Int.toNat_natCast, List.getD_eq_getElem?_getD, List.getElem?_eq_getElem (by omega)]; rfl
theorem restr_ok {n : Nat} {s : TSy} {p : List Int} (hs : OKS n s) (hp : VP n s p) : m_restricted s p = some (rsC n s p) := by
  have hl := hp.1
  have hn := hs.2.1
  unfold m_restricted
  refine bnd (room_s (by rw [enumI_len]; omega)) (bnd (a := (rsC n s p, ())) ?_ rfl)
  have h1 := compM_map (f := fun (s10 : Unit) (x17 : (Int × Int)) => (Option.bind (ixL s x17.1) fun t38 => Option.bind (ixL t38 x17.2) fun t40 => some (some ([t40]), ()))) (g := fun q => [chc s p q.1]) (xs := enumI 0 p) fun q hq => by
    obtain ⟨i, hi⟩ := List.getElem?_of_mem hq
    obtain ⟨g1, g2⟩ := enumI_get hi
    obtain ⟨hi, g3⟩ := List.getElem?_eq_some_iff.mp g2
    have hx : InR n q.1 := ⟨by omega, by omega⟩
    have e : q.2 = p.getD q.1.toNat 0 := by
      rw [g1, Int.toNat_natCast, Nat.zero_add, List.getD_eq_getElem?_getD, List.getElem?_eq_getElem hi]
      exact g3.symm
    refine bnd (chs_ix hs hx).1 ?_
    rw [e]
    exact bnd (chc_ix hp hx) rfl
  rw [h1]
  refine congrArg (fun z => some (z, ())) (List.ext_getElem? fun i => ?_)
  unfold rsC
  rw [List.getElem?_map, List.getElem?_map, enumI_at, rng_ix]
  by_cases hi : i < n
  · rw [if_pos hi, List.getElem?_eq_getElem (by omega)]
    simp
  · rw [if_neg hi, List.getElem?_eq_none (by omega)]; rfl
theorem rs_len {n : Nat} {s : TSy} {p : List Int} : (rsC n s p).length = n := by unfold rsC; rw [List.length_map, rng_len]; omega
theorem rs_ix {n : Nat} {s : TSy} {p : List Int} {x : Int} (hx : InR n x) : ixL (rsC n s p) x = some [chc s p x] := by
  obtain ⟨h0, h1⟩ := hx
  obtain ⟨i, rfl⟩ := Int.eq_ofNat_of_zero_le h0
  refine ixL_s (n := i) ?_ rfl
  unfold rsC
  rw [List.getElem?_map, rng_ix, if_pos (by omega)]; rfl
theorem rs_chs {n : Nat} {s : TSy} {p : List Int} {x : Int} (hx : InR n x) : chs' (rsC n s p) x = [chc s p x] := by
  have h := rs_ix (s := s) (p := p) hx
  obtain ⟨h0, h1⟩ := hx
  obtain ⟨i, rfl⟩ := Int.eq_ofNat_of_zero_le h0
  unfold chs'
  rw [Int.toNat_natCast, List.getD_eq_getElem?_getD]
  unfold rsC
  rw [List.getElem?_map, rng_ix, if_pos (by omega)]; rfl
theorem rs_oks {n : Nat} {s : TSy} {p : List Int} (hs : OKS n s) (hp : VP n s p) : OKS n (rsC n s p) := by
  refine ⟨rs_len, hs.2.1, fun cs hc => ?_⟩
  obtain ⟨x, hx, rfl⟩ := List.mem_map.mp hc
  have hx := rng_in.mp hx
  have hm := chc_mem hp hx
  have := hs.2.2 _ (chs_ix hs hx).2
  refine ⟨by simp, fun c hc => ?_⟩
  rw [List.mem_singleton.mp hc]
  exact this.2 _ hm
theorem rs_ch {n : Nat} {s : TSy} {p : List Int} (hs : OKS n s) (hp : VP n s p) (hw : ∀ x, InR n x → WE (chc s p x).2) : ChOk n (rsC n s p) (chc s p) := ⟨rs_len, fun x h0 h1 => rs_ix ⟨h0, h1⟩, fun x h0 h1 => hw x ⟨h0, h1⟩, fun x h0 h1 q hq => ends_r hs ⟨h0, h1⟩ (chc_mem hp ⟨h0, h1⟩) hq⟩
theorem chain_ok {n : Nat} {s : TSy} {p : List Int} (hs : OKS n s) (hp : VP n s p) (hw : ∀ x, InR n x → WE (chc s p x).2) : m_l_chain s p = some (lcC n s p) := by
  have hn := hs.2.1
  unfold m_l_chain
  rw [hs.1]
  refine bnd (small62_s (by omega) (by omega)) (bnd (a := lcC n s p) ?_ rfl)
  have : ∀ (l : List Int) (R : List (Int × (List (Int × (Int × Int))))) (F : List (Int × (List (Int × (Int × Int)))) → Int → Option (List (Int × (List (Int × (Int × Int)))))), (∀ x ∈ l, InR n x) → R.length + l.length ≤ 1000 → (∀ x, InR n x → ∀ R, R.length ≤ 1000 → F R x = some (R ++ [((chc s p x).1, (chc s p x).2.map fun q => (q.1, ofQ ((q.2 : Rat) / (wN (chc s p x) : Rat))))])) → foldO F R l = some (R ++ l.map fun x => ((chc s p x).1, (chc s p x).2.map fun q => (q.1, ofQ ((q.2 : Rat) / (wN (chc s p x) : Rat))))) := by
    intro l
    induction l with
    | nil => intro R F _ _ _; show some R = some (R ++ []); rw [List.append_nil]
    | cons x l ih =>
      intro R F hl h1 hF
      rw [List.length_cons] at h1
      refine foldO_cons (hF x (hl x List.mem_cons_self) R (by omega)) ?_
      rw [ih _ F (fun y hy => hl y (List.mem_cons_of_mem _ hy)) (by rw [List.length_append, List.length_singleton]; omega) hF, List.append_assoc]
      rfl
  refine Eq.trans (this (rng 0 (n : Int)) [] _ (fun x hx => rng_in.mp hx) (by rw [rng_len]; simp; omega) fun x hx R hR => ?_) rfl
  have we := hw x hx
  obtain ⟨w1, w2⟩ : 1 ≤ wN (chc s p x) ∧ wsum (chc s p x).2 = (wN (chc s p x) : Int) := wN_pos we
  have wb := (we_sum we).2
  refine bnd (chs_ix hs hx).1 (bnd (pol_ix hp hx) (bnd (chc_ix hp hx) (bnd (room_s (by have := we.2.1; omega)) (bnd (compM_map (g := fun q => q.2) fun q _ => rfl) (bnd (room_s (by have := we.2.1; omega)) ?_)))))
  refine bnd (a := ((chc s p x).2.map fun q => (q.1, ofQ ((q.2 : Rat) / (wN (chc s p x) : Rat))), ())) ?_ (bnd (room_s (by omega)) rfl)
  refine compM_map fun q hq => ?_
  have hq2 := we.2.2 q hq
  show Option.bind (m_l_ratio q.2 (wsum (chc s p x).2)) _ = _
  rw [w2, l_ratio_q (by omega) (Nat.lt_of_lt_of_le (show q.2.natAbs < 2 ^ 10 by omega) (Nat.pow_le_pow_right (by decide) (by decide))) (Nat.lt_of_lt_of_le (show ((wN (chc s p x) : Int)).natAbs < 2 ^ 17 by omega) (Nat.pow_le_pow_right (by decide) (by decide)))]
  have : (((wN (chc s p x) : Nat) : Int) : Rat) = (wN (chc s p x) : Rat) := by push_cast; rfl
  rw [this]
  rfl
theorem lc_ch {n : Nat} {s : TSy} {p : List Int} (hs : OKS n s) (hp : VP n s p) (hw : ∀ x, InR n x → WE (chc s p x).2) : LChOk n (lcC n s p) (chc s p) := ⟨by unfold lcC; rw [List.length_map, rng_len]; omega, fun x h0 h1 => by
    obtain ⟨i, rfl⟩ := Int.eq_ofNat_of_zero_le h0
    refine ixL_s (n := i) ?_ rfl
    unfold lcC
    rw [List.getElem?_map, rng_ix, if_pos (by omega)]; rfl, fun x h0 h1 => hw x ⟨h0, h1⟩, fun x h0 h1 q hq => ends_r hs ⟨h0, h1⟩ (chc_mem hp ⟨h0, h1⟩) hq⟩
end L3

namespace L3
open PySem L2
section
variable {n : Nat} {sys sys' : TSy} {al al' ta ta' : List Int} {x : Int}
theorem att_pos (h : isAtt n sys al ta x) : isPos n sys al ta x := by
  have h1 := att_self.st x h
  have : InR n x := att_self.r x h
  clear h
  have key : ∀ x, Rch (stP sys (restOf n al ta) (isAtt n sys al ta)) (fun y => y ∈ ta) x → InR n x → isPos n sys al ta x := by
    intro x hx
    induction hx with
    | base h => exact fun hr => .base ⟨hr, h⟩
    | step s _ ih =>
      intro hr
      obtain ⟨a, c, b, d, q, hq, rfl⟩ := s
      exact .step ⟨a, c, b, q, hq, rfl⟩ (ih (att_self.r _ (d q hq)))
  exact key x h1 this
theorem cert_att (hs : OKS n sys) (hne : ∀ x, InR n x → chs' sys x ≠ []) (hx : InR n x) (h : ¬ isLost n sys al ta x) : isAtt n sys al ta x := by
  obtain ⟨p, hp, _⟩ := pickPol hne fun _ _ => True
  exact (att_iff hs hne hx).mp ⟨p, hp, fun z => h ((lost_iff hs hne).mp ⟨p, hp, z⟩)⟩
theorem npos_nev (hs : OKS n sys) (hne : ∀ x, InR n x → chs' sys x ≠ []) (hx : InR n x) (h : ¬ isPos n sys al ta x) : isNev n sys al ta x := by
  obtain ⟨p, hp, _⟩ := pickPol hne fun _ _ => True
  exact (nev_iff hs hne hx).mp ⟨p, hp, fun z => h ((pos_iff hne).mp ⟨p, hp, z⟩)⟩
/-- one choice in each state -/
theorem vp_one {p : List Int} (h1 : ∀ x, InR n x → (chs' sys x).length = 1) (hp : VP n sys p) : p = List.replicate n 0 := by
  refine List.ext_getElem? fun i => ?_
  by_cases hi : i < n
  · have := hp.2 (i : Int) ⟨by omega, by omega⟩
    rw [h1 (i : Int) ⟨by omega, by omega⟩, Int.toNat_natCast, List.getD_eq_getElem?_getD, List.getElem?_eq_getElem (by have := hp.1; omega)] at this
    rw [List.getElem?_eq_getElem (by have := hp.1; omega), List.getElem?_replicate, if_pos hi]
    have h2 : (0 : Int) ≤ p[i]'(by have := hp.1; omega) ∧ p[i]'(by have := hp.1; omega) < ((1 : Nat) : Int) := this
    exact congrArg some (by omega)
  · rw [List.getElem?_eq_none (by have := hp.1; omega), List.getElem?_eq_none (by simp; omega)]
theorem one_halves (hs : OKS n sys) (h1 : ∀ x, InR n x → (chs' sys x).length = 1) (hx : InR n x) : (isAtt n sys al ta x ↔ ¬ isLost n sys al ta x) ∧ (isNev n sys al ta x ↔ ¬ isPos n sys al ta x) := by
  have hne : ∀ x, InR n x → chs' sys x ≠ [] := fun x hx z => by have := h1 x hx; rw [z] at this; cases this
  refine ⟨⟨fun h => ?_, cert_att hs hne hx⟩, ⟨fun h => ?_, npos_nev hs hne hx⟩⟩
  · obtain ⟨p, hp, h⟩ := (att_iff hs hne hx).mpr h
    rintro z
    obtain ⟨q, hq, z⟩ := (lost_iff hs hne).mpr z
    rw [vp_one h1 hq, ← vp_one h1 hp] at z
    exact h z
  · obtain ⟨p, hp, h⟩ := (nev_iff hs hne hx).mpr h
    rintro z
    obtain ⟨q, hq, z⟩ := (pos_iff hne).mpr z
    rw [vp_one h1 hq, ← vp_one h1 hp] at z
    exact h z
end
end L3

namespace L3
open PySem L2
section
variable {n : Nat} {s : TSy} {p al ta : List Int} {x : Int}
theorem st_iff {y : Int} : stS (rsC n s p) (restOf (n : Int) al ta) x y ↔ stC s p (restOf (n : Int) al ta) x y := by
  constructor
  · rintro ⟨h, c, hc, q, hq, e⟩
    rw [rs_chs (rest_r h)] at hc
    rw [List.mem_singleton.mp hc] at hq
    exact ⟨h, q, hq, e⟩
  · rintro ⟨h, q, hq, e⟩
    exact ⟨h, chc s p x, by rw [rs_chs (rest_r h)]; exact List.mem_cons_self, q, hq, e⟩
theorem pos_can : isPos n (rsC n s p) al ta x ↔ canP n s p al ta x := ⟨fun h => h.mono (fun _ _ z => st_iff.mp z) fun _ z => z, fun h => h.mono (fun _ _ z => st_iff.mpr z) fun _ z => z⟩
theorem lost_lost (hs : OKS n s) (hp : VP n s p) : isLost n (rsC n s p) al ta x ↔ lostP n s p al ta x := by
  have h1 : ∀ x, InR n x → (chs' (rsC n s p) x).length = 1 := fun x hx => by rw [rs_chs hx]; rfl
  have nv : ∀ y, isNev n (rsC n s p) al ta y ↔ InR n y ∧ ¬ canP n s p al ta y := fun y => by
    constructor
    · intro h
      have hy : InR n y := (nev_self (n := n) (sys := rsC n s p) (al := al) (ta := ta)).r y h
      exact ⟨hy, fun z => ((one_halves (rs_oks hs hp) h1 hy).2.mp h) (pos_can.mpr z)⟩
    · rintro ⟨hy, h⟩
      exact (one_halves (rs_oks hs hp) h1 hy).2.mpr fun z => h (pos_can.mp z)
  exact ⟨fun h => h.mono (fun _ _ z => st_iff.mp z) fun y z => (nv y).mp z, fun h => h.mono (fun _ _ z => st_iff.mpr z) fun y z => (nv y).mpr z⟩
theorem stN_iff {rest : List Int} (hr : ∀ x ∈ rest, InR n x) {y : Int} : stN (lcC n s p) rest x y ↔ stC s p rest x y := by
  have e : ∀ x, InR n x → (chn (lcC n s p) x).2 = (chc s p x).2.map fun q => (q.1, ofQ ((q.2 : Rat) / (wN (chc s p x) : Rat))) := fun x hx => by
    obtain ⟨h0, h1⟩ := hx
    obtain ⟨i, rfl⟩ := Int.eq_ofNat_of_zero_le h0
    unfold chn lcC
    rw [Int.toNat_natCast, List.getD_eq_getElem?_getD, List.getElem?_map, rng_ix, if_pos (by omega)]; rfl
  constructor
  · rintro ⟨h, q, hq, e2⟩
    rw [e x (hr x h)] at hq
    obtain ⟨q', hq', rfl⟩ := List.mem_map.mp hq
    exact ⟨h, q', hq', e2⟩
  · rintro ⟨h, q, hq, e2⟩
    exact ⟨h, (q.1, ofQ ((q.2 : Rat) / (wN (chc s p x) : Rat))), by rw [e x (hr x h)]; exact List.mem_map.mpr ⟨q, hq, rfl⟩, e2⟩
theorem stC_rest {r r' : List Int} (h : ∀ x, x ∈ r → x ∈ r') {y : Int} (hh : stC s p r x y) : stC s p r' x y := ⟨h x hh.1, hh.2⟩
/-- the states that are not lost and no targets -/
noncomputable def unkn (n : Nat) (s : TSy) (p ta : List Int) : List Int := (rng 0 (n : Int)).filter fun x => dec (¬ lostP n s p (rng 0 (n : Int)) ta x) && !decide (x ∈ ta)
theorem unkn_mem : x ∈ unkn n s p ta ↔ InR n x ∧ ¬ lostP n s p (rng 0 (n : Int)) ta x ∧ x ∉ ta := by
  unfold unkn
  rw [List.mem_filter, rng_in, Bool.and_eq_true, dec_iff, Bool.not_eq_true', decide_eq_false_iff_not]
theorem unkn_out : ∀ x ∈ unkn n s p ta, Out (unkn n s p ta) (chc s p) x := fun x hx => by
  obtain ⟨h1, h2, h3⟩ := unkn_mem.mp hx
  have hc : canP n s p (rng 0 (n : Int)) ta x := Classical.byContradiction fun z => h2 (.base ⟨h1, z⟩)
  have : ∀ y, canP n s p (rng 0 (n : Int)) ta y → Out (unkn n s p ta) (chc s p) y := fun y hy => by
    induction hy with
    | base h => exact .out fun z => (unkn_mem.mp z).2.2 h.2
    | step h _ ih =>
      obtain ⟨_, q, hq, rfl⟩ := h
      exact .step hq ih
  exact this x hc
theorem unkn_nodup : (unkn n s p ta).Nodup := by
  unfold unkn
  refine List.Nodup.sublist List.filter_sublist ?_
  unfold rng
  exact List.Pairwise.map _ (fun (a b : Nat) (h : a ≠ b) => fun (z : (0 : Int) + (a : Int) = 0 + (b : Int)) => h (by omega)) List.nodup_range
theorem unkn_len : (unkn n s p ta).length ≤ n := by
  unfold unkn
  exact Nat.le_trans (List.length_filter_le _ _) (by rw [rng_len]; omega)
end
end L3

namespace L3
open PySem L2
noncomputable def fnL (n : Nat) (s : TSy) (p ta : List Int) (v : Int → Rat) : List (Option (Int × Int)) := (rng 0 (n : Int)).map fun x => if dec (lostP n s p (rng 0 (n : Int)) ta x) = true then none else some (ofQ (v x))
theorem repl_kl {n : Nat} (hn : n ≤ 1000) : repL ([((0 : Int), (1 : Int))]) (n : Int) = some (kl n fun _ => 0) := by
  rw [repL_s (by omega), rep_flat]
  refine congrArg some ?_
  unfold kl
  rw [show (fun (_ : Int) => ofQ 0) = fun _ => ((0 : Int), (1 : Int)) from funext fun _ => ofQ_0, List.map_const', rng_len, show ((n : Int) - 0).toNat = n by omega]
/-- the values of a chain, one way or the other: the same -/
theorem costs_ok {n Wm k : Nat} {s : TSy} {p ta : List Int} (hs : OKS n s) (hn : n ≤ 100) (hp : VP n s p) (hw : ∀ x, InR n x → WE (chc s p x).2) (hc : ∀ x, InR n x → 0 ≤ (chc s p x).1 ∧ (chc s p x).1 ≤ 1000) (hta : ∀ x ∈ ta, InR n x) (htl : ta.length ≤ 1000) (hW : ∀ x, InR n x → wN (chc s p x) ≤ Wm) (hW0 : 1 ≤ Wm) (hW1 : Wm ≤ 8000) (hk : SizeOk (unkn n s p ta).length Wm 1 1000 k) (hk2 : 3 * k ≤ 988) :
    ∃ v, m_policy_costs s p ta = some (fnL n s p ta v) ∧ m_l_costs (lcC n s p) ta = some (fnL n s p ta v) := by
  have hU := unkn_nodup (n := n) (s := s) (p := p) (ta := ta)
  have hUr : ∀ x ∈ unkn n s p ta, 0 ≤ x ∧ x < (n : Int) := fun x hx => (unkn_mem.mp hx).1
  have hlen : (unkn n s p ta).length ≤ 1000 := by have := unkn_len (n := n) (s := s) (p := p) (ta := ta); omega
  have exb : ∀ x, InR n x → IsI (1 * 1000) (((1 : Nat) : Rat) * ((chc s p x).1 : Rat)) := fun x hx => ⟨(chc s p x).1, by grind, by have := hc x hx; omega⟩
  have knb : ∀ y : Int, IsI (1 * 1000) (((1 : Nat) : Rat) * (0 : Rat)) := fun _ => ⟨0, by grind, by simp⟩
  have exE : ∀ x, InR n x → ixL ((rng 0 (n : Int)).map fun x => ((chc s p x).1, (1 : Int))) x = some (ofQ ((chc s p x).1 : Rat)) := fun x hx => by
    obtain ⟨h0, h1⟩ := hx
    obtain ⟨i, rfl⟩ := Int.eq_ofNat_of_zero_le h0
    refine ixL_s (n := i) ?_ rfl
    rw [List.getElem?_map, rng_ix, if_pos (by omega), ofQ_int]; rfl
  have b1 : 2 * Wm < 2 ^ 14 := by omega
  have b2 : 2 * Wm * (1 * 1000) < 2 ^ 24 := by omega
  obtain ⟨v, f1, f2, f3, f4⟩ := filled_ok (kn := fun _ => 0) (ex := fun x => ((chc s p x).1 : Rat)) (extra := (rng 0 (n : Int)).map fun x => ((chc s p x).1, (1 : Int))) (a := 14) (b := 24) (L := 1) (C := 1000) (k := k) (rs_ch hs hp hw) (by omega) hU hUr hlen (fun y _ _ => knb y) (fun x hx => ⟨exE x (hUr x hx), exb x (hUr x hx)⟩) (fun x hx => hW x (hUr x hx)) hW0 (by decide) (by decide) b1 b2 (by decide) (by decide) (by decide) hk (by omega) unkn_out
  obtain ⟨v', g1, g2, g3, g4⟩ := l_filled_ok (kn := fun _ => 0) (ex := fun x => ((chc s p x).1 : Rat)) (extra := (rng 0 (n : Int)).map fun x => ((chc s p x).1, (1 : Int))) (a := 14) (b := 24) (L := 1) (C := 1000) (k := k) (lc_ch hs hp hw) (by omega) hU hUr hlen (fun y _ _ => knb y) (fun x hx => ⟨exE x (hUr x hx), exb x (hUr x hx)⟩) (fun x hx => hW x (hUr x hx)) hW0 (by decide) (by decide) b1 b2 (by decide) (by decide) (by decide) (by decide) hk hk2 unkn_out
  have vv : v' = v := funext fun y => (one_way (ex := fun x => ((chc s p x).1 : Rat)) (fun x hx => hw x (hUr x hx)) (fun y hy => by rw [f2 y hy, g2 y hy]) f3 g3 unkn_out y).symm
  subst vv
  have hll : ∀ {x : Int}, isLost n (rsC n s p) (rng 0 (n : Int)) ta x ↔ lostP n s p (rng 0 (n : Int)) ta x := fun {x} => lost_lost hs hp
  refine ⟨v', ?_, ?_⟩
  · unfold m_policy_costs
    rw [hs.1]
    refine bnd (restr_ok hs hp) (bnd (rgO_s (by omega) (by omega)) (bnd (certain_ok (rs_oks hs hp)) (bnd (room_s (by have := pick_len (n := n) (P := fun x => ¬ isLost n (rsC n s p) (rng 0 (n : Int)) ta x); omega)) ?_)))
    refine bnd (a := (unkn n s p ta, ())) ?_ (bnd (room_s (by rw [rs_len]; omega)) (bnd (a := ((rng 0 (n : Int)).map fun x => ((chc s p x).1, (1 : Int)), ())) ?_ (bnd (repl_kl (by omega)) (bnd f1 (bnd (small62_s (by omega) (by omega)) (bnd (room_s (by rw [rng_len]; omega)) (bnd (a := (fnL n s p ta v', ())) ?_ rfl)))))))
    · rw [compM_filter (p := fun x => !decide (x ∈ ta)) fun x _ => rfl]
      refine congrArg (fun z => some (z, ())) ?_
      unfold pick unkn
      rw [List.filter_filter]
      refine List.filter_congr fun x _ => ?_
      have : dec (¬ isLost n (rsC n s p) (rng 0 (n : Int)) ta x) = dec (¬ lostP n s p (rng 0 (n : Int)) ta x) := by rw [hll]
      rw [this, Bool.and_comm]
    · rw [compM_map (g := fun (cs : List (Int × List (Int × Int))) => ((cs.getD 0 (0, [])).1, (1 : Int))) fun cs hcs => by
        obtain ⟨x, hx, rfl⟩ := List.mem_map.mp hcs
        exact bnd (ixL_s (n := 0) rfl rfl) rfl]
      unfold rsC
      rw [List.map_map]
      rfl
    · refine compM_map fun x hx => ?_
      have hx := rng_in.mp hx
      by_cases g : lostP n s p (rng 0 (n : Int)) ta x
      · have : x ∉ pick n fun x => ¬ isLost n (rsC n s p) (rng 0 (n : Int)) ta x := fun z => (pick_mem.mp z).2 (hll.mpr g)
        rw [if_pos (dec_iff.mpr g)]
        exact bnd (by rw [if_neg (by simpa using this)]) rfl
      · have : x ∈ pick n fun x => ¬ isLost n (rsC n s p) (rng 0 (n : Int)) ta x := pick_mem.mpr ⟨hx, fun z => g (hll.mp z)⟩
        rw [if_neg (fun z => g (dec_iff.mp z))]
        refine bnd (a := some (ofQ (v' x))) ?_ rfl
        rw [if_pos (decide_eq_true this)]
        exact bnd (kl_ix hx.1 hx.2) rfl
  · have lcl : (lcC n s p).length = n := (lc_ch hs hp hw).len
    have rm : ∀ x, x ∈ (rng 0 (n : Int)).filter (fun x => !decide (x ∈ ta)) ↔ x ∈ restOf (n : Int) (rng 0 (n : Int)) ta := fun x => by
      unfold restOf
      rw [List.mem_filter, List.mem_filter]
      constructor
      · rintro ⟨h1, h2⟩
        exact ⟨h1, by rw [decide_eq_true h1]; exact h2⟩
      · rintro ⟨h1, h2⟩
        exact ⟨h1, (Bool.and_eq_true_iff.mp h2).2⟩
    have rr : ∀ x ∈ (rng 0 (n : Int)).filter (fun x => !decide (x ∈ ta)), InR n x := fun x hx => rng_in.mp (List.mem_filter.mp hx).1
    have stq : ∀ x y, stN (lcC n s p) ((rng 0 (n : Int)).filter fun x => !decide (x ∈ ta)) x y ↔ stC s p (restOf (n : Int) (rng 0 (n : Int)) ta) x y := fun x y => (stN_iff rr).trans ⟨stC_rest fun z => (rm z).mp, stC_rest fun z => (rm z).mpr⟩
    have ce : ∀ c ∈ lcC n s p, c.2.length ≤ 1000 := fun c hcm => by
      obtain ⟨x, hx, rfl⟩ := List.mem_map.mp hcm
      show (List.map _ _).length ≤ _
      rw [List.length_map]
      have := (hw x (rng_in.mp hx)).2.1
      omega
    have fl : ∀ q : Int → Bool, ((rng 0 (n : Int)).filter q).length ≤ n := fun q => Nat.le_trans (List.length_filter_le _ _) (by rw [rng_len]; omega)
    obtain ⟨r1, e1, h1⟩ := l_back_ok (ch := lcC n s p) (rest := (rng 0 (n : Int)).filter fun x => !decide (x ∈ ta)) (known := ta) (by omega) (fun x hx => by rw [lcl]; exact rr x hx) (by rw [lcl]; exact fl _) htl ce
    have hr1 : ∀ x, x ∈ r1 ↔ canP n s p (rng 0 (n : Int)) ta x := fun x => (h1 x).trans ⟨fun h => h.mono (fun _ _ z => (stq _ _).mp z) fun y hy => ⟨hta y hy, hy⟩, fun h => h.mono (fun _ _ z => (stq _ _).mpr z) fun y hy => hy.2⟩
    obtain ⟨r2, e2, h2⟩ := l_back_ok (ch := lcC n s p) (rest := (rng 0 (n : Int)).filter fun x => !decide (x ∈ ta)) (known := (rng 0 (n : Int)).filter fun x => !decide (x ∈ r1)) (by omega) (fun x hx => by rw [lcl]; exact rr x hx) (by rw [lcl]; exact fl _) (Nat.le_trans (fl _) (by omega)) ce
    have hr2 : ∀ x, x ∈ r2 ↔ lostP n s p (rng 0 (n : Int)) ta x := fun x => (h2 x).trans ⟨fun h => h.mono (fun _ _ z => (stq _ _).mp z) fun y hy => by
      obtain ⟨a1, a2⟩ := List.mem_filter.mp hy
      exact ⟨rng_in.mp a1, fun z => by rw [decide_eq_true ((hr1 y).mpr z)] at a2; cases a2⟩, fun h => h.mono (fun _ _ z => (stq _ _).mpr z) fun y hy => List.mem_filter.mpr ⟨rng_in.mpr hy.1, by rw [decide_eq_false fun z => hy.2 ((hr1 y).mp z)]; rfl⟩⟩
    unfold m_l_costs
    rw [lcl]
    refine bnd (small62_s (by omega) (by omega)) (bnd (room_s (by rw [rng_len]; omega)) (bnd (compM_filter (p := fun x => !decide (x ∈ ta)) fun x _ => rfl) (bnd e1 (bnd (small62_s (by omega) (by omega)) (bnd (room_s (by rw [rng_len]; omega)) (bnd (compM_filter (p := fun x => !decide (x ∈ r1)) fun x _ => rfl) (bnd e2 (bnd (room_s (Nat.le_trans (fl _) (by omega))) ?_))))))))
    refine bnd (a := (unkn n s p ta, ())) ?_ (bnd (repl_kl (by omega)) (bnd (room_s (by omega)) (bnd (a := ((rng 0 (n : Int)).map fun x => ((chc s p x).1, (1 : Int)), ())) ?_ (bnd g1 (bnd (small62_s (by omega) (by omega)) (bnd (room_s (by rw [rng_len]; omega)) (bnd (a := (fnL n s p ta v', ())) ?_ rfl)))))))
    · rw [compM_filter (p := fun x => !decide (x ∈ r2)) fun x _ => rfl]
      refine congrArg (fun z => some (z, ())) ?_
      unfold unkn
      rw [List.filter_filter]
      refine List.filter_congr fun x _ => ?_
      have : (!decide (x ∈ r2)) = dec (¬ lostP n s p (rng 0 (n : Int)) ta x) := by
        rw [Bool.eq_iff_iff, dec_iff, ← hr2]
        simp
      rw [this]
    · rw [compM_map (g := fun (c : Int × (List (Int × (Int × Int)))) => (c.1, (1 : Int))) fun c _ => rfl]
      unfold lcC
      rw [List.map_map]
      rfl
    · refine compM_map fun x hx => ?_
      have hx := rng_in.mp hx
      by_cases g : lostP n s p (rng 0 (n : Int)) ta x
      · rw [if_pos (dec_iff.mpr g)]
        exact bnd (by rw [if_pos (decide_eq_true ((hr2 x).mpr g))]) rfl
      · rw [if_neg (fun z => g (dec_iff.mp z))]
        refine bnd (a := some (ofQ (v' x))) ?_ rfl
        rw [if_neg (by simpa using fun z => g ((hr2 x).mp z))]
        exact bnd (kl_ix hx.1 hx.2) rfl
end L3

namespace L3
open PySem L2
def GoodS (s : TSy) : Prop := ∃ Wm k, 1 ≤ Wm ∧ Wm ≤ 8000 ∧ OKS s.length s ∧ s.length ≤ 20 ∧ (∀ cs ∈ s, 1 ≤ cs.length ∧ ∀ c ∈ cs, WE c.2 ∧ (0 ≤ c.1 ∧ c.1 ≤ 1000) ∧ wN c ≤ Wm) ∧ (∀ m, m ≤ s.length → SizeOk m Wm 1 1000 k) ∧ 3 * k ≤ 988
theorem sz_a : ∀ m, m < 11 → ((m * (1 * (2 * 6000))) ^ m * (2 * 6000 * (1 * 1000)) + m * (1 * (2 * 6000) * (m * (2 * 6000 * (1 * 1000) * (m * (1 * (2 * 6000))) ^ m))) < 2 ^ 220 ∧ 6000 * 1 * (m * (1 * (2 * 6000))) ^ m < 2 ^ 220) := by decide +kernel
theorem sz_b : ∀ m, m < 21 → ((m * (1 * (2 * 4))) ^ m * (2 * 4 * (1 * 1000)) + m * (1 * (2 * 4) * (m * (2 * 4 * (1 * 1000) * (m * (1 * (2 * 4))) ^ m))) < 2 ^ 220 ∧ 4 * 1 * (m * (1 * (2 * 4))) ^ m < 2 ^ 220) := by decide +kernel
theorem ve_we {m : Nat} {e : List (Int × Int)} (h : VE m e) (hm : m ≤ 100) : WE e := by
  obtain ⟨h1, h2, h3, _⟩ := h
  refine ⟨?_, by omega, fun q hq => ⟨(h3 q hq).2.2.1, (h3 q hq).2.2.2⟩⟩
  cases e with
  | nil => exact absurd rfl h1
  | cons a l => simp
theorem we_len {e : List (Int × Int)} (h : WE e) : wsum e ≤ 1000 * e.length := by
  have := (sum_bd (e.map (·.2)) fun v hv => by
    obtain ⟨q, hq, rfl⟩ := List.mem_map.mp hv
    exact h.2.2 q hq).2
  rw [List.length_map] at this
  exact this
theorem good_vs {s : TSy} (h : VS 3 s) (hl : s.length ≤ 4) : GoodS s := by
  refine ⟨6000, 220, by decide, by decide, oks_vs h (by omega), by omega, fun cs hc => ?_, fun m hm => ⟨(sz_a m (by omega)).1, (sz_a m (by omega)).2, by decide⟩, by decide⟩
  obtain ⟨a1, a2, a3⟩ := h.2 cs hc
  refine ⟨a1, fun c hcc => ?_⟩
  obtain ⟨b1, b2, b3⟩ := a3 c hcc
  have we := ve_we b3 (by omega)
  have wl := we_len we
  have := b3.2.1
  refine ⟨we, ⟨b1, b2⟩, ?_⟩
  unfold wN
  omega
theorem good_ls {s : TSy} {n : Nat} (h : LS n s) (hl : n ≤ 10) : GoodS s := by
  have hn := h.1
  refine ⟨6000, 220, by decide, by decide, oks_ls h (by omega), by omega, fun cs hc => ?_, fun m hm => ⟨(sz_a m (by omega)).1, (sz_a m (by omega)).2, by decide⟩, by decide⟩
  obtain ⟨⟨a1, a2⟩, a3⟩ := h.2 cs hc
  refine ⟨a1, fun c hcc => ?_⟩
  obtain ⟨⟨b1, b2, b3⟩, b4⟩ := a3 c hcc
  have we := ve_we b3 (by omega)
  have wl := we_len we
  refine ⟨we, ⟨b1, b2⟩, ?_⟩
  unfold wN
  omega
theorem sum2 : ∀ (e : List (Int × Int)), (∀ q ∈ e, q.2 ≤ 2) → wsum e ≤ 2 * e.length
  | [], _ => by show (0 : Int) ≤ _; simp
  | q :: e, h => by
    have ih := sum2 e fun p hp => h p (List.mem_cons_of_mem _ hp)
    have hq := h q List.mem_cons_self
    have : wsum (q :: e) = q.2 + wsum e := by show (List.map _ (q :: e)).sum = _; rw [List.map_cons, List.sum_cons]
    rw [this, List.length_cons]
    omega
theorem good_th {s : TSy} {n : Nat} (h : TH n s) (hl : n ≤ 20) : GoodS s := by
  have hn := h.1
  refine ⟨4, 220, by decide, by decide, ⟨rfl, by omega, fun cs hc => ?_⟩, by omega, fun cs hc => ?_, fun m hm => ⟨(sz_b m (by omega)).1, (sz_b m (by omega)).2, by decide⟩, by decide⟩
  · obtain ⟨⟨a1, a2⟩, a3⟩ := h.2 cs hc
    refine ⟨by omega, fun c hcc => ?_⟩
    obtain ⟨⟨b1, b2, b3⟩, b4, _⟩ := a3 c hcc
    exact ⟨by omega, fun q hq => ⟨(b3.2.2.1 q hq).1, by have := (b3.2.2.1 q hq).2.1; omega⟩⟩
  obtain ⟨⟨a1, a2⟩, a3⟩ := h.2 cs hc
  refine ⟨a1, fun c hcc => ?_⟩
  obtain ⟨⟨b1, b2, b3⟩, b4, b5⟩ := a3 c hcc
  have we := ve_we b3 (by omega)
  have wl := sum2 c.2 b5
  refine ⟨we, ⟨b1, b2⟩, ?_⟩
  unfold wN
  omega
theorem law_true (ns : List Int) (h : ns.length ≤ 63) : m_law ns = some true := by
  suffices hy : Yes (m_law ns) (· = true) by
    obtain ⟨c, h1, rfl⟩ := hy; exact h1
  unfold m_law
  refine y_bind (tape_ok h) fun t ht => ?_
  refine y_bind (Q := fun o => ∃ s, o = .inl s) ?_ fun o ho => ?_
  rotate_left
  · obtain ⟨s, rfl⟩ := ho; exact y_some rfl
  refine y_loopR _ (fun i s => StOk s (100000 * i)) _ ⟨ht, Int.le_refl 0, by simp⟩ ?_ fun s _ => ⟨s, rfl⟩
  rintro i x st hx hst
  obtain ⟨e1, e2⟩ := rng_at hx
  refine y_bind (system_ok hst (by omega) (by decide) (by decide)) fun t39 h39 => y_bind (take_ok h39.2 (by omega) (by decide)) fun t44 h44 => ?_
  refine y_bind (Q := fun (r : TSy × (List Int × Int)) => GoodS r.1 ∧ StOk r.2 (100000 * i + 60000)) (y_if (fun _ => ?_) fun _ => y_some ⟨good_vs h39.1.1 (by have := h39.1.2; show t39.1.length ≤ 4; omega), h44.2.le (by omega)⟩) fun s47 h47 => ?_
  · refine y_bind (take_ok h44.2 (by omega) (by decide)) fun t50 h50 => ?_
    have r50 := h50.1
    refine y_bind (thin_ok h50.2 (by omega) (by omega) (by omega)) fun t52 h52 => y_bind (take_ok h52.2 (by omega) (by decide)) fun t57 h57 => ?_
    refine y_bind (Q := fun (r : TSy × (List Int × Int)) => GoodS r.1 ∧ StOk r.2 (100000 * i + 60000)) (y_if (fun _ => ?_) fun _ => y_some ⟨good_th h52.1 (by show _ ≤ 20; omega), h57.2.le (by omega)⟩) fun r hr => y_some hr
    refine y_bind (take_ok h57.2 (by omega) (by decide)) fun t63 h63 => ?_
    have r63 := h63.1
    exact y_bind (large_ok h63.2 (by omega) (by omega) (by omega)) fun t65 h65 => y_some ⟨good_ls h65.1 (by omega), h65.2.le (by omega)⟩
  obtain ⟨⟨Wm, k, w1, w2, hs, hn, hcs, hsz, hk2⟩, hst2⟩ := h47
  refine y_bind (drawn_ok hst2 (by omega) (by omega) fun cs hc => (hcs cs hc).1) fun t80 h80 => ?_
  refine y_bind (some_ok h80.2 (by omega) (by omega) (by omega) (by decide)) fun t85 h85 => ?_
  have hp := h80.1
  have cm : ∀ x, InR s47.1.length x → WE (chc s47.1 t80.1 x).2 ∧ (0 ≤ (chc s47.1 t80.1 x).1 ∧ (chc s47.1 t80.1 x).1 ≤ 1000) ∧ wN (chc s47.1 t80.1 x) ≤ Wm := fun x hx => (hcs _ (chs_ix hs hx).2).2 _ (chc_mem hp hx)
  have tl : t85.1.length ≤ s47.1.length := nodup_le h85.1.2 h85.1.1
  obtain ⟨v, c1, c2⟩ := costs_ok (k := k) hs (by omega) hp (fun x hx => (cm x hx).1) (fun x hx => (cm x hx).2.1) (fun x hx => h85.1.1 x hx) (by omega) (fun x hx => (cm x hx).2.2) w1 w2 (hsz _ unkn_len) hk2
  refine y_eq (chain_ok hs hp fun x hx => (cm x hx).1) (y_eq c2 (y_eq c1 (y_eq (eq_self (okD_lst (n := 7) ?_ ?_)) (y_n (by simp) (y_some (h85.2.le ?_))))))
  · unfold fnL
    rw [List.length_map, rng_len]; omega
  · intro o _
    cases o with
    | none => trivial
    | some q => exact okD_q (n := 5) q
  · omega
end L3

namespace L3
open PySem PySem.Spec PyProof.Rows L2
/-! ### the end -/
namespace End
def d_rest_of : He.DefD := ⟨("rest_of", none), "rest_of", "rest_of", defArgs s_rest_of, defBody s_rest_of, defScope s_rest_of, [], []⟩
def d_ratio : He.DefD := ⟨("ratio", none), "ratio", "ratio", defArgs s_ratio, defBody s_ratio, defScope s_ratio, [], []⟩
def d_pivot_of : He.DefD := ⟨("pivot_of", none), "pivot_of", "pivot_of", defArgs s_pivot_of, defBody s_pivot_of, defScope s_pivot_of, [], []⟩
def d_restricted : He.DefD := ⟨("restricted", none), "restricted", "restricted", defArgs s_restricted, defBody s_restricted, defScope s_restricted, [], []⟩
def d__law_tape : He.DefD := ⟨("_law_tape", none), "_law_tape", "_law_tape", defArgs s__law_tape, defBody s__law_tape, defScope s__law_tape, [], []⟩
def d__law_draw : He.DefD := ⟨("_law_draw", none), "_law_draw", "_law_draw", defArgs s__law_draw, defBody s__law_draw, defScope s__law_draw, [], []⟩
def d__law_ratio : He.DefD := ⟨("_law_ratio", none), "_law_ratio", "_law_ratio", defArgs s__law_ratio, defBody s__law_ratio, defScope s__law_ratio, [], []⟩
def d__law_backward : He.DefD := ⟨("_law_backward", none), "_law_backward", "_law_backward", defArgs s__law_backward, defBody s__law_backward, defScope s__law_backward, [], []⟩
def d_ends_in : He.DefD := ⟨("ends_in", none), "ends_in", "ends_in", defArgs s_ends_in, defBody s_ends_in, defScope s_ends_in, [], []⟩
def d_all_in : He.DefD := ⟨("all_in", none), "all_in", "all_in", defArgs s_all_in, defBody s_all_in, defScope s_all_in, [], []⟩
def d_minus : He.DefD := ⟨("minus", none), "minus", "minus", defArgs s_minus, defBody s_minus, defScope s_minus, [], []⟩
def d_times : He.DefD := ⟨("times", none), "times", "times", defArgs s_times, defBody s_times, defScope s_times, [], []⟩
def d_over : He.DefD := ⟨("over", none), "over", "over", defArgs s_over, defBody s_over, defScope s_over, [], []⟩
def d_plus : He.DefD := ⟨("plus", none), "plus", "plus", defArgs s_plus, defBody s_plus, defScope s_plus, [], []⟩
def d_total_weight : He.DefD := ⟨("total_weight", none), "total_weight", "total_weight", defArgs s_total_weight, defBody s_total_weight, defScope s_total_weight, [], []⟩
def d__law_take : He.DefD := ⟨("_law_take", none), "_law_take", "_law_take", defArgs s__law_take, defBody s__law_take, defScope s__law_take, [], []⟩
def d__law_plus : He.DefD := ⟨("_law_plus", none), "_law_plus", "_law_plus", defArgs s__law_plus, defBody s__law_plus, defScope s__law_plus, [], []⟩
def d__law_times : He.DefD := ⟨("_law_times", none), "_law_times", "_law_times", defArgs s__law_times, defBody s__law_times, defScope s__law_times, [], []⟩
def d__law_over : He.DefD := ⟨("_law_over", none), "_law_over", "_law_over", defArgs s__law_over, defBody s__law_over, defScope s__law_over, [], []⟩
def d__law_chain : He.DefD := ⟨("_law_chain", none), "_law_chain", "_law_chain", defArgs s__law_chain, defBody s__law_chain, defScope s__law_chain, [], []⟩
def d_cleared : He.DefD := ⟨("cleared", none), "cleared", "cleared", defArgs s_cleared, defBody s_cleared, defScope s_cleared, [], []⟩
def d_equations : He.DefD := ⟨("equations", none), "equations", "equations", defArgs s_equations, defBody s_equations, defScope s_equations, [], []⟩
def d__law_ends : He.DefD := ⟨("_law_ends", none), "_law_ends", "_law_ends", defArgs s__law_ends, defBody s__law_ends, defScope s__law_ends, [], []⟩
def d__law_some : He.DefD := ⟨("_law_some", none), "_law_some", "_law_some", defArgs s__law_some, defBody s__law_some, defScope s__law_some, [], []⟩
def d__law_solve : He.DefD := ⟨("_law_solve", none), "_law_solve", "_law_solve", defArgs s__law_solve, defBody s__law_solve, defScope s__law_solve, [], []⟩
def d__law_large : He.DefD := ⟨("_law_large", none), "_law_large", "_law_large", defArgs s__law_large, defBody s__law_large, defScope s__law_large, [], []⟩
def d__law_drawn_policy : He.DefD := ⟨("_law_drawn_policy", none), "_law_drawn_policy", "_law_drawn_policy", defArgs s__law_drawn_policy, defBody s__law_drawn_policy, defScope s__law_drawn_policy, [], []⟩
def d__law_thin : He.DefD := ⟨("_law_thin", none), "_law_thin", "_law_thin", defArgs s__law_thin, defBody s__law_thin, defScope s__law_thin, [], []⟩
def d_backward : He.DefD := ⟨("backward", none), "backward", "backward", defArgs s_backward, defBody s_backward, defScope s_backward, [], []⟩
def d_never : He.DefD := ⟨("never", none), "never", "never", defArgs s_never, defBody s_never, defScope s_never, [], []⟩
def d_solve : He.DefD := ⟨("solve", none), "solve", "solve", defArgs s_solve, defBody s_solve, defScope s_solve, [], []⟩
def d__law_choices : He.DefD := ⟨("_law_choices", none), "_law_choices", "_law_choices", defArgs s__law_choices, defBody s__law_choices, defScope s__law_choices, [], []⟩
def d__law_filled : He.DefD := ⟨("_law_filled", none), "_law_filled", "_law_filled", defArgs s__law_filled, defBody s__law_filled, defScope s__law_filled, [], []⟩
def d_certain : He.DefD := ⟨("certain", none), "certain", "certain", defArgs s_certain, defBody s_certain, defScope s_certain, [], []⟩
def d_filled : He.DefD := ⟨("filled", none), "filled", "filled", defArgs s_filled, defBody s_filled, defScope s_filled, [], []⟩
def d__law_system : He.DefD := ⟨("_law_system", none), "_law_system", "_law_system", defArgs s__law_system, defBody s__law_system, defScope s__law_system, [], []⟩
def d__law_costs : He.DefD := ⟨("_law_costs", none), "_law_costs", "_law_costs", defArgs s__law_costs, defBody s__law_costs, defScope s__law_costs, [], []⟩
def d_policy_costs : He.DefD := ⟨("policy_costs", none), "policy_costs", "policy_costs", defArgs s_policy_costs, defBody s_policy_costs, defScope s_policy_costs, [], []⟩
def d__law_equal : He.DefD := ⟨("_law_equal", none), "_law_equal", "_law_equal", defArgs s__law_equal, defBody s__law_equal, defScope s__law_equal, [], []⟩
def d_law : He.DefD := ⟨("law", none), "law", "law", defArgs s_law, defBody s_law, defScope s_law, [], []⟩
def fn : List He.DefD := [d_rest_of, d_ratio, d_pivot_of, d_restricted, d__law_tape, d__law_draw, d__law_ratio, d__law_backward, d_ends_in, d_all_in, d_minus, d_times, d_over, d_plus, d_total_weight, d__law_take, d__law_plus, d__law_times, d__law_over, d__law_chain, d_cleared, d_equations, d__law_ends, d__law_some, d__law_solve, d__law_large, d__law_drawn_policy, d__law_thin, d_backward, d_never, d_solve, d__law_choices, d__law_filled, d_certain, d_filled, d__law_system, d__law_costs, d_policy_costs, d__law_equal, d_law]
def fa : List He.Fa := [.glo "rest_of", .glo "ratio", .glo "pivot_of", .glo "restricted", .glo "_law_tape", .glo "_law_draw", .glo "_law_ratio", .glo "_law_backward", .glo "ends_in", .glo "all_in", .glo "minus", .glo "times", .glo "over", .glo "plus", .glo "total_weight", .glo "_law_take", .glo "_law_plus", .glo "_law_times", .glo "_law_over", .glo "_law_chain", .glo "cleared", .glo "equations", .glo "_law_ends", .glo "_law_some", .glo "_law_solve", .glo "_law_large", .glo "_law_drawn_policy", .glo "_law_thin", .glo "backward", .glo "never", .glo "solve", .glo "_law_choices", .glo "_law_filled", .glo "certain", .glo "filled", .glo "_law_system", .glo "_law_costs", .glo "policy_costs", .glo "_law_equal", .glo "law", .free "range", .free "len", .free "enumerate", .free "tuple", .free "int", .free "abs", .free "list", .free "any", .free "all", .free "sum", .free "sorted", .free "isinstance", .free "bool", .free "str"]
def tf : List He.Defn := [("ends_in", none), ("all_in", none), ("total_weight", none), ("backward", none), ("never", none)]
def ts : List He.Tab := []
def ex : PySem.W.Frag → Bool := fun K => true && He.eqO (PySem.W.nsIn K mainGlobals "gcd") (some (some (.builtin "math.gcd"))) && pairG K "ZERO" 0 1 && pairG K "ONE" 1 1
def loose0 : List PySem.Str := ["ZERO", "ONE", "ratio", "plus", "minus", "times", "over", "pivot_of", "cleared", "solve", "total_weight", "ends_in", "all_in", "restricted", "rest_of", "backward", "never", "certain", "equations", "filled"]
def loose1 : List PySem.Str := ["policy_costs", "_law_tape", "_law_draw", "_law_equal", "_law_take", "_law_ratio", "_law_plus", "_law_times", "_law_over", "_law_ends", "_law_choices", "_law_system", "_law_some", "_law_solve", "_law_chain", "_law_filled", "_law_backward", "_law_costs", "_law_drawn_policy", "_law_large"]
def loose2 : List PySem.Str := ["_law_thin"]
abbrev loose : List PySem.Str := loose0 ++ loose1 ++ loose2
abbrev R : PySem.W.OpenRow := PySem.W.OpenLaw.row PySem.Challenge.rw_bestodds_k17_costs_of_policies
abbrev hk : PySem.W.Hook := He.hookX 6 fa fn ts tf ex
def ob (s : PySem.W.SharedT) : He.AlX := He.obsX 6 fa fn ts tf ex (HandSHeadRun.getT s)
theorem ob_eq (s : PySem.W.SharedT) : ob s = hk.obs s.abs := He.obsX_eq (HandSHeadRun.getT_eq s)
theorem run (w : World) : HandSHeadRun.RunEqI R (PySem.W.view R.prog [0, 48]) hk ob 4000 loose w := by
  unfold HandSHeadRun.RunEqI
  kernel_rfl
theorem facts {w : World} {K : PySem.W.Frag} {h : Heap} {mg : Str → Option Value} {f : Addr} (X : K.In h) (G : h.Ns mainGlobals mg) (hfa : mg ("law" : Str) = some (.ref f)) (c : He.SaysX fa fn ts tf ex w h K) (hm : ∀ ns : List Int, ns.length ≤ 63 → m_law ns = some true) :
    LamX.LawAtS PySem.Challenge.rw_bestodds_k17_costs_of_policies w K CX0 9 63 "_law_script" mg f h := by
  obtain ⟨fd0, D0⟩ := c.t.d.def_ 0 (d := d_rest_of) rfl
  have F0 : FunC K "rest_of" s_rest_of (He.fAd K ("rest_of", none)) fd0 (He.codeOf K ("rest_of", none)) := funC_of D0
  have n0 : mg "rest_of" = some (.ref (He.fAd K ("rest_of", none))) := He.glo_ok X G (c.t.d.fact 0 (f := .glo "rest_of") rfl)
  obtain ⟨fd1, D1⟩ := c.t.d.def_ 1 (d := d_ratio) rfl
  have F1 : FunC K "ratio" s_ratio (He.fAd K ("ratio", none)) fd1 (He.codeOf K ("ratio", none)) := funC_of D1
  have n1 : mg "ratio" = some (.ref (He.fAd K ("ratio", none))) := He.glo_ok X G (c.t.d.fact 1 (f := .glo "ratio") rfl)
  obtain ⟨fd2, D2⟩ := c.t.d.def_ 2 (d := d_pivot_of) rfl
  have F2 : FunC K "pivot_of" s_pivot_of (He.fAd K ("pivot_of", none)) fd2 (He.codeOf K ("pivot_of", none)) := funC_of D2
  have n2 : mg "pivot_of" = some (.ref (He.fAd K ("pivot_of", none))) := He.glo_ok X G (c.t.d.fact 2 (f := .glo "pivot_of") rfl)
  obtain ⟨fd3, D3⟩ := c.t.d.def_ 3 (d := d_restricted) rfl
  have F3 : FunC K "restricted" s_restricted (He.fAd K ("restricted", none)) fd3 (He.codeOf K ("restricted", none)) := funC_of D3
  have n3 : mg "restricted" = some (.ref (He.fAd K ("restricted", none))) := He.glo_ok X G (c.t.d.fact 3 (f := .glo "restricted") rfl)
  obtain ⟨fd4, D4⟩ := c.t.d.def_ 4 (d := d__law_tape) rfl
  have F4 : FunC K "_law_tape" s__law_tape (He.fAd K ("_law_tape", none)) fd4 (He.codeOf K ("_law_tape", none)) := funC_of D4
  have n4 : mg "_law_tape" = some (.ref (He.fAd K ("_law_tape", none))) := He.glo_ok X G (c.t.d.fact 4 (f := .glo "_law_tape") rfl)
  obtain ⟨fd5, D5⟩ := c.t.d.def_ 5 (d := d__law_draw) rfl
  have F5 : FunC K "_law_draw" s__law_draw (He.fAd K ("_law_draw", none)) fd5 (He.codeOf K ("_law_draw", none)) := funC_of D5
  have n5 : mg "_law_draw" = some (.ref (He.fAd K ("_law_draw", none))) := He.glo_ok X G (c.t.d.fact 5 (f := .glo "_law_draw") rfl)
  obtain ⟨fd6, D6⟩ := c.t.d.def_ 6 (d := d__law_ratio) rfl
  have F6 : FunC K "_law_ratio" s__law_ratio (He.fAd K ("_law_ratio", none)) fd6 (He.codeOf K ("_law_ratio", none)) := funC_of D6
  have n6 : mg "_law_ratio" = some (.ref (He.fAd K ("_law_ratio", none))) := He.glo_ok X G (c.t.d.fact 6 (f := .glo "_law_ratio") rfl)
  obtain ⟨fd7, D7⟩ := c.t.d.def_ 7 (d := d__law_backward) rfl
  have F7 : FunC K "_law_backward" s__law_backward (He.fAd K ("_law_backward", none)) fd7 (He.codeOf K ("_law_backward", none)) := funC_of D7
  have n7 : mg "_law_backward" = some (.ref (He.fAd K ("_law_backward", none))) := He.glo_ok X G (c.t.d.fact 7 (f := .glo "_law_backward") rfl)
  obtain ⟨fd8, D8⟩ := c.t.d.def_ 8 (d := d_ends_in) rfl
  have F8 : FunC K "ends_in" s_ends_in (He.fAd K ("ends_in", none)) fd8 (He.codeOf K ("ends_in", none)) := funC_of D8
  have n8 : mg "ends_in" = some (.ref (He.fAd K ("ends_in", none))) := He.glo_ok X G (c.t.d.fact 8 (f := .glo "ends_in") rfl)
  obtain ⟨fd9, D9⟩ := c.t.d.def_ 9 (d := d_all_in) rfl
  have F9 : FunC K "all_in" s_all_in (He.fAd K ("all_in", none)) fd9 (He.codeOf K ("all_in", none)) := funC_of D9
  have n9 : mg "all_in" = some (.ref (He.fAd K ("all_in", none))) := He.glo_ok X G (c.t.d.fact 9 (f := .glo "all_in") rfl)
  obtain ⟨fd10, D10⟩ := c.t.d.def_ 10 (d := d_minus) rfl
  have F10 : FunC K "minus" s_minus (He.fAd K ("minus", none)) fd10 (He.codeOf K ("minus", none)) := funC_of D10
  have n10 : mg "minus" = some (.ref (He.fAd K ("minus", none))) := He.glo_ok X G (c.t.d.fact 10 (f := .glo "minus") rfl)
  obtain ⟨fd11, D11⟩ := c.t.d.def_ 11 (d := d_times) rfl
  have F11 : FunC K "times" s_times (He.fAd K ("times", none)) fd11 (He.codeOf K ("times", none)) := funC_of D11
  have n11 : mg "times" = some (.ref (He.fAd K ("times", none))) := He.glo_ok X G (c.t.d.fact 11 (f := .glo "times") rfl)
  obtain ⟨fd12, D12⟩ := c.t.d.def_ 12 (d := d_over) rfl
  have F12 : FunC K "over" s_over (He.fAd K ("over", none)) fd12 (He.codeOf K ("over", none)) := funC_of D12
  have n12 : mg "over" = some (.ref (He.fAd K ("over", none))) := He.glo_ok X G (c.t.d.fact 12 (f := .glo "over") rfl)
  obtain ⟨fd13, D13⟩ := c.t.d.def_ 13 (d := d_plus) rfl
  have F13 : FunC K "plus" s_plus (He.fAd K ("plus", none)) fd13 (He.codeOf K ("plus", none)) := funC_of D13
  have n13 : mg "plus" = some (.ref (He.fAd K ("plus", none))) := He.glo_ok X G (c.t.d.fact 13 (f := .glo "plus") rfl)
  obtain ⟨fd14, D14⟩ := c.t.d.def_ 14 (d := d_total_weight) rfl
  have F14 : FunC K "total_weight" s_total_weight (He.fAd K ("total_weight", none)) fd14 (He.codeOf K ("total_weight", none)) := funC_of D14
  have n14 : mg "total_weight" = some (.ref (He.fAd K ("total_weight", none))) := He.glo_ok X G (c.t.d.fact 14 (f := .glo "total_weight") rfl)
  obtain ⟨fd15, D15⟩ := c.t.d.def_ 15 (d := d__law_take) rfl
  have F15 : FunC K "_law_take" s__law_take (He.fAd K ("_law_take", none)) fd15 (He.codeOf K ("_law_take", none)) := funC_of D15
  have n15 : mg "_law_take" = some (.ref (He.fAd K ("_law_take", none))) := He.glo_ok X G (c.t.d.fact 15 (f := .glo "_law_take") rfl)
  obtain ⟨fd16, D16⟩ := c.t.d.def_ 16 (d := d__law_plus) rfl
  have F16 : FunC K "_law_plus" s__law_plus (He.fAd K ("_law_plus", none)) fd16 (He.codeOf K ("_law_plus", none)) := funC_of D16
  have n16 : mg "_law_plus" = some (.ref (He.fAd K ("_law_plus", none))) := He.glo_ok X G (c.t.d.fact 16 (f := .glo "_law_plus") rfl)
  obtain ⟨fd17, D17⟩ := c.t.d.def_ 17 (d := d__law_times) rfl
  have F17 : FunC K "_law_times" s__law_times (He.fAd K ("_law_times", none)) fd17 (He.codeOf K ("_law_times", none)) := funC_of D17
  have n17 : mg "_law_times" = some (.ref (He.fAd K ("_law_times", none))) := He.glo_ok X G (c.t.d.fact 17 (f := .glo "_law_times") rfl)
  obtain ⟨fd18, D18⟩ := c.t.d.def_ 18 (d := d__law_over) rfl
  have F18 : FunC K "_law_over" s__law_over (He.fAd K ("_law_over", none)) fd18 (He.codeOf K ("_law_over", none)) := funC_of D18
  have n18 : mg "_law_over" = some (.ref (He.fAd K ("_law_over", none))) := He.glo_ok X G (c.t.d.fact 18 (f := .glo "_law_over") rfl)
  obtain ⟨fd19, D19⟩ := c.t.d.def_ 19 (d := d__law_chain) rfl
  have F19 : FunC K "_law_chain" s__law_chain (He.fAd K ("_law_chain", none)) fd19 (He.codeOf K ("_law_chain", none)) := funC_of D19
  have n19 : mg "_law_chain" = some (.ref (He.fAd K ("_law_chain", none))) := He.glo_ok X G (c.t.d.fact 19 (f := .glo "_law_chain") rfl)
  obtain ⟨fd20, D20⟩ := c.t.d.def_ 20 (d := d_cleared) rfl
  have F20 : FunC K "cleared" s_cleared (He.fAd K ("cleared", none)) fd20 (He.codeOf K ("cleared", none)) := funC_of D20
  have n20 : mg "cleared" = some (.ref (He.fAd K ("cleared", none))) := He.glo_ok X G (c.t.d.fact 20 (f := .glo "cleared") rfl)
  obtain ⟨fd21, D21⟩ := c.t.d.def_ 21 (d := d_equations) rfl
  have F21 : FunC K "equations" s_equations (He.fAd K ("equations", none)) fd21 (He.codeOf K ("equations", none)) := funC_of D21
  have n21 : mg "equations" = some (.ref (He.fAd K ("equations", none))) := He.glo_ok X G (c.t.d.fact 21 (f := .glo "equations") rfl)
  obtain ⟨fd22, D22⟩ := c.t.d.def_ 22 (d := d__law_ends) rfl
  have F22 : FunC K "_law_ends" s__law_ends (He.fAd K ("_law_ends", none)) fd22 (He.codeOf K ("_law_ends", none)) := funC_of D22
  have n22 : mg "_law_ends" = some (.ref (He.fAd K ("_law_ends", none))) := He.glo_ok X G (c.t.d.fact 22 (f := .glo "_law_ends") rfl)
  obtain ⟨fd23, D23⟩ := c.t.d.def_ 23 (d := d__law_some) rfl
  have F23 : FunC K "_law_some" s__law_some (He.fAd K ("_law_some", none)) fd23 (He.codeOf K ("_law_some", none)) := funC_of D23
  have n23 : mg "_law_some" = some (.ref (He.fAd K ("_law_some", none))) := He.glo_ok X G (c.t.d.fact 23 (f := .glo "_law_some") rfl)
  obtain ⟨fd24, D24⟩ := c.t.d.def_ 24 (d := d__law_solve) rfl
  have F24 : FunC K "_law_solve" s__law_solve (He.fAd K ("_law_solve", none)) fd24 (He.codeOf K ("_law_solve", none)) := funC_of D24
  have n24 : mg "_law_solve" = some (.ref (He.fAd K ("_law_solve", none))) := He.glo_ok X G (c.t.d.fact 24 (f := .glo "_law_solve") rfl)
  obtain ⟨fd25, D25⟩ := c.t.d.def_ 25 (d := d__law_large) rfl
  have F25 : FunC K "_law_large" s__law_large (He.fAd K ("_law_large", none)) fd25 (He.codeOf K ("_law_large", none)) := funC_of D25
  have n25 : mg "_law_large" = some (.ref (He.fAd K ("_law_large", none))) := He.glo_ok X G (c.t.d.fact 25 (f := .glo "_law_large") rfl)
  obtain ⟨fd26, D26⟩ := c.t.d.def_ 26 (d := d__law_drawn_policy) rfl
  have F26 : FunC K "_law_drawn_policy" s__law_drawn_policy (He.fAd K ("_law_drawn_policy", none)) fd26 (He.codeOf K ("_law_drawn_policy", none)) := funC_of D26
  have n26 : mg "_law_drawn_policy" = some (.ref (He.fAd K ("_law_drawn_policy", none))) := He.glo_ok X G (c.t.d.fact 26 (f := .glo "_law_drawn_policy") rfl)
  obtain ⟨fd27, D27⟩ := c.t.d.def_ 27 (d := d__law_thin) rfl
  have F27 : FunC K "_law_thin" s__law_thin (He.fAd K ("_law_thin", none)) fd27 (He.codeOf K ("_law_thin", none)) := funC_of D27
  have n27 : mg "_law_thin" = some (.ref (He.fAd K ("_law_thin", none))) := He.glo_ok X G (c.t.d.fact 27 (f := .glo "_law_thin") rfl)
  obtain ⟨fd28, D28⟩ := c.t.d.def_ 28 (d := d_backward) rfl
  have F28 : FunC K "backward" s_backward (He.fAd K ("backward", none)) fd28 (He.codeOf K ("backward", none)) := funC_of D28
  have n28 : mg "backward" = some (.ref (He.fAd K ("backward", none))) := He.glo_ok X G (c.t.d.fact 28 (f := .glo "backward") rfl)
  obtain ⟨fd29, D29⟩ := c.t.d.def_ 29 (d := d_never) rfl
  have F29 : FunC K "never" s_never (He.fAd K ("never", none)) fd29 (He.codeOf K ("never", none)) := funC_of D29
  have n29 : mg "never" = some (.ref (He.fAd K ("never", none))) := He.glo_ok X G (c.t.d.fact 29 (f := .glo "never") rfl)
  obtain ⟨fd30, D30⟩ := c.t.d.def_ 30 (d := d_solve) rfl
  have F30 : FunC K "solve" s_solve (He.fAd K ("solve", none)) fd30 (He.codeOf K ("solve", none)) := funC_of D30
  have n30 : mg "solve" = some (.ref (He.fAd K ("solve", none))) := He.glo_ok X G (c.t.d.fact 30 (f := .glo "solve") rfl)
  obtain ⟨fd31, D31⟩ := c.t.d.def_ 31 (d := d__law_choices) rfl
  have F31 : FunC K "_law_choices" s__law_choices (He.fAd K ("_law_choices", none)) fd31 (He.codeOf K ("_law_choices", none)) := funC_of D31
  have n31 : mg "_law_choices" = some (.ref (He.fAd K ("_law_choices", none))) := He.glo_ok X G (c.t.d.fact 31 (f := .glo "_law_choices") rfl)
  obtain ⟨fd32, D32⟩ := c.t.d.def_ 32 (d := d__law_filled) rfl
  have F32 : FunC K "_law_filled" s__law_filled (He.fAd K ("_law_filled", none)) fd32 (He.codeOf K ("_law_filled", none)) := funC_of D32
  have n32 : mg "_law_filled" = some (.ref (He.fAd K ("_law_filled", none))) := He.glo_ok X G (c.t.d.fact 32 (f := .glo "_law_filled") rfl)
  obtain ⟨fd33, D33⟩ := c.t.d.def_ 33 (d := d_certain) rfl
  have F33 : FunC K "certain" s_certain (He.fAd K ("certain", none)) fd33 (He.codeOf K ("certain", none)) := funC_of D33
  have n33 : mg "certain" = some (.ref (He.fAd K ("certain", none))) := He.glo_ok X G (c.t.d.fact 33 (f := .glo "certain") rfl)
  obtain ⟨fd34, D34⟩ := c.t.d.def_ 34 (d := d_filled) rfl
  have F34 : FunC K "filled" s_filled (He.fAd K ("filled", none)) fd34 (He.codeOf K ("filled", none)) := funC_of D34
  have n34 : mg "filled" = some (.ref (He.fAd K ("filled", none))) := He.glo_ok X G (c.t.d.fact 34 (f := .glo "filled") rfl)
  obtain ⟨fd35, D35⟩ := c.t.d.def_ 35 (d := d__law_system) rfl
  have F35 : FunC K "_law_system" s__law_system (He.fAd K ("_law_system", none)) fd35 (He.codeOf K ("_law_system", none)) := funC_of D35
  have n35 : mg "_law_system" = some (.ref (He.fAd K ("_law_system", none))) := He.glo_ok X G (c.t.d.fact 35 (f := .glo "_law_system") rfl)
  obtain ⟨fd36, D36⟩ := c.t.d.def_ 36 (d := d__law_costs) rfl
  have F36 : FunC K "_law_costs" s__law_costs (He.fAd K ("_law_costs", none)) fd36 (He.codeOf K ("_law_costs", none)) := funC_of D36
  have n36 : mg "_law_costs" = some (.ref (He.fAd K ("_law_costs", none))) := He.glo_ok X G (c.t.d.fact 36 (f := .glo "_law_costs") rfl)
  obtain ⟨fd37, D37⟩ := c.t.d.def_ 37 (d := d_policy_costs) rfl
  have F37 : FunC K "policy_costs" s_policy_costs (He.fAd K ("policy_costs", none)) fd37 (He.codeOf K ("policy_costs", none)) := funC_of D37
  have n37 : mg "policy_costs" = some (.ref (He.fAd K ("policy_costs", none))) := He.glo_ok X G (c.t.d.fact 37 (f := .glo "policy_costs") rfl)
  obtain ⟨fd38, D38⟩ := c.t.d.def_ 38 (d := d__law_equal) rfl
  have F38 : FunC K "_law_equal" s__law_equal (He.fAd K ("_law_equal", none)) fd38 (He.codeOf K ("_law_equal", none)) := funC_of D38
  have n38 : mg "_law_equal" = some (.ref (He.fAd K ("_law_equal", none))) := He.glo_ok X G (c.t.d.fact 38 (f := .glo "_law_equal") rfl)
  obtain ⟨fd39, D39⟩ := c.t.d.def_ 39 (d := d_law) rfl
  have F39 : FunC K "law" s_law (He.fAd K ("law", none)) fd39 (He.codeOf K ("law", none)) := funC_of D39
  have n39 : mg "law" = some (.ref (He.fAd K ("law", none))) := He.glo_ok X G (c.t.d.fact 39 (f := .glo "law") rfl)
  have y_range : mg "range" = none := He.free_ok X G (c.t.d.fact 40 (f := .free "range") rfl)
  have y_len : mg "len" = none := He.free_ok X G (c.t.d.fact 41 (f := .free "len") rfl)
  have y_gcd : mg "gcd" = some (.builtin "math.gcd") := PySem.W.mg_of X G (He.eqO_ok (He.ba (He.ba (He.ba c.more).1).1).2)
  have y_enumerate : mg "enumerate" = none := He.free_ok X G (c.t.d.fact 42 (f := .free "enumerate") rfl)
  have y_tuple : mg "tuple" = none := He.free_ok X G (c.t.d.fact 43 (f := .free "tuple") rfl)
  have y_int : mg "int" = none := He.free_ok X G (c.t.d.fact 44 (f := .free "int") rfl)
  have y_abs : mg "abs" = none := He.free_ok X G (c.t.d.fact 45 (f := .free "abs") rfl)
  have y_list : mg "list" = none := He.free_ok X G (c.t.d.fact 46 (f := .free "list") rfl)
  have y_any : mg "any" = none := He.free_ok X G (c.t.d.fact 47 (f := .free "any") rfl)
  have y_all : mg "all" = none := He.free_ok X G (c.t.d.fact 48 (f := .free "all") rfl)
  have y_sum : mg "sum" = none := He.free_ok X G (c.t.d.fact 49 (f := .free "sum") rfl)
  have y_sorted : mg "sorted" = none := He.free_ok X G (c.t.d.fact 50 (f := .free "sorted") rfl)
  have y_isinstance : mg "isinstance" = none := He.free_ok X G (c.t.d.fact 51 (f := .free "isinstance") rfl)
  have y_bool : mg "bool" = none := He.free_ok X G (c.t.d.fact 52 (f := .free "bool") rfl)
  have y_str : mg "str" = none := He.free_ok X G (c.t.d.fact 53 (f := .free "str") rfl)
  have v_ZERO : GV K mg "ZERO" (rT2 rInt rInt) ((0 : Int), (1 : Int)) := pairG_ok X G (He.ba (He.ba c.more).1).2
  have v_ONE : GV K mg "ONE" (rT2 rInt rInt) ((1 : Int), (1 : Int)) := pairG_ok X G (He.ba c.more).2
  have e := hfa.symm.trans n39
  cases e
  have mem : ∀ p ∈ tf.map (He.cT K), ∃ q ∈ tf, He.cT K q = p := fun p hp => List.mem_map.mp hp
  refine ⟨fd39, tf.map (He.cT K), spV K ((tf.map (He.cT K)).map (·.2)) C_law, fun p hp => ?_, fun p hp => ?_, fun p hp => ?_, fun s v => ?_, fun H a ns hl _ hH hS => ?_, fun base KB GB hTB => ?_⟩
  · obtain ⟨q, hq, rfl⟩ := mem p hp; exact c.empty q hq
  · obtain ⟨q, hq, rfl⟩ := mem p hp; exact c.out q hq
  · obtain ⟨q, hq, rfl⟩ := mem p hp; exact PySem.W.codeHd_of_K X (c.hd q hq)
  · exact F39.bindsA (ps := ["_law_script"]) (fun _ _ _ _ _ _ us hl => match us, hl with | [_], _ => rfl) s [v] rfl
  · have hT : ∀ P ∈ (tf.map (He.cT K)).map (·.2), GxR.TabG H P := fun P hP => by
      obtain ⟨p, hp, rfl⟩ := List.mem_map.mp hP
      exact ⟨#[], hH p hp, trivial⟩
    exact ⟨noT H _, ⟨fun _ => none, _⟩, [], [⟨rScr rInt, ns⟩], ⟨rBool, true⟩, [], rfl, Own.start K H _ hT, ⟨⟨a, _, rfl, sq_noT hT hS, paired_ints ns⟩, trivial⟩, ⟨ns, true, rfl, rfl, hm ns hl, rfl, rfl⟩, fun v _ _ _ _ h => h⟩
  · have tbs : ∀ q ∈ tf, ∃ P0, GxR.TabB base mg (He.codeOf K q) P0 ∧ P0 ∈ (tf.map (He.cT K)).map (·.2) := fun q hq => by
      have t := hTB (He.cT K q) (List.mem_map.mpr ⟨q, hq, rfl⟩)
      exact ⟨(He.cT K q).2, ⟨t.code, t.bm, t.gP⟩, List.mem_map.mpr ⟨_, List.mem_map.mpr ⟨q, hq, rfl⟩, rfl⟩⟩
    have b0 := F0.binds (ps := ["system", "allowed", "targets"]) fun _ _ _ _ _ _ us hl => match us, hl with | [_, _, _], _ => rfl
    have C_0 : Cl PySem.Challenge.rw_bestodds_k17_costs_of_policies.prog w K mg base 1 "rest_of" (spV K ((tf.map (He.cT K)).map (·.2)) C_rest_of) [] := ⟨_, _, ["system", "allowed", "targets"], [], ok_rest_of F0 y_range y_len, n0, F0.kp, b0, .nil⟩
    have b1 := F1.binds (ps := ["n", "d"]) fun _ _ _ _ _ _ us hl => match us, hl with | [_, _], _ => rfl
    have C_1 : Cl PySem.Challenge.rw_bestodds_k17_costs_of_policies.prog w K mg base 1 "ratio" (spV K ((tf.map (He.cT K)).map (·.2)) C_ratio) [] := ⟨_, _, ["n", "d"], [], ok_ratio F1 y_gcd, n1, F1.kp, b1, .nil⟩
    have b2 := F2.binds (ps := ["table", "column"]) fun _ _ _ _ _ _ us hl => match us, hl with | [_, _], _ => rfl
    have C_2 : Cl PySem.Challenge.rw_bestodds_k17_costs_of_policies.prog w K mg base 1 "pivot_of" (spV K ((tf.map (He.cT K)).map (·.2)) C_pivot_of) [] := ⟨_, _, ["table", "column"], [], ok_pivot_of F2 v_ZERO y_range y_len, n2, F2.kp, b2, .nil⟩
    have b3 := F3.binds (ps := ["system", "policy"]) fun _ _ _ _ _ _ us hl => match us, hl with | [_, _], _ => rfl
    have C_3 : Cl PySem.Challenge.rw_bestodds_k17_costs_of_policies.prog w K mg base 1 "restricted" (spV K ((tf.map (He.cT K)).map (·.2)) C_restricted) [] := ⟨_, _, ["system", "policy"], [], ok_restricted F3 y_enumerate y_tuple, n3, F3.kp, b3, .nil⟩
    have b4 := F4.binds (ps := ["_law_script"]) fun _ _ _ _ _ _ us hl => match us, hl with | [_], _ => rfl
    have C_4 : Cl PySem.Challenge.rw_bestodds_k17_costs_of_policies.prog w K mg base 1 "_law_tape" (spV K ((tf.map (He.cT K)).map (·.2)) C__law_tape) [] := ⟨_, _, ["_law_script"], [], ok__law_tape F4 y_int y_range, n4, F4.kp, b4, .nil⟩
    have b5 := F5.binds (ps := ["_law_tape_here", "_law_at", "_law_many"]) fun _ _ _ _ _ _ us hl => match us, hl with | [_, _, _], _ => rfl
    have C_5 : Cl PySem.Challenge.rw_bestodds_k17_costs_of_policies.prog w K mg base 1 "_law_draw" (spV K ((tf.map (He.cT K)).map (·.2)) C__law_draw) [] := ⟨_, _, ["_law_tape_here", "_law_at", "_law_many"], [], ok__law_draw F5 y_len y_int, n5, F5.kp, b5, .nil⟩
    have b6 := F6.binds (ps := ["_law_n", "_law_d"]) fun _ _ _ _ _ _ us hl => match us, hl with | [_, _], _ => rfl
    have C_6 : Cl PySem.Challenge.rw_bestodds_k17_costs_of_policies.prog w K mg base 1 "_law_ratio" (spV K ((tf.map (He.cT K)).map (·.2)) C__law_ratio) [] := ⟨_, _, ["_law_n", "_law_d"], [], ok__law_ratio F6 y_abs y_range y_int, n6, F6.kp, b6, .nil⟩
    have b7 := F7.binds (ps := ["_law_chain_here", "_law_rest", "_law_known"]) fun _ _ _ _ _ _ us hl => match us, hl with | [_, _, _], _ => rfl
    have C_7 : Cl PySem.Challenge.rw_bestodds_k17_costs_of_policies.prog w K mg base 1 "_law_backward" (spV K ((tf.map (He.cT K)).map (·.2)) C__law_backward) [] := ⟨_, _, ["_law_chain_here", "_law_rest", "_law_known"], [], ok__law_backward F7 y_list y_range y_len, n7, F7.kp, b7, .nil⟩
    have b8 := F8.binds (ps := ["ends", "known"]) fun _ _ _ _ _ _ us hl => match us, hl with | [_, _], _ => rfl
    have C_8 : Cl PySem.Challenge.rw_bestodds_k17_costs_of_policies.prog w K mg base 2 "ends_in" (spV K ((tf.map (He.cT K)).map (·.2)) C_ends_in) [] := ⟨_, _, ["ends", "known"], [], ok_ends_in F8 y_any (tbs ("ends_in", none) (by unfold tf; simp)), n8, F8.kp, b8, .nil⟩
    have b9 := F9.binds (ps := ["ends", "known"]) fun _ _ _ _ _ _ us hl => match us, hl with | [_, _], _ => rfl
    have C_9 : Cl PySem.Challenge.rw_bestodds_k17_costs_of_policies.prog w K mg base 2 "all_in" (spV K ((tf.map (He.cT K)).map (·.2)) C_all_in) [] := ⟨_, _, ["ends", "known"], [], ok_all_in F9 y_all (tbs ("all_in", none) (by unfold tf; simp)), n9, F9.kp, b9, .nil⟩
    have b10 := F10.binds (ps := ["a", "b"]) fun _ _ _ _ _ _ us hl => match us, hl with | [_, _], _ => rfl
    have C_10 : Cl PySem.Challenge.rw_bestodds_k17_costs_of_policies.prog w K mg base 2 "minus" (spV K ((tf.map (He.cT K)).map (·.2)) C_minus) [] := ⟨_, _, ["a", "b"], [], ok_minus F10 C_1, n10, F10.kp, b10, .nil⟩
    have b11 := F11.binds (ps := ["a", "b"]) fun _ _ _ _ _ _ us hl => match us, hl with | [_, _], _ => rfl
    have C_11 : Cl PySem.Challenge.rw_bestodds_k17_costs_of_policies.prog w K mg base 2 "times" (spV K ((tf.map (He.cT K)).map (·.2)) C_times) [] := ⟨_, _, ["a", "b"], [], ok_times F11 C_1, n11, F11.kp, b11, .nil⟩
    have b12 := F12.binds (ps := ["a", "b"]) fun _ _ _ _ _ _ us hl => match us, hl with | [_, _], _ => rfl
    have C_12 : Cl PySem.Challenge.rw_bestodds_k17_costs_of_policies.prog w K mg base 2 "over" (spV K ((tf.map (He.cT K)).map (·.2)) C_over) [] := ⟨_, _, ["a", "b"], [], ok_over F12 C_1, n12, F12.kp, b12, .nil⟩
    have b13 := F13.binds (ps := ["a", "b"]) fun _ _ _ _ _ _ us hl => match us, hl with | [_, _], _ => rfl
    have C_13 : Cl PySem.Challenge.rw_bestodds_k17_costs_of_policies.prog w K mg base 2 "plus" (spV K ((tf.map (He.cT K)).map (·.2)) C_plus) [] := ⟨_, _, ["a", "b"], [], ok_plus F13 C_1, n13, F13.kp, b13, .nil⟩
    have b14 := F14.binds (ps := ["ends"]) fun _ _ _ _ _ _ us hl => match us, hl with | [_], _ => rfl
    have C_14 : Cl PySem.Challenge.rw_bestodds_k17_costs_of_policies.prog w K mg base 2 "total_weight" (spV K ((tf.map (He.cT K)).map (·.2)) C_total_weight) [] := ⟨_, _, ["ends"], [], ok_total_weight F14 y_sum (tbs ("total_weight", none) (by unfold tf; simp)), n14, F14.kp, b14, .nil⟩
    have b15 := F15.binds (ps := ["_law_state", "_law_many"]) fun _ _ _ _ _ _ us hl => match us, hl with | [_, _], _ => rfl
    have C_15 : Cl PySem.Challenge.rw_bestodds_k17_costs_of_policies.prog w K mg base 2 "_law_take" (spV K ((tf.map (He.cT K)).map (·.2)) C__law_take) [] := ⟨_, _, ["_law_state", "_law_many"], [], ok__law_take F15 C_5, n15, F15.kp, b15, .nil⟩
    have b16 := F16.binds (ps := ["_law_a", "_law_b"]) fun _ _ _ _ _ _ us hl => match us, hl with | [_, _], _ => rfl
    have C_16 : Cl PySem.Challenge.rw_bestodds_k17_costs_of_policies.prog w K mg base 2 "_law_plus" (spV K ((tf.map (He.cT K)).map (·.2)) C__law_plus) [] := ⟨_, _, ["_law_a", "_law_b"], [], ok__law_plus F16 C_6, n16, F16.kp, b16, .nil⟩
    have b17 := F17.binds (ps := ["_law_a", "_law_b"]) fun _ _ _ _ _ _ us hl => match us, hl with | [_, _], _ => rfl
    have C_17 : Cl PySem.Challenge.rw_bestodds_k17_costs_of_policies.prog w K mg base 2 "_law_times" (spV K ((tf.map (He.cT K)).map (·.2)) C__law_times) [] := ⟨_, _, ["_law_a", "_law_b"], [], ok__law_times F17 C_6, n17, F17.kp, b17, .nil⟩
    have b18 := F18.binds (ps := ["_law_a", "_law_b"]) fun _ _ _ _ _ _ us hl => match us, hl with | [_, _], _ => rfl
    have C_18 : Cl PySem.Challenge.rw_bestodds_k17_costs_of_policies.prog w K mg base 2 "_law_over" (spV K ((tf.map (He.cT K)).map (·.2)) C__law_over) [] := ⟨_, _, ["_law_a", "_law_b"], [], ok__law_over F18 C_6, n18, F18.kp, b18, .nil⟩
    have b19 := F19.binds (ps := ["_law_system_here", "_law_policy"]) fun _ _ _ _ _ _ us hl => match us, hl with | [_, _], _ => rfl
    have C_19 : Cl PySem.Challenge.rw_bestodds_k17_costs_of_policies.prog w K mg base 2 "_law_chain" (spV K ((tf.map (He.cT K)).map (·.2)) C__law_chain) [] := ⟨_, _, ["_law_system_here", "_law_policy"], [], ok__law_chain F19 C_6 y_range y_len y_sum, n19, F19.kp, b19, .nil⟩
    have b20 := F20.binds (ps := ["row", "other", "column"]) fun _ _ _ _ _ _ us hl => match us, hl with | [_, _, _], _ => rfl
    have C_20 : Cl PySem.Challenge.rw_bestodds_k17_costs_of_policies.prog w K mg base 3 "cleared" (spV K ((tf.map (He.cT K)).map (·.2)) C_cleared) [] := ⟨_, _, ["row", "other", "column"], [], ok_cleared F20 C_10 C_11 v_ZERO y_enumerate, n20, F20.kp, b20, .nil⟩
    have b21 := F21.binds (ps := ["chain", "unknown", "known", "extra"]) fun _ _ _ _ _ _ us hl => match us, hl with | [_, _, _, _], _ => rfl
    have C_21 : Cl PySem.Challenge.rw_bestodds_k17_costs_of_policies.prog w K mg base 3 "equations" (spV K ((tf.map (He.cT K)).map (·.2)) C_equations) [] := ⟨_, _, ["chain", "unknown", "known", "extra"], [], ok_equations F21 C_14 C_1 C_10 C_13 C_11 v_ZERO v_ONE y_enumerate y_len, n21, F21.kp, b21, .nil⟩
    have b22 := F22.binds (ps := ["_law_state", "_law_many"]) fun _ _ _ _ _ _ us hl => match us, hl with | [_, _], _ => rfl
    have C_22 : Cl PySem.Challenge.rw_bestodds_k17_costs_of_policies.prog w K mg base 3 "_law_ends" (spV K ((tf.map (He.cT K)).map (·.2)) C__law_ends) [] := ⟨_, _, ["_law_state", "_law_many"], [], ok__law_ends F22 C_15 y_range y_tuple, n22, F22.kp, b22, .nil⟩
    have b23 := F23.binds (ps := ["_law_state", "_law_many", "_law_share"]) fun _ _ _ _ _ _ us hl => match us, hl with | [_, _, _], _ => rfl
    have C_23 : Cl PySem.Challenge.rw_bestodds_k17_costs_of_policies.prog w K mg base 3 "_law_some" (spV K ((tf.map (He.cT K)).map (·.2)) C__law_some) [] := ⟨_, _, ["_law_state", "_law_many", "_law_share"], [], ok__law_some F23 C_15 y_range, n23, F23.kp, b23, .nil⟩
    have b24 := F24.binds (ps := ["_law_rows", "_law_right"]) fun _ _ _ _ _ _ us hl => match us, hl with | [_, _], _ => rfl
    have C_24 : Cl PySem.Challenge.rw_bestodds_k17_costs_of_policies.prog w K mg base 3 "_law_solve" (spV K ((tf.map (He.cT K)).map (·.2)) C__law_solve) [] := ⟨_, _, ["_law_rows", "_law_right"], [], ok__law_solve F24 C_18 C_16 C_17 y_range y_len y_list, n24, F24.kp, b24, .nil⟩
    have b25 := F25.binds (ps := ["_law_state", "_law_many"]) fun _ _ _ _ _ _ us hl => match us, hl with | [_, _], _ => rfl
    have C_25 : Cl PySem.Challenge.rw_bestodds_k17_costs_of_policies.prog w K mg base 3 "_law_large" (spV K ((tf.map (He.cT K)).map (·.2)) C__law_large) [] := ⟨_, _, ["_law_state", "_law_many"], [], ok__law_large F25 C_15 y_range y_sorted y_tuple, n25, F25.kp, b25, .nil⟩
    have b26 := F26.binds (ps := ["_law_state", "_law_system_here"]) fun _ _ _ _ _ _ us hl => match us, hl with | [_, _], _ => rfl
    have C_26 : Cl PySem.Challenge.rw_bestodds_k17_costs_of_policies.prog w K mg base 3 "_law_drawn_policy" (spV K ((tf.map (He.cT K)).map (·.2)) C__law_drawn_policy) [] := ⟨_, _, ["_law_state", "_law_system_here"], [], ok__law_drawn_policy F26 C_15 y_len y_tuple, n26, F26.kp, b26, .nil⟩
    have b27 := F27.binds (ps := ["_law_state", "_law_many"]) fun _ _ _ _ _ _ us hl => match us, hl with | [_, _], _ => rfl
    have C_27 : Cl PySem.Challenge.rw_bestodds_k17_costs_of_policies.prog w K mg base 3 "_law_thin" (spV K ((tf.map (He.cT K)).map (·.2)) C__law_thin) [] := ⟨_, _, ["_law_state", "_law_many"], [], ok__law_thin F27 C_15 y_range y_int y_sorted y_tuple, n27, F27.kp, b27, .nil⟩
    have b28 := F28.binds (ps := ["system", "rest", "known"]) fun _ _ _ _ _ _ us hl => match us, hl with | [_, _, _], _ => rfl
    have C_28 : Cl PySem.Challenge.rw_bestodds_k17_costs_of_policies.prog w K mg base 4 "backward" (spV K ((tf.map (He.cT K)).map (·.2)) C_backward) [] := ⟨_, _, ["system", "rest", "known"], [], ok_backward F28 C_8 y_list y_any (tbs ("backward", none) (by unfold tf; simp)), n28, F28.kp, b28, .nil⟩
    have b29 := F29.binds (ps := ["system", "allowed", "targets"]) fun _ _ _ _ _ _ us hl => match us, hl with | [_, _, _], _ => rfl
    have C_29 : Cl PySem.Challenge.rw_bestodds_k17_costs_of_policies.prog w K mg base 4 "never" (spV K ((tf.map (He.cT K)).map (·.2)) C_never) [] := ⟨_, _, ["system", "allowed", "targets"], [], ok_never F29 C_0 C_9 y_range y_len y_any (tbs ("never", none) (by unfold tf; simp)), n29, F29.kp, b29, .nil⟩
    have b30 := F30.binds (ps := ["rows", "right"]) fun _ _ _ _ _ _ us hl => match us, hl with | [_, _], _ => rfl
    have C_30 : Cl PySem.Challenge.rw_bestodds_k17_costs_of_policies.prog w K mg base 4 "solve" (spV K ((tf.map (He.cT K)).map (·.2)) C_solve) [] := ⟨_, _, ["rows", "right"], [], ok_solve F30 C_2 C_12 C_20 y_enumerate y_list y_range y_len, n30, F30.kp, b30, .nil⟩
    have b31 := F31.binds (ps := ["_law_state", "_law_many", "_law_most"]) fun _ _ _ _ _ _ us hl => match us, hl with | [_, _, _], _ => rfl
    have C_31 : Cl PySem.Challenge.rw_bestodds_k17_costs_of_policies.prog w K mg base 4 "_law_choices" (spV K ((tf.map (He.cT K)).map (·.2)) C__law_choices) [] := ⟨_, _, ["_law_state", "_law_many", "_law_most"], [], ok__law_choices F31 C_15 C_22 y_range y_tuple, n31, F31.kp, b31, .nil⟩
    have b32 := F32.binds (ps := ["_law_chain_here", "_law_unknown", "_law_known", "_law_extra"]) fun _ _ _ _ _ _ us hl => match us, hl with | [_, _, _, _], _ => rfl
    have C_32 : Cl PySem.Challenge.rw_bestodds_k17_costs_of_policies.prog w K mg base 4 "_law_filled" (spV K ((tf.map (He.cT K)).map (·.2)) C__law_filled) [] := ⟨_, _, ["_law_chain_here", "_law_unknown", "_law_known", "_law_extra"], [], ok__law_filled F32 C_16 C_17 C_24 y_int y_list y_range y_len, n32, F32.kp, b32, .nil⟩
    have b33 := F33.binds (ps := ["system", "allowed", "targets"]) fun _ _ _ _ _ _ us hl => match us, hl with | [_, _, _], _ => rfl
    have C_33 : Cl PySem.Challenge.rw_bestodds_k17_costs_of_policies.prog w K mg base 5 "certain" (spV K ((tf.map (He.cT K)).map (·.2)) C_certain) [] := ⟨_, _, ["system", "allowed", "targets"], [], ok_certain F33 C_28 C_0 C_29 y_range y_len, n33, F33.kp, b33, .nil⟩
    have b34 := F34.binds (ps := ["chain", "unknown", "known", "extra"]) fun _ _ _ _ _ _ us hl => match us, hl with | [_, _, _, _], _ => rfl
    have C_34 : Cl PySem.Challenge.rw_bestodds_k17_costs_of_policies.prog w K mg base 5 "filled" (spV K ((tf.map (He.cT K)).map (·.2)) C_filled) [] := ⟨_, _, ["chain", "unknown", "known", "extra"], [], ok_filled F34 C_21 C_30 y_list y_enumerate, n34, F34.kp, b34, .nil⟩
    have b35 := F35.binds (ps := ["_law_state", "_law_most"]) fun _ _ _ _ _ _ us hl => match us, hl with | [_, _], _ => rfl
    have C_35 : Cl PySem.Challenge.rw_bestodds_k17_costs_of_policies.prog w K mg base 5 "_law_system" (spV K ((tf.map (He.cT K)).map (·.2)) C__law_system) [] := ⟨_, _, ["_law_state", "_law_most"], [], ok__law_system F35 C_15 C_31 y_range y_tuple, n35, F35.kp, b35, .nil⟩
    have b36 := F36.binds (ps := ["_law_chain_here", "_law_targets"]) fun _ _ _ _ _ _ us hl => match us, hl with | [_, _], _ => rfl
    have C_36 : Cl PySem.Challenge.rw_bestodds_k17_costs_of_policies.prog w K mg base 5 "_law_costs" (spV K ((tf.map (He.cT K)).map (·.2)) C__law_costs) [] := ⟨_, _, ["_law_chain_here", "_law_targets"], [], ok__law_costs F36 C_7 C_32 y_len y_range, n36, F36.kp, b36, .nil⟩
    have b37 := F37.binds (ps := ["system", "policy", "targets"]) fun _ _ _ _ _ _ us hl => match us, hl with | [_, _, _], _ => rfl
    have C_37 : Cl PySem.Challenge.rw_bestodds_k17_costs_of_policies.prog w K mg base 6 "policy_costs" (spV K ((tf.map (He.cT K)).map (·.2)) C_policy_costs) [] := ⟨_, _, ["system", "policy", "targets"], [], ok_policy_costs F37 C_3 C_33 C_34 v_ZERO y_list y_len y_range, n37, F37.kp, b37, .nil⟩
    have b38 := F38.binds (ps := ["_law_actual", "_law_due"]) fun _ _ _ _ _ _ us hl => match us, hl with | [_, _], _ => rfl
    have C_38 : Cl PySem.Challenge.rw_bestodds_k17_costs_of_policies.prog w K mg base 8 "_law_equal" (spV K ((tf.map (He.cT K)).map (·.2)) (C__law_equal 8)) [] := ⟨_, _, ["_law_actual", "_law_due"], [], all__law_equal F38 y_isinstance y_bool y_int y_str y_tuple y_list y_len y_range n38 F38.kp b38 8, n38, F38.kp, b38, .nil⟩
    exact ok_law F39 C_4 C_35 C_15 C_27 C_25 C_26 C_23 C_36 C_19 C_38 C_37 y_range y_len y_list
end End
end L3
open PySem PySem.W PySem.Calls PyProof.Rows
set_option maxHeartbeats 0 in
theorem PySem.Challenge.cw_bestodds_k17_costs_of_policies_holds : PySem.Challenge.rw_bestodds_k17_costs_of_policies.Holds := by
  w_on; o_law
  refine HandSHeadRun.head_imp (r := OpenLaw.row PySem.Challenge.rw_bestodds_k17_costs_of_policies) (q := view (OpenLaw.row PySem.Challenge.rw_bestodds_k17_costs_of_policies).prog [0, 48]) (H := L3.End.hk) (ob := L3.End.ob) (M := 4000) (loose := L3.End.loose) (d := HandSHeadRun.topDef (OpenLaw.row PySem.Challenge.rw_bestodds_k17_costs_of_policies).prog 48) (kwd := []) L3.End.ob_eq
    L3.End.run (by kernel_rfl) (by kernel_rfl) (by kernel_rfl) (by rfl) (by first | assumption | decide +kernel) (by decide +kernel) ⟨rfl, rfl, rfl, rfl, rfl, by decide +kernel⟩ ?hw ?hc
  case hw => w_witness2
  case hc =>
    refine LamX.walk_ofTsE (l := PySem.Challenge.rw_bestodds_k17_costs_of_policies) (n := 63) (k := 9) (x := "_law_script") (CX := fun _ => L2.CX0) rfl (by decide) (by kernel_rfl) ⟨rfl, by decide, by decide⟩ ?F (fun _ _ _ _ _ z => z)
    intro w mg fa h Y G hmg0
    obtain ⟨K, KX, c⟩ := Y
    have hmg : mg ("law" : PySem.Str) = some (.ref fa) := by
      have e : (HandSHeadRun.topDef (OpenLaw.row PySem.Challenge.rw_bestodds_k17_costs_of_policies).prog 48).name = ("law" : PySem.Str) := by kernel_rfl
      rw [← e]
      exact hmg0
    exact ⟨K, KX, L3.End.facts KX G hmg c L3.law_true⟩
#print axioms PySem.Challenge.cw_bestodds_k17_costs_of_policies_holds

