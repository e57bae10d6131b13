import PyProof.Rows.All
import Wide.All
import OpenK.AllK
import Wide.FinOn
import HandS.ForMost
import HandS.Evl
import HandS.Gcd
import HandS.Wide
import HandS.Conv
import HandS.IsInst
import HandS.Codes
import PySem.Challenge.RW_bestodds_k10_linear_equations
import HandS.AnyAll
import HandS.Comp
import HandS.GenOver
import HandS.GenList
import HandS.HeadHook4
import HandS.HeadWalk
import HandS.Head0
import HandS.Head1
import HandS.Head2
import KE.GoesMore
import HandS.Iter
import HandS.TupAny
import HandS.TupMul
import HandS.Style
import HandS.ListItems
import HandS.SortRule
import HandS.CallLocal
import HandS.SortInts
import HandS.NoneIn
import HandS.HeadHook3
import HandS.Head3
import HandS.HeadEnd
import HandS.HeadHook1
import HandS.HeadHook2
set_option Elab.async false
set_option linter.all false
set_option maxRecDepth 100000
set_option maxHeartbeats 4000000
namespace L3
open PySem L2
open Evl (Ex ex_rd ex_l ex_t sq_of st_of fresh_back)

abbrev Fg := PySem.W.Frag

/-! ### how data stands in the heap -/
structure Rep (α : Type) where
  is : Fg → Hp → V → α → Prop
  mono : ∀ {K : Fg} {B B' : Hp} {v : V} {a : α}, Ex B B' → is K B v a → is K B' v a
structure CRep (α : Type) where
  is : Fg → Hp → HO → α → Prop
  mono : ∀ {K : Fg} {B B' : Hp} {o : HO} {a : α}, Ex B B' → is K B o a → is K B' o a

theorem paired_mono {α : Type} {r : Rep α} {K : Fg} {B B' : Hp} (e : Ex B B') : ∀ {xs : List V} {as : List α}, Paired (r.is K B) xs as → Paired (r.is K B') xs as
  | _, _, .nil => .nil
  | _, _, .cons h t => .cons (r.mono e h) (paired_mono e t)
theorem paired_len {α β : Type} {F : α → β → Prop} : ∀ {xs : List α} {as : List β}, Paired F xs as → xs.length = as.length
  | _, _, .nil => rfl
  | _, _, .cons _ t => congrArg (· + 1) (paired_len t)
theorem paired_get {α β : Type} {F : α → β → Prop} : ∀ {xs : List α} {as : List β} {i : Nat} {a : β}, Paired F xs as → as[i]? = some a → ∃ x, xs[i]? = some x ∧ F x a
  | _, _, _, _, .nil, e => by simp at e
  | _, _, 0, _, .cons r _, e => by simp at e; subst e; exact ⟨_, rfl, r⟩
  | _, _, i + 1, a, .cons _ t, e => by
    obtain ⟨u, h1, h2⟩ := paired_get (i := i) (a := a) t (by simpa using e)
    exact ⟨u, by simpa using h1, h2⟩
theorem paired_app {α β : Type} {F : α → β → Prop} : ∀ {xs ys : List α} {as bs : List β}, Paired F xs as → Paired F ys bs → Paired F (xs ++ ys) (as ++ bs)
  | _, _, _, _, .nil, s => s
  | _, _, _, _, .cons r t, s => .cons r (paired_app t s)
theorem paired_set {α β : Type} {F : α → β → Prop} {x : α} {a : β} (r : F x a) : ∀ {xs : List α} {as : List β} (i : Nat), Paired F xs as → Paired F (xs.set i x) (as.set i a)
  | _, _, _, .nil => .nil
  | _, _, 0, .cons _ t => .cons r t
  | _, _, i + 1, .cons q t => .cons q (paired_set r i t)
theorem paired_drop {α β : Type} {F : α → β → Prop} : ∀ {xs : List α} {as : List β} (n : Nat), Paired F xs as → Paired F (xs.drop n) (as.drop n)
  | _, _, 0, r => r
  | _, _, _ + 1, .nil => .nil
  | _, _, n + 1, .cons _ t => paired_drop n t
theorem paired_take {α β : Type} {F : α → β → Prop} : ∀ {xs : List α} {as : List β} (n : Nat), Paired F xs as → Paired F (xs.take n) (as.take n)
  | _, _, 0, _ => .nil
  | _, _, _ + 1, .nil => .nil
  | _, _, n + 1, .cons r t => .cons r (paired_take n t)
theorem paired_rev {α β : Type} {F : α → β → Prop} : ∀ {xs : List α} {as : List β}, Paired F xs as → Paired F xs.reverse as.reverse
  | _, _, .nil => .nil
  | _, _, .cons r t => by
    rw [List.reverse_cons, List.reverse_cons]
    exact paired_app (paired_rev t) (.cons r .nil)
theorem paired_map {α β γ : Type} {F : γ → β → Prop} {f : α → γ} {g : α → β} (h : ∀ a, F (f a) (g a)) : ∀ (l : List α), Paired F (l.map f) (l.map g)
  | [] => .nil
  | a :: l => .cons (h a) (paired_map h l)
theorem paired_imp {α β : Type} {F G : α → β → Prop} (h : ∀ a b, F a b → G a b) : ∀ {xs : List α} {as : List β}, Paired F xs as → Paired G xs as
  | _, _, .nil => .nil
  | _, _, .cons r t => .cons (h _ _ r) (paired_imp h t)

def rInt : Rep Int := ⟨fun _ _ v a => v = .int a, fun _ h => h⟩
def rBool : Rep Bool := ⟨fun _ _ v a => v = .bl a, fun _ h => h⟩
def rStr : Rep Str := ⟨fun _ _ v a => v = .str a, fun _ h => h⟩
def rNon : Rep Unit := ⟨fun _ _ v _ => v = .non, fun _ h => h⟩
def rRef : Rep Addr := ⟨fun _ _ v a => v = .ref a, fun _ h => h⟩
def rVal : Rep V := ⟨fun _ _ v a => v = a, fun _ h => h⟩
def rOpt {α : Type} (r : Rep α) : Rep (Option α) := ⟨fun K B v a => match a with | none => v = .non | some x => r.is K B v x, fun {K B B' v a} e h => by
  cases a with
  | none => exact h
  | some x => exact r.mono e h⟩
def rTup {α : Type} (r : Rep α) : Rep (List α) := ⟨fun K B v as => ∃ p xs, v = .ref p ∧ SqT K B p xs ∧ Paired (r.is K B) xs as, fun e ⟨p, xs, h1, h2, h3⟩ => ⟨p, xs, h1, ex_t e h2, paired_mono e h3⟩⟩
/-- the script -/
def rScr {α : Type} (r : Rep α) : Rep (List α) := ⟨fun K B v as => ∃ p xs, v = .ref p ∧ SqL K B p xs ∧ Paired (r.is K B) xs as, fun e ⟨p, xs, h1, h2, h3⟩ => ⟨p, xs, h1, ex_l e h2, paired_mono e h3⟩⟩
def rLst {α : Type} (r : Rep α) : Rep (List α) := ⟨fun K B v as => ∃ p xs, v = .ref p ∧ B p = some (.lst xs) ∧ Paired (r.is K B) xs as, fun e ⟨p, xs, h1, h2, h3⟩ => ⟨p, xs, h1, e _ _ h2, paired_mono e h3⟩⟩
def rSeq {α : Type} (r : Rep α) : Rep (List α) := ⟨fun K B v as => ∃ p xs, v = .ref p ∧ (SqL K B p xs ∨ SqT K B p xs) ∧ Paired (r.is K B) xs as, fun e ⟨p, xs, h1, h2, h3⟩ => ⟨p, xs, h1, h2.imp (ex_l e) (ex_t e), paired_mono e h3⟩⟩
def rT2 {α β : Type} (r : Rep α) (s : Rep β) : Rep (α × β) := ⟨fun K B v a => ∃ p x y, v = .ref p ∧ SqT K B p [x, y] ∧ r.is K B x a.1 ∧ s.is K B y a.2,
  fun e ⟨p, x, y, h1, h2, h3, h4⟩ => ⟨p, x, y, h1, ex_t e h2, r.mono e h3, s.mono e h4⟩⟩
def rT3 {α β γ : Type} (r : Rep α) (s : Rep β) (t : Rep γ) : Rep (α × β × γ) := ⟨fun K B v a => ∃ p x y z, v = .ref p ∧ SqT K B p [x, y, z] ∧ r.is K B x a.1 ∧ s.is K B y a.2.1 ∧ t.is K B z a.2.2,
  fun e ⟨p, x, y, z, h1, h2, h3, h4, h5⟩ => ⟨p, x, y, z, h1, ex_t e h2, r.mono e h3, s.mono e h4, t.mono e h5⟩⟩
def cLst {α : Type} (r : Rep α) : CRep (List α) := ⟨fun K B o as => ∃ xs, o = .lst xs ∧ Paired (r.is K B) xs as, fun e ⟨xs, h1, h2⟩ => ⟨xs, h1, paired_mono e h2⟩⟩
/-- a list [u, v] of two kinds -/
def cL2 {α β : Type} (r : Rep α) (s : Rep β) : CRep (α × β) := ⟨fun K B o a => ∃ x y, o = .lst [x, y] ∧ r.is K B x a.1 ∧ s.is K B y a.2, fun e ⟨x, y, h1, h2, h3⟩ => ⟨x, y, h1, r.mono e h2, s.mono e h3⟩⟩
theorem rTup_seq {α : Type} {r : Rep α} {K : Fg} {B : Hp} {v : V} {as : List α} (h : (rTup r).is K B v as) : (rSeq r).is K B v as := by
  obtain ⟨p, xs, h1, h2, h3⟩ := h
  exact ⟨p, xs, h1, .inr h2, h3⟩
theorem rLst_seq {α : Type} {r : Rep α} {K : Fg} {B : Hp} {v : V} {as : List α} (h : (rLst r).is K B v as) : (rSeq r).is K B v as := by
  obtain ⟨p, xs, h1, h2, h3⟩ := h
  exact ⟨p, xs, h1, .inl (sq_of h2), h3⟩
theorem rl_sc {α : Type} {r : Rep α} {K : Fg} {B : Hp} {v : V} {as : List α} (h : (rLst r).is K B v as) : (rScr r).is K B v as := by
  obtain ⟨p, xs, h1, h2, h3⟩ := h
  exact ⟨p, xs, h1, sq_of h2, h3⟩
theorem rScr_seq {α : Type} {r : Rep α} {K : Fg} {B : Hp} {v : V} {as : List α} (h : (rScr r).is K B v as) : (rSeq r).is K B v as := by
  obtain ⟨p, xs, h1, h2, h3⟩ := h
  exact ⟨p, xs, h1, .inl h2, h3⟩

/-! ### the heap in three: B stays, M is not ours, L may change -/
structure Cell : Type 1 where
  {α : Type}
  p : Addr
  c : CRep α
  a : α
def Cell.ok (K : Fg) (B H : Hp) (x : Cell) : Prop := ∃ o, H x.p = some o ∧ x.c.is K B o x.a
/-- what is not ours; the code objects' tables that may grow -/
structure Fr where
  h : Hp
  T : List Addr
instance : CoeFun Fr fun _ => Addr → Option HO := ⟨Fr.h⟩
instance : CoeOut Fr Hp := ⟨Fr.h⟩
structure Own (K : Fg) (B : Hp) (M : Fr) (L : List Cell) (H : Hp) : Prop where
  b : Ex B H
  m : Ex M.h H
  bm : ∀ a, B a = none ∨ M a = none
  l : ∀ x ∈ L, x.ok K B H ∧ B x.p = none ∧ M x.p = none
  nd : (L.map (·.p)).Nodup
  t : ∀ P ∈ M.T, GxR.TabG H P ∧ B P = none ∧ M P = none ∧ P ∉ L.map (·.p)
section
variable {K : Fg} {B B' H H' : Hp} {M : Fr} {L L' : List Cell} {p : Addr} {o : HO} {α : Type} {c : CRep α} {a a' : α}
theorem Cell.ok.mono {x : Cell} (e : Ex B B') (h : x.ok K B H) : x.ok K B' H := by
  obtain ⟨o, h1, h2⟩ := h
  exact ⟨o, h1, x.c.mono e h2⟩
theorem tab_upd {H : Hp} {P p : Addr} {o : HO} (h : GxR.TabG H P) (ne : P ≠ p) : GxR.TabG (upd H p o) P := by
  obtain ⟨ps, h1, h2⟩ := h
  exact ⟨ps, by rw [upd_ne ne]; exact h1, h2⟩
theorem tab_ne {H : Hp} {P p : Addr} (h : GxR.TabG H P) (hp : H p = none) : P ≠ p := fun e => by
  obtain ⟨ps, h1, _⟩ := h
  rw [e, hp] at h1
  cases h1
/-- without the tables -/
def noT (H : Hp) (T : List Addr) : Hp := fun a => if a ∈ T then none else H a
theorem Own.start (K : Fg) (H : Hp) (T : List Addr) (hT : ∀ P ∈ T, GxR.TabG H P) : Own K (noT H T) ⟨fun _ => none, T⟩ [] H := ⟨fun a u h => by
    unfold noT at h
    split at h
    · cases h
    · exact h, fun _ _ h => (by cases h), fun _ => .inr rfl, fun _ h => absurd h (by simp), by simp, fun P hP => ⟨hT P hP, by unfold noT; rw [if_pos hP], rfl, by simp⟩⟩
theorem sq_noT {K : Fg} {H : Hp} {T : List Addr} {a : Addr} {xs : List V} (hT : ∀ P ∈ T, GxR.TabG H P) (h : SqL K H a xs) : SqL K (noT H T) a xs := by
  have ne : ∀ u, H a = some u → (∀ ps, u ≠ .tbl ps) → noT H T a = some u := fun u e n => by
    unfold noT
    split
    · rename_i hm
      obtain ⟨ps, h1, _⟩ := hT a hm
      rw [e] at h1
      exact absurd (Option.some.inj h1) (n ps)
    · exact e
  rcases h with (h | ⟨o, h⟩) | h
  · exact .inl (.inl (ne _ h fun _ e => by cases e))
  · exact .inl (.inr ⟨o, ne _ h fun _ e => by cases e⟩)
  · exact .inr h
/-- a new thing that stays -/
theorem Own.ext (w : Own K B M L H) (hp : H p = none) : Own K (upd B p o) M L (upd H p o) := by
  have hB : B p = none := fresh_back w.b hp
  have hM : M p = none := fresh_back w.m hp
  refine ⟨fun b u e => ?_, fun b u e => ?_, fun b => ?_, fun x hx => ?_, w.nd, fun P hP => ?_⟩
  rotate_right
  · obtain ⟨h1, h2, h3, h4⟩ := w.t P hP
    have ne := tab_ne h1 hp
    exact ⟨tab_upd h1 ne, by rw [upd_ne ne]; exact h2, h3, h4⟩
  · by_cases hb : b = p
    · rw [hb, upd_same] at e; rw [hb, upd_same]; exact e
    · rw [upd_ne hb] at e; rw [upd_ne hb]; exact w.b b u e
  · rw [upd_ne (ne_of_none e hM)]; exact w.m b u e
  · by_cases hb : b = p
    · right; rw [hb]; exact hM
    · rw [upd_ne hb]; exact w.bm b
  · obtain ⟨⟨u, h1, h2⟩, h3, h4⟩ := w.l x hx
    have ne : x.p ≠ p := ne_of_none h1 hp
    exact ⟨⟨u, by rw [upd_ne ne]; exact h1, x.c.mono (Ex.new hB) h2⟩, by rw [upd_ne ne]; exact h3, h4⟩
/-- a new thing that may change -/
theorem Own.new (w : Own K B M L H) (hp : H p = none) (h : c.is K B o a) : Own K B M (⟨p, c, a⟩ :: L) (upd H p o) := by
  have hB : B p = none := fresh_back w.b hp
  have hM : M p = none := fresh_back w.m hp
  refine ⟨fun b u e => ?_, fun b u e => ?_, w.bm, fun x hx => ?_, ?_, fun P hP => ?_⟩
  rotate_right
  · obtain ⟨h1, h2, h3, h4⟩ := w.t P hP
    have ne := tab_ne h1 hp
    exact ⟨tab_upd h1 ne, h2, h3, fun z => (List.mem_cons.mp z).elim ne h4⟩
  · rw [upd_ne (ne_of_none e hB)]; exact w.b b u e
  · rw [upd_ne (ne_of_none e hM)]; exact w.m b u e
  · rcases List.mem_cons.mp hx with rfl | hx
    · exact ⟨⟨o, upd_same, h⟩, hB, hM⟩
    · obtain ⟨⟨u, h1, h2⟩, h3, h4⟩ := w.l x hx
      exact ⟨⟨u, by rw [upd_ne (ne_of_none h1 hp)]; exact h1, h2⟩, h3, h4⟩
  · rw [List.map_cons, List.nodup_cons]
    refine ⟨fun hm => ?_, w.nd⟩
    obtain ⟨x, hx, e⟩ := List.mem_map.mp hm
    obtain ⟨⟨u, h1, _⟩, _⟩ := w.l x hx
    rw [e, show (Cell.mk p c a).p = p from rfl, hp] at h1
    cases h1
theorem nodup_at : ∀ {l : List Addr} {i j : Nat} {x : Addr}, l.Nodup → l[i]? = some x → l[j]? = some x → i = j := fun {l i j x} h a b => by
  obtain ⟨h1, e1⟩ := List.getElem?_eq_some_iff.mp a
  obtain ⟨h2, e2⟩ := List.getElem?_eq_some_iff.mp b
  exact (List.getElem_inj h).mp (e1.trans e2.symm)
theorem Own.at {i : Nat} {x : Cell} (w : Own K B M L H) (h : L[i]? = some x) : x.ok K B H ∧ B x.p = none ∧ M x.p = none := w.l x (List.mem_of_getElem? h)
theorem Own.ne {i j : Nat} {x y : Cell} (w : Own K B M L H) (h : L[i]? = some x) (h' : L[j]? = some y) (hij : i ≠ j) : x.p ≠ y.p := fun e => hij (nodup_at w.nd (by rw [List.getElem?_map, h]; rfl) (by rw [List.getElem?_map, h']; exact congrArg some e.symm))
/-- a change in place -/
theorem Own.set {i : Nat} (w : Own K B M L H) (h : L[i]? = some ⟨p, c, a⟩) {β : Type} {c' : CRep β} {a' : β} (h' : c'.is K B o a') : Own K B M (L.set i ⟨p, c', a'⟩) (upd H p o) := by
  obtain ⟨_, hB, hM⟩ := w.at h
  have ek : (L.set i ⟨p, c', a'⟩).map (·.p) = L.map (·.p) := by
    rw [List.map_set]
    refine List.ext_getElem? fun j => ?_
    by_cases hij : i = j
    · subst hij
      have hl : i < (L.map (·.p)).length := by rw [List.length_map]; exact (List.getElem?_eq_some_iff.mp h).1
      rw [List.getElem?_set_self hl, List.getElem?_map, h]; rfl
    · rw [List.getElem?_set_ne hij]
  refine ⟨fun b u e => ?_, fun b u e => ?_, w.bm, fun x hx => ?_, ?_, fun P hP => ?_⟩
  rotate_right
  · obtain ⟨h1, h2, h3, h4⟩ := w.t P hP
    have ne : P ≠ p := fun e => h4 (by rw [e]; exact List.mem_map.mpr ⟨_, List.mem_of_getElem? h, rfl⟩)
    exact ⟨tab_upd h1 ne, h2, h3, by rw [ek]; exact h4⟩
  · rw [upd_ne (ne_of_none e hB)]; exact w.b b u e
  · rw [upd_ne (ne_of_none e hM)]; exact w.m b u e
  · obtain ⟨j, hj⟩ := List.getElem?_of_mem hx
    by_cases hij : i = j
    · subst hij
      have hl : i < L.length := (List.getElem?_eq_some_iff.mp h).1
      rw [List.getElem?_set_self hl] at hj
      cases hj
      exact ⟨⟨o, upd_same, h'⟩, hB, hM⟩
    · rw [List.getElem?_set_ne hij] at hj
      obtain ⟨⟨u, h1, h2⟩, h3, h4⟩ := w.at hj
      have ne : x.p ≠ p := w.ne hj h (Ne.symm hij)
      exact ⟨⟨u, by rw [upd_ne ne]; exact h1, h2⟩, h3, h4⟩
  · have e : (L.set i ⟨p, c', a'⟩).map (·.p) = L.map (·.p) := by
      rw [List.map_set]
      refine List.ext_getElem? fun j => ?_
      by_cases hij : i = j
      · subst hij
        have hl : i < (L.map (·.p)).length := by rw [List.length_map]; exact (List.getElem?_eq_some_iff.mp h).1
        rw [List.getElem?_set_self hl, List.getElem?_map, h]; rfl
      · rw [List.getElem?_set_ne hij]
    rw [e]; exact w.nd
theorem Own.perm {L' : List Cell} (w : Own K B M L H) (h : ∀ x ∈ L', x ∈ L) (nd : (L'.map (·.p)).Nodup) : Own K B M L' H := ⟨w.b, w.m, w.bm, fun x hx => w.l x (h x hx), nd, fun P hP => by
  obtain ⟨h1, h2, h3, h4⟩ := w.t P hP
  refine ⟨h1, h2, h3, fun z => h4 ?_⟩
  obtain ⟨x, hx, e⟩ := List.mem_map.mp z
  exact List.mem_map.mpr ⟨x, h x hx, e⟩⟩
theorem Own.erase (w : Own K B M L H) (i : Nat) : Own K B M (L.eraseIdx i) H := by
  refine w.perm (fun x hx => List.mem_of_mem_eraseIdx hx) ?_
  exact w.nd.sublist ((List.eraseIdx_sublist L i).map _)
theorem Own.tail {x : Cell} (w : Own K B M (x :: L) H) : Own K B M L H := w.erase 0
theorem Own.nil (w : Own K B M L H) : Own K B M [] H := w.perm (fun _ h => absurd h (by simp)) (by simp)
/-- what may change stays from now on -/
theorem Own.freeze {i : Nat} {x : Cell} (w : Own K B M L H) (h : L[i]? = some x) : ∃ o, H x.p = some o ∧ x.c.is K B o x.a ∧ B x.p = none ∧ Own K (upd B x.p o) M (L.eraseIdx i) H := by
  obtain ⟨⟨o, h1, h2⟩, hB, hM⟩ := w.at h
  refine ⟨o, h1, h2, hB, fun b u e => ?_, w.m, fun b => ?_, fun y hy => ?_, w.nd.sublist ((List.eraseIdx_sublist L i).map _), fun P hP => ?_⟩
  rotate_right
  · obtain ⟨t1, t2, t3, t4⟩ := w.t P hP
    have ne : P ≠ x.p := fun e => t4 (by rw [e]; exact List.mem_map.mpr ⟨_, List.mem_of_getElem? h, rfl⟩)
    exact ⟨t1, by rw [upd_ne ne]; exact t2, t3, fun z => t4 (((List.eraseIdx_sublist L i).map _).subset z)⟩
  · by_cases hb : b = x.p
    · rw [hb, upd_same] at e; rw [hb, h1]; exact e
    · rw [upd_ne hb] at e; exact w.b b u e
  · by_cases hb : b = x.p
    · right; rw [hb]; exact hM
    · rw [upd_ne hb]; exact w.bm b
  · obtain ⟨⟨u, h3, h4⟩, h5, h6⟩ := w.l y (List.mem_of_mem_eraseIdx hy)
    have ne : y.p ≠ x.p := by
      obtain ⟨j, hj, hne⟩ := List.mem_eraseIdx_iff_getElem?.mp hy
      exact w.ne hne h hj
    exact ⟨⟨u, h3, y.c.mono (Ex.new hB) h4⟩, by rw [upd_ne ne]; exact h5, h6⟩
/-- what is ours as a part of what is not ours -/
def absorb (M : Fr) (L : List Cell) (H : Hp) : Fr := ⟨fun a => if a ∈ L.map (·.p) then H a else M a, M.T⟩
theorem absorb_in {x : Cell} (h : x ∈ L) : absorb M L H x.p = H x.p := by
  exact if_pos (List.mem_map.mpr ⟨x, h, rfl⟩)
theorem absorb_out (h : p ∉ L.map (·.p)) : absorb M L H p = M p := by
  exact if_neg h
/-- L1 is lent, L2 is set aside -/
theorem Own.lend {L1 L2 : List Cell} (w : Own K B M L H) (h1 : ∀ x ∈ L1, x ∈ L) (h2 : ∀ x ∈ L2, x ∈ L) (nd1 : (L1.map (·.p)).Nodup) (dj : ∀ x ∈ L1, x.p ∉ L2.map (·.p)) : Own K B (absorb M L2 H) L1 H := by
  refine ⟨w.b, fun b u e => ?_, fun b => ?_, fun x hx => ?_, nd1, fun P hP => ?_⟩
  rotate_right
  · obtain ⟨t1, t2, t3, t4⟩ := w.t P hP
    have sub : ∀ {L' : List Cell}, (∀ x ∈ L', x ∈ L) → P ∉ L'.map (·.p) := fun {L'} hs z => by
      obtain ⟨x, hx, e⟩ := List.mem_map.mp z
      exact t4 (List.mem_map.mpr ⟨x, hs x hx, e⟩)
    exact ⟨t1, t2, by rw [absorb_out (sub h2)]; exact t3, sub h1⟩
  · by_cases hb : b ∈ L2.map (·.p)
    · have e : (if b ∈ L2.map (·.p) then H b else M b) = some u := e; rw [if_pos hb] at e; exact e
    · rw [absorb_out hb] at e; exact w.m b u e
  · by_cases hb : b ∈ L2.map (·.p)
    · left
      obtain ⟨x, hx, rfl⟩ := List.mem_map.mp hb
      exact (w.l x (h2 x hx)).2.1
    · rw [absorb_out hb]; exact w.bm b
  · obtain ⟨a1, a2, a3⟩ := w.l x (h1 x hx)
    refine ⟨a1, a2, ?_⟩
    rw [absorb_out (dj x hx)]; exact a3
/-- it comes back changed -/
theorem Own.back {L1' L2 : List Cell} (w : Own K B M L H) (h2 : ∀ x ∈ L2, x ∈ L) (nd2 : (L2.map (·.p)).Nodup) (e : Ex B B') (w' : Own K B' (absorb M L2 H) L1' H') (dj : ∀ x ∈ L1', x.p ∉ L2.map (·.p)) : Own K B' M (L1' ++ L2) H' := by
  have inL : ∀ x ∈ L2, ∃ o, H x.p = some o ∧ H' x.p = some o ∧ x.c.is K B o x.a := fun x hx => by
    obtain ⟨⟨o, a1, a2⟩, _⟩ := w.l x (h2 x hx)
    exact ⟨o, a1, w'.m x.p o (by rw [absorb_in hx]; exact a1), a2⟩
  have Min : ∀ b u, M b = some u → b ∉ L2.map (·.p) := fun b u hm hb => by
    obtain ⟨x, hx, rfl⟩ := List.mem_map.mp hb
    rw [(w.l x (h2 x hx)).2.2] at hm
    cases hm
  refine ⟨w'.b, fun b u hm => w'.m b u (by rw [absorb_out (Min b u hm)]; exact hm), fun b => ?_, fun x hx => ?_, ?_, fun P hP => ?_⟩
  rotate_right
  · obtain ⟨t1, t2, t3, t4⟩ := w.t P hP
    obtain ⟨s1, s2, s3, s4⟩ := w'.t P hP
    refine ⟨s1, s2, t3, fun z => ?_⟩
    rw [List.map_append, List.mem_append] at z
    rcases z with z | z
    · exact s4 z
    · obtain ⟨x, hx, e⟩ := List.mem_map.mp z
      exact t4 (List.mem_map.mpr ⟨x, h2 x hx, e⟩)
  · rcases w'.bm b with h | h
    · exact .inl h
    · right
      by_cases hb : b ∈ L2.map (·.p)
      · obtain ⟨x, hx, rfl⟩ := List.mem_map.mp hb
        exact (w.l x (h2 x hx)).2.2
      · rw [absorb_out hb] at h; exact h
  · rcases List.mem_append.mp hx with hx | hx
    · obtain ⟨a1, a2, a3⟩ := w'.l x hx
      refine ⟨a1, a2, ?_⟩
      rw [absorb_out (dj x hx)] at a3; exact a3
    · obtain ⟨o, a1, a2, a3⟩ := inL x hx
      refine ⟨⟨o, a2, x.c.mono e a3⟩, ?_, (w.l x (h2 x hx)).2.2⟩
      rcases w'.bm x.p with h | h
      · exact h
      · rw [absorb_in hx, a1] at h; cases h
  · rw [List.map_append, List.nodup_append]
    refine ⟨w'.nd, nd2, fun a ha b hb hab => ?_⟩
    obtain ⟨x, hx, rfl⟩ := List.mem_map.mp ha
    exact dj x hx (by rw [hab]; exact hb)
end
end L3

namespace L3
open PySem L2
open Evl (Ex ex_rd ex_l ex_t sq_of st_of fresh_back)

/-! ### what an expression gives -/
def EV (K : Fg) (M : Fr) {α : Type} (te : TE) (σ : St) (B : Hp) (L : List Cell) (r : Rep α) (a : α) (L' : List Cell) : Prop :=
  ∀ B1 H, Ex B B1 → Own K B1 M L H → ∀ Q : VK, (∀ v B2 H2, Ex B1 B2 → Own K B2 M L' H2 → r.is K B2 v a → Q v H2) → te σ H Q
/-- a new list that may change -/
def EVL (K : Fg) (M : Fr) {α : Type} (te : TE) (σ : St) (B : Hp) (L : List Cell) (r : Rep α) (as : List α) (L' : List Cell) : Prop :=
  ∀ B1 H, Ex B B1 → Own K B1 M L H → ∀ Q : VK, (∀ p B2 H2, Ex B1 B2 → Own K B2 M (⟨p, cLst r, as⟩ :: L') H2 → Q (.ref p) H2) → te σ H Q
def ET (K : Fg) (M : Fr) (tt : TT) (σ : St) (B : Hp) (L : List Cell) (b : Bool) (L' : List Cell) : Prop :=
  ∀ B1 H, Ex B B1 → Own K B1 M L H → ∀ Q : Bool → Hp → Prop, (∀ B2 H2, Ex B1 B2 → Own K B2 M L' H2 → Q b H2) → tt σ H Q
structure Arg : Type 1 where
  {α : Type}
  r : Rep α
  a : α
def Arg.is (K : Fg) (B : Hp) (v : V) (x : Arg) : Prop := x.r.is K B v x.a
def ArgsIs (K : Fg) (B : Hp) : List V → List Arg → Prop
  | [], [] => True
  | v :: vs, a :: as => a.is K B v ∧ ArgsIs K B vs as
  | _, _ => False
theorem args_mono {K : Fg} {B B' : Hp} (e : Ex B B') : ∀ {vs : List V} {as : List Arg}, ArgsIs K B vs as → ArgsIs K B' vs as
  | [], [], _ => trivial
  | _ :: _, a :: _, h => ⟨a.r.mono e h.1, args_mono e h.2⟩
  | [], _ :: _, h => h
  | _ :: _, [], h => h
def EA (K : Fg) (M : Fr) (ta : TA) (σ : St) (B : Hp) (L : List Cell) (as : List Arg) (L' : List Cell) : Prop :=
  ∀ B1 H, Ex B B1 → Own K B1 M L H → ∀ Q : List V → Hp → Prop, (∀ vs B2 H2, Ex B1 B2 → Own K B2 M L' H2 → ArgsIs K B2 vs as → Q vs H2) → ta σ H Q

/-! ### partial operations of the mirrors -/
theorem bindS {α β : Type} {o : Option α} {f : α → Option β} {b : β} (h : Option.bind o f = some b) : ∃ a, o = some a ∧ f a = some b := by
  cases o with
  | none => cases h
  | some a => exact ⟨a, rfl, h⟩
def CMulX (i j : Int) : Prop := ((-(2 ^ 64) < i ∧ i < 2 ^ 64) ∨ (-(2 ^ 64) < j ∧ j < 2 ^ 64)) ∨ i.natAbs.log2 + j.natAbs.log2 < 1000000
instance (i j : Int) : Decidable (CMulX i j) := by unfold CMulX; infer_instance
theorem op_mulX {X : Cx} : OpR X (binaryOp .Mult) (rI CMulX fun i j => .int (i * j)) := opI fun _ _ _ _ _ _ _ hc q => PyProof.Rows.mul_int q (Or.elim hc CMul.ok CMulW.ok)
def mulI (i j : Int) : Option Int := if CMulX i j then some (i * j) else none
def divI (i j : Int) : Option Int := if 0 < j ∧ j.natAbs.log2 < 9000 then some (i / j) else none
def modI (i j : Int) : Option Int := if 0 < j then some (i % j) else none
def powI (i j : Int) : Option Int := if 0 ≤ j ∧ j ≤ 1000000 ∧ i.natAbs < 2 ^ 64 then some (i ^ j.toNat) else none
def ixL {α : Type} (xs : List α) (i : Int) : Option α := atI xs i
def room (n : Nat) : Option Unit := if n < sizeLine then some () else none
theorem mulI_some {i j k : Int} (h : mulI i j = some k) : CMulX i j ∧ k = i * j := by
  unfold mulI at h
  split at h
  · rename_i hc; exact ⟨hc, (Option.some.inj h).symm⟩
  · cases h
theorem divI_some {i j k : Int} (h : divI i j = some k) : CDivW i j ∧ k = i / j := by
  unfold divI at h
  split at h
  · rename_i hc; exact ⟨hc, (Option.some.inj h).symm⟩
  · cases h
theorem modI_some {i j k : Int} (h : modI i j = some k) : 0 < j ∧ k = i % j := by
  unfold modI at h
  split at h
  · rename_i hc; exact ⟨hc, (Option.some.inj h).symm⟩
  · cases h
theorem powI_some {i j k : Int} (h : powI i j = some k) : CPow i j ∧ k = i ^ j.toNat := by
  unfold powI at h
  split at h
  · rename_i hc; exact ⟨hc, (Option.some.inj h).symm⟩
  · cases h
theorem room_some {n : Nat} {u : Unit} (h : room n = some u) : n < sizeLine := by
  unfold room at h
  split at h
  · rename_i hc; exact hc
  · cases h
/-- an index in the mirror's list is one in the heap's -/
theorem atI_paired {α : Type} {F : V → α → Prop} {xs : List V} {as : List α} {i : Int} {a : α} (h : Paired F xs as) (e : atI as i = some a) : ∃ x, atI xs i = some x ∧ F x a := by
  unfold atI at e ⊢
  rw [paired_len h]
  revert e
  cases ixN as.length i with
  | none => intro e; simp at e
  | some j => intro e; exact paired_get h (by simpa using e)

section
variable {K : Fg} {M : Fr} {σ : St} {B : Hp} {L L1 L2 L' : List Cell} {α β γ δ : Type} {r : Rep α} {s : Rep β} {t : Rep γ} {ta tb tc te : TE} {tt tu : TT} {tA : TA} {i j k : Int} {b c : Bool}
/-! ### expressions -/
theorem ev_var {n : Nat} {v : V} {a : α} (h : σ[n]? = some (some v)) (hr : r.is K B v a) : EV K M (tVar n) σ B L r a L := fun B1 H e w Q q => ⟨v, h, q v B1 H (Ex.refl _) w (r.mono e hr)⟩
theorem ev_varI {n : Nat} {v : V} (h : σ[n]? = some (some v)) (hr : v = .int i) : EV K M (tVar n) σ B L rInt i L := ev_var h hr
theorem ev_varB {n : Nat} {v : V} (h : σ[n]? = some (some v)) (hr : v = .bl b) : EV K M (tVar n) σ B L rBool b L := ev_var h hr
theorem ev_varS {n : Nat} {v : V} {x : Str} (h : σ[n]? = some (some v)) (hr : v = .str x) : EV K M (tVar n) σ B L rStr x L := ev_var h hr
theorem ev_varR {n : Nat} {p : Addr} (h : σ[n]? = some (some (.ref p))) : EV K M (tVar n) σ B L rRef p L := ev_var h rfl
theorem ev_k {v : V} {a : α} (hr : ∀ B, r.is K B v a) : EV K M (tC v) σ B L r a L := fun B1 H e w Q q => q v B1 H (Ex.refl _) w (hr B1)
theorem ev_int : EV K M (tC (.int i)) σ B L rInt i L := ev_k fun _ => rfl
theorem ev_bl : EV K M (tC (.bl b)) σ B L rBool b L := ev_k fun _ => rfl
theorem ev_str {x : Str} : EV K M (tC (.str x)) σ B L rStr x L := ev_k fun _ => rfl
theorem ev_non : EV K M (tC .non) σ B L (rOpt r) none L := ev_k fun _ => rfl
theorem ev_as {a : α} {b : β} (h : EV K M te σ B L r a L') (f : ∀ B v, r.is K B v a → s.is K B v b) : EV K M te σ B L s b L' := fun B1 H e w Q q => h B1 H e w Q fun v B2 H2 e2 w2 h2 => q v B2 H2 e2 w2 (f _ _ h2)
theorem ev_seqT {as : List α} (h : EV K M te σ B L (rTup r) as L') : EV K M te σ B L (rSeq r) as L' := ev_as h fun _ _ => rTup_seq
theorem ev_seqS {as : List α} (h : EV K M te σ B L (rScr r) as L') : EV K M te σ B L (rSeq r) as L' := ev_as h fun _ _ => rScr_seq
theorem ev_scr {as : List α} (h : EV K M te σ B L (rLst r) as L') : EV K M te σ B L (rScr r) as L' := ev_as h fun _ _ => rl_sc
theorem ev_seqL {as : List α} (h : EV K M te σ B L (rLst r) as L') : EV K M te σ B L (rSeq r) as L' := ev_as h fun _ _ => rLst_seq
theorem ev_sm {a : α} (h : EV K M te σ B L r a L') : EV K M te σ B L (rOpt r) (some a) L' := ev_as h fun _ _ h => h
/-- a new list, left as it is -/
theorem ev_frz {as : List α} (h : EVL K M te σ B L r as L') : EV K M te σ B L (rLst r) as L' := fun B1 H e w Q q => h B1 H e w Q fun p B2 H2 e2 w2 => by
  obtain ⟨o, h1, ⟨xs, h2, h3⟩, h4, w3⟩ := w2.freeze (i := 0) rfl
  have h4 : B2 p = none := h4
  have e3 : Ex B2 (upd B2 p o) := Ex.new h4
  refine q _ (upd B2 p o) H2 (e2.trans e3) w3 ⟨p, xs, rfl, ?_, paired_mono e3 h3⟩
  rw [upd_same, h2]
/-- two values, one operation -/
theorem ev_op {R : R2} {a : α} {b : β} {c : γ} (ha : EV K M ta σ B L r a L1) (hb : EV K M tb σ B L1 s b L2)
    (h : ∀ B1 H1 x y (Q : VK), Own K B1 M L2 H1 → r.is K B1 x a → s.is K B1 y b → (∀ v, t.is K B1 v c → Q v H1) → R x y H1 Q) : EV K M (tOp R ta tb) σ B L t c L2 := fun B1 H e w Q q =>
  ha B1 H e w _ fun x B2 H2 e2 w2 hx => hb B2 H2 (e.trans e2) w2 _ fun y B3 H3 e3 w3 hy => h B3 H3 x y Q w3 (r.mono e3 hx) hy fun v hv => q v B3 H3 (e2.trans e3) w3 hv
theorem ev_un {R : V → Hp → VK → Prop} {a : α} {c : γ} (ha : EV K M ta σ B L r a L1) (h : ∀ B1 H1 x (Q : VK), Own K B1 M L1 H1 → r.is K B1 x a → (∀ v, t.is K B1 v c → Q v H1) → R x H1 Q) : EV K M (tUn R ta) σ B L t c L1 := fun B1 H e w Q q =>
  ha B1 H e w _ fun x B2 H2 e2 w2 hx => h B2 H2 x Q w2 hx fun v hv => q v B2 H2 e2 w2 hv
theorem ev_I0 {g : Int → Int → Int} (ha : EV K M ta σ B L rInt i L1) (hb : EV K M tb σ B L1 rInt j L2) : EV K M (tOp (rI0 fun i j => .int (g i j)) ta tb) σ B L rInt (g i j) L2 :=
  ev_op ha hb fun _ _ _ _ _ _ hx hy q => ⟨i, j, hx, hy, q _ rfl⟩
theorem ev_B0 {g : Int → Int → Bool} (ha : EV K M ta σ B L rInt i L1) (hb : EV K M tb σ B L1 rInt j L2) : EV K M (tOp (rI0 fun i j => .bl (g i j)) ta tb) σ B L rBool (g i j) L2 :=
  ev_op ha hb fun _ _ _ _ _ _ hx hy q => ⟨i, j, hx, hy, q _ rfl⟩
theorem ev_mul (ha : EV K M ta σ B L rInt i L1) (hb : EV K M tb σ B L1 rInt j L2) (h : mulI i j = some k) : EV K M (tOp (rI CMulX fun i j => .int (i * j)) ta tb) σ B L rInt k L2 :=
  ev_op ha hb fun _ _ _ _ _ _ hx hy q => ⟨i, j, hx, hy, (mulI_some h).1, q _ (by rw [(mulI_some h).2]; rfl)⟩
theorem ev_div (ha : EV K M ta σ B L rInt i L1) (hb : EV K M tb σ B L1 rInt j L2) (h : divI i j = some k) : EV K M (tOp (rI CDivW fun i j => .int (i / j)) ta tb) σ B L rInt k L2 :=
  ev_op ha hb fun _ _ _ _ _ _ hx hy q => ⟨i, j, hx, hy, (divI_some h).1, q _ (by rw [(divI_some h).2]; rfl)⟩
theorem ev_mod (ha : EV K M ta σ B L rInt i L1) (hb : EV K M tb σ B L1 rInt j L2) (h : modI i j = some k) : EV K M (tOp (rI (fun _ j => 0 < j) fun i j => .int (i % j)) ta tb) σ B L rInt k L2 :=
  ev_op ha hb fun _ _ _ _ _ _ hx hy q => ⟨i, j, hx, hy, (modI_some h).1, q _ (by rw [(modI_some h).2]; rfl)⟩
theorem ev_pow (ha : EV K M ta σ B L rInt i L1) (hb : EV K M tb σ B L1 rInt j L2) (h : powI i j = some k) : EV K M (tOp (rI CPow fun i j => .int (i ^ j.toNat)) ta tb) σ B L rInt k L2 :=
  ev_op ha hb fun _ _ _ _ _ _ hx hy q => ⟨i, j, hx, hy, (powI_some h).1, q _ (by rw [(powI_some h).2]; rfl)⟩
theorem ev_neg (ha : EV K M ta σ B L rInt i L1) : EV K M (tUn (rU fun i => .int (-i)) ta) σ B L rInt (-i) L1 := ev_un ha fun _ _ _ _ _ hx q => ⟨i, hx, q _ rfl⟩
theorem ev_eqI (ha : EV K M ta σ B L rInt i L1) (hb : EV K M tb σ B L1 rInt j L2) : EV K M (tOp rEq ta tb) σ B L rBool (decide (i = j)) L2 :=
  ev_op ha hb fun _ _ _ _ _ _ hx hy q => by
    have hx : _ = V.int i := hx
    have hy : _ = V.int j := hy
    subst hx hy
    exact ⟨rfl, q _ (by show V.bl _ = V.bl _; congr 1; simp)⟩
theorem ev_neI (ha : EV K M ta σ B L rInt i L1) (hb : EV K M tb σ B L1 rInt j L2) : EV K M (tOp rNe ta tb) σ B L rBool (!decide (i = j)) L2 :=
  ev_op ha hb fun _ _ _ _ _ _ hx hy q => by
    have hx : _ = V.int i := hx
    have hy : _ = V.int j := hy
    subst hx hy
    exact ⟨rfl, q _ (by show V.bl _ = V.bl _; congr 1; simp)⟩
theorem ev_eqS {x y : Str} (ha : EV K M ta σ B L rStr x L1) (hb : EV K M tb σ B L1 rStr y L2) : EV K M (tOp rEq ta tb) σ B L rBool (decide (x = y)) L2 :=
  ev_op ha hb fun _ _ _ _ _ _ hx hy q => by
    have hx : _ = V.str x := hx
    have hy : _ = V.str y := hy
    subst hx hy
    exact ⟨rfl, q _ (by show V.bl _ = V.bl _; congr 1; simp)⟩
theorem ev_neS {x y : Str} (ha : EV K M ta σ B L rStr x L1) (hb : EV K M tb σ B L1 rStr y L2) : EV K M (tOp rNe ta tb) σ B L rBool (!decide (x = y)) L2 :=
  ev_op ha hb fun _ _ _ _ _ _ hx hy q => by
    have hx : _ = V.str x := hx
    have hy : _ = V.str y := hy
    subst hx hy
    exact ⟨rfl, q _ (by show V.bl _ = V.bl _; congr 1; simp)⟩
theorem ev_eqB {x y : Bool} (ha : EV K M ta σ B L rBool x L1) (hb : EV K M tb σ B L1 rBool y L2) : EV K M (tOp rEq ta tb) σ B L rBool (decide (x = y)) L2 :=
  ev_op ha hb fun _ _ _ _ _ _ hx hy q => by
    have hx : _ = V.bl x := hx
    have hy : _ = V.bl y := hy
    subst hx hy
    exact ⟨rfl, q _ (by show V.bl _ = V.bl _; congr 1; simp)⟩
/-- x is None -/
theorem ev_isN {a : Option α} (ha : EV K M ta σ B L (rOpt r) a L1) (hn : ∀ B v x, r.is K B v x → v ≠ .non) : EV K M (tIsN ta) σ B L rBool a.isNone L1 := fun B1 H e w Q q =>
  ha B1 H e w _ fun x B2 H2 e2 w2 hx => q _ B2 H2 e2 w2 (by
    show V.bl _ = V.bl _
    congr 1
    cases a with
    | none => exact decide_eq_true (show x = V.non from hx)
    | some a => exact decide_eq_false (hn _ _ _ hx))
theorem ev_notN {a : Option α} (ha : EV K M ta σ B L (rOpt r) a L1) (hn : ∀ B v x, r.is K B v x → v ≠ .non) : EV K M (tNotN ta) σ B L rBool a.isSome L1 := fun B1 H e w Q q =>
  ha B1 H e w _ fun x B2 H2 e2 w2 hx => q _ B2 H2 e2 w2 (by
    show V.bl _ = V.bl _
    congr 1
    cases a with
    | none => rw [decide_eq_true (show x = V.non from hx)]; rfl
    | some a => rw [decide_eq_false (hn _ _ _ hx)]; rfl)
/-! ### tuples and lists -/
theorem ea_nil : EA K M tNil σ B L [] L := fun B1 H e w Q q => q [] B1 H (Ex.refl _) w trivial
theorem ea_cons {a : α} {as : List Arg} (ha : EV K M ta σ B L r a L1) (hr : EA K M tA σ B L1 as L2) : EA K M (tCons ta tA) σ B L (⟨r, a⟩ :: as) L2 := fun B1 H e w Q q =>
  ha B1 H e w _ fun x B2 H2 e2 w2 hx => hr B2 H2 (e.trans e2) w2 _ fun vs B3 H3 e3 w3 hvs => q (x :: vs) B3 H3 (e2.trans e3) w3 ⟨r.mono e3 hx, hvs⟩
theorem ev_T2 {a : α} {b : β} (h : EA K M tA σ B L [⟨r, a⟩, ⟨s, b⟩] L') : EV K M (tTup tA) σ B L (rT2 r s) (a, b) L' := fun B1 H e w Q q =>
  h B1 H e w _ fun vs B2 H2 e2 w2 hv => by
    match vs, hv with
    | [_, _], ⟨h1, h2, _⟩ => exact ⟨by show 2 ≤ sizeLine; decide, fun p hp => q _ (upd B2 p _) _ (e2.trans (Ex.new (fresh_back w2.b hp))) (w2.ext hp) ⟨p, _, _, rfl, st_of upd_same, r.mono (Ex.new (fresh_back w2.b hp)) h1, s.mono (Ex.new (fresh_back w2.b hp)) h2⟩⟩
theorem ev_T3 {a : α} {b : β} {c : γ} (h : EA K M tA σ B L [⟨r, a⟩, ⟨s, b⟩, ⟨t, c⟩] L') : EV K M (tTup tA) σ B L (rT3 r s t) (a, b, c) L' := fun B1 H e w Q q =>
  h B1 H e w _ fun vs B2 H2 e2 w2 hv => by
    match vs, hv with
    | [_, _, _], ⟨h1, h2, h3, _⟩ => exact ⟨by show 3 ≤ sizeLine; decide, fun p hp => q _ (upd B2 p _) _ (e2.trans (Ex.new (fresh_back w2.b hp))) (w2.ext hp) ⟨p, _, _, _, rfl, st_of upd_same, r.mono (Ex.new (fresh_back w2.b hp)) h1, s.mono (Ex.new (fresh_back w2.b hp)) h2, t.mono (Ex.new (fresh_back w2.b hp)) h3⟩⟩
theorem homog : ∀ {as : List α} {vs : List V}, ArgsIs K B vs (as.map (Arg.mk r)) → Paired (r.is K B) vs as
  | [], [], _ => .nil
  | _ :: _, _ :: _, h => .cons h.1 (homog h.2)
  | [], _ :: _, h => h.elim
  | _ :: _, [], h => h.elim
theorem ev_tup (as : List α) (h : EA K M tA σ B L (as.map (Arg.mk r)) L') (hl : Nat.ble as.length 100000 = true := by rfl) : EV K M (tTup tA) σ B L (rTup r) as L' := fun B1 H e w Q q =>
  h B1 H e w _ fun vs B2 H2 e2 w2 hv => ⟨by rw [paired_len (homog hv)]; exact Evl.sz_of (Nat.le_of_ble_eq_true hl), fun p hp => q _ (upd B2 p _) _ (e2.trans (Ex.new (fresh_back w2.b hp))) (w2.ext hp) ⟨p, _, rfl, st_of upd_same, paired_mono (Ex.new (fresh_back w2.b hp)) (homog hv)⟩⟩
theorem el_lst (as : List α) (h : EA K M tA σ B L (as.map (Arg.mk r)) L') (hl : Nat.ble as.length 100000 = true := by rfl) : EVL K M (tLst tA) σ B L r as L' := fun B1 H e w Q q =>
  h B1 H e w _ fun vs B2 H2 e2 w2 hv => ⟨by rw [paired_len (homog hv)]; exact Evl.sz_of (Nat.le_of_ble_eq_true hl), fun p hp => q p B2 _ e2 (w2.new hp ⟨vs, rfl, homog hv⟩)⟩
theorem ev_fst {a : α × β} (ha : EV K M ta σ B L (rT2 r s) a L1) : EV K M (tOp (rIx K) ta (tC (.int 0))) σ B L r a.1 L1 := fun B1 H e w Q q =>
  ha B1 H e w _ fun x B2 H2 e2 w2 hx => by
    obtain ⟨p, x0, x1, rfl, hs, h0, h1⟩ := hx
    exact .inr (.inl ⟨p, _, 0, x0, rfl, rfl, ex_t w2.b hs, rfl, q _ B2 H2 e2 w2 h0⟩)
theorem ev_snd {a : α × β} (ha : EV K M ta σ B L (rT2 r s) a L1) : EV K M (tOp (rIx K) ta (tC (.int 1))) σ B L s a.2 L1 := fun B1 H e w Q q =>
  ha B1 H e w _ fun x B2 H2 e2 w2 hx => by
    obtain ⟨p, x0, x1, rfl, hs, h0, h1⟩ := hx
    exact .inr (.inl ⟨p, _, 1, x1, rfl, rfl, ex_t w2.b hs, rfl, q _ B2 H2 e2 w2 h1⟩)
theorem ev_ix {xs : List α} {a : α} (ha : EV K M ta σ B L (rSeq r) xs L1) (hb : EV K M tb σ B L1 rInt i L2) (h : ixL xs i = some a) : EV K M (tOp (rIx K) ta tb) σ B L r a L2 :=
  ev_op ha hb fun B1 H1 x y Q w hx hy q => by
    obtain ⟨p, vs, rfl, hs, hv⟩ := hx
    obtain ⟨x, e, hx⟩ := atI_paired hv h
    rcases hs with hs | hs
    · exact .inl ⟨p, vs, i, x, rfl, hy, ex_l w.b hs, e, q _ hx⟩
    · exact .inr (.inl ⟨p, vs, i, x, rfl, hy, ex_t w.b hs, e, q _ hx⟩)
/-- of a list that may change -/
theorem ev_ixC {n : Nat} {p : Addr} {xs : List α} {a : α} (ha : EV K M ta σ B L rRef p L1) (hb : EV K M tb σ B L1 rInt i L2) (hc : L2[n]? = some ⟨p, cLst r, xs⟩) (h : ixL xs i = some a) : EV K M (tOp (rIx K) ta tb) σ B L r a L2 :=
  ev_op ha hb fun B1 H1 x y Q w hx hy q => by
    obtain ⟨⟨o, h1, vs, h2, hv⟩, _⟩ := w.at hc
    obtain ⟨x, e, hx'⟩ := atI_paired hv h
    exact .inl ⟨p, vs, i, x, hx, hy, sq_of (by rw [h1, h2]), e, q _ hx'⟩
def rLen (K : Fg) : List V → Hp → VK → Prop := fun xs H Q => ∃ p ys, xs = [.ref p] ∧ (SqL K H p ys ∨ SqT K H p ys) ∧ Q (.int ys.length) H
theorem ev_cb {R : List V → Hp → VK → Prop} {as : List Arg} {c : γ} (ha : EA K M tA σ B L as L1) (h : ∀ B1 H1 vs (Q : VK), Own K B1 M L1 H1 → ArgsIs K B1 vs as → (∀ v, t.is K B1 v c → Q v H1) → R vs H1 Q) : EV K M (tCB R tA) σ B L t c L1 := fun B1 H e w Q q =>
  ha B1 H e w _ fun vs B2 H2 e2 w2 hv => h B2 H2 vs Q w2 hv fun v hr => q v B2 H2 e2 w2 hr
theorem ev_cb1 {R : List V → Hp → VK → Prop} {a : α} {c : γ} (ha : EV K M ta σ B L r a L1) (h : ∀ B1 H1 x (Q : VK), Own K B1 M L1 H1 → r.is K B1 x a → (∀ v, t.is K B1 v c → Q v H1) → R [x] H1 Q) : EV K M (tCB R (tCons ta tNil)) σ B L t c L1 := fun B1 H e w Q q =>
  ha B1 H e w _ fun v B2 H2 e2 w2 hv => h B2 H2 v Q w2 hv fun v hr => q v B2 H2 e2 w2 hr
theorem ev_len {xs : List α} (ha : EV K M ta σ B L (rSeq r) xs L1) : EV K M (tCB (rLen K) (tCons ta tNil)) σ B L rInt (xs.length : Int) L1 :=
  ev_cb1 ha fun B1 H1 x Q w hx q => by
    obtain ⟨p, vs, rfl, hs, hv⟩ := hx
    exact ⟨p, vs, rfl, hs.imp (ex_l w.b) (ex_t w.b), q _ (by rw [paired_len hv]; rfl)⟩
theorem ev_lenC {n : Nat} {p : Addr} {xs : List α} (ha : EV K M ta σ B L rRef p L1) (hc : L1[n]? = some ⟨p, cLst r, xs⟩) : EV K M (tCB (rLen K) (tCons ta tNil)) σ B L rInt (xs.length : Int) L1 :=
  ev_cb1 ha fun B1 H1 x Q w hx q => by
    obtain ⟨⟨o, h1, vs, h2, hv⟩, _⟩ := w.at hc
    have h1 : H1 p = some o := h1
    exact ⟨p, vs, congrArg (fun z => [z]) hx, .inl (sq_of (by rw [h1, h2])), q _ (by rw [paired_len hv]; rfl)⟩
theorem ev_abs (ha : EV K M ta σ B L rInt i L1) : EV K M (tCB (fun xs H Q => ∃ i, xs = [.int i] ∧ Q (.int (if i < 0 then -i else i)) H) (tCons ta tNil)) σ B L rInt (if i < 0 then -i else i) L1 :=
  ev_cb1 ha fun B1 H1 x Q w hx q => ⟨i, congrArg (fun z => [z]) hx, q _ rfl⟩
def rInt1 : List V → Hp → VK → Prop := fun xs H Q => (∃ i, xs = [.int i] ∧ Q (.int i) H) ∨ ∃ k, xs = [.bl k] ∧ Q (.int (if k then 1 else 0)) H
theorem ev_intI (ha : EV K M ta σ B L rInt i L1) : EV K M (tCB rInt1 (tCons ta tNil)) σ B L rInt i L1 := ev_cb1 ha fun B1 H1 x Q w hx q => .inl ⟨i, congrArg (fun z => [z]) hx, q _ rfl⟩
theorem ev_intB (ha : EV K M ta σ B L rBool b L1) : EV K M (tCB rInt1 (tCons ta tNil)) σ B L rInt (if b then 1 else 0) L1 := ev_cb1 ha fun B1 H1 x Q w hx q => .inr ⟨b, congrArg (fun z => [z]) hx, q _ rfl⟩
theorem ev_gcd (ha : EV K M ta σ B L rInt i L1) (hb : EV K M tb σ B L1 rInt j L2) : EV K M (tCB rGcd (tCons ta (tCons tb tNil))) σ B L rInt ((Nat.gcd i.natAbs j.natAbs : Nat) : Int) L2 :=
  ev_cb (ea_cons ha (ea_cons hb ea_nil)) fun B1 H1 vs Q w hv q => by
    match vs, hv with
    | [_, _], ⟨h1, h2, _⟩ => exact ⟨i, j, by rw [show _ = V.int i from h1, show _ = V.int j from h2], q _ rfl⟩
/-! ### tests, and, or, not -/
theorem et_test (h : EV K M te σ B L rBool b L') : ET K M (tTest te) σ B L b L' := fun B1 H e w Q q => h B1 H e w _ fun v B2 H2 e2 w2 hv => ⟨b, hv, q B2 H2 e2 w2⟩
theorem et_B (h : EV K M te σ B L rBool b L') : ET K M (tB te) σ B L b L' := fun B1 H e w Q q => h B1 H e w _ fun v B2 H2 e2 w2 hv => ⟨b, hv, q B2 H2 e2 w2⟩
theorem et_not (h : ET K M tt σ B L b L') : ET K M (tNot tt) σ B L (!b) L' := fun B1 H e w Q q => h B1 H e w _ fun B2 H2 e2 w2 => q B2 H2 e2 w2
theorem et_and {b c : Bool} (h1 : ET K M tt σ B L b L1) (h2 : b = true → ET K M tu σ B L1 c L1) : ET K M (tAnd tt tu) σ B L (b && c) L1 := fun B1 H e w Q q => h1 B1 H e w _ fun B2 H2 e2 w2 => by
  cases b with
  | true => exact h2 rfl B2 H2 (e.trans e2) w2 Q fun B3 H3 e3 w3 => q B3 H3 (e2.trans e3) w3
  | false => exact q B2 H2 e2 w2
theorem et_or {b c : Bool} (h1 : ET K M tt σ B L b L1) (h2 : b = false → ET K M tu σ B L1 c L1) : ET K M (tOr tt tu) σ B L (b || c) L1 := fun B1 H e w Q q => h1 B1 H e w _ fun B2 H2 e2 w2 => by
  cases b with
  | true => exact q B2 H2 e2 w2
  | false => exact h2 rfl B2 H2 (e.trans e2) w2 Q fun B3 H3 e3 w3 => q B3 H3 (e2.trans e3) w3
/-- where the right side changes things -/
theorem et_and' {b d : Bool} (h1 : ET K M tt σ B L b L1) (h2 : b = true → ET K M tu σ B L1 d L2) (h3 : b = false → d = false ∧ L2 = L1) : ET K M (tAnd tt tu) σ B L d L2 := fun B1 H e w Q q => h1 B1 H e w _ fun B2 H2 e2 w2 => by
  cases b with
  | true => exact h2 rfl B2 H2 (e.trans e2) w2 Q fun B3 H3 e3 w3 => q B3 H3 (e2.trans e3) w3
  | false => obtain ⟨rfl, rfl⟩ := h3 rfl; exact q B2 H2 e2 w2
theorem et_or' {b d : Bool} (h1 : ET K M tt σ B L b L1) (h2 : b = false → ET K M tu σ B L1 d L2) (h3 : b = true → d = true ∧ L2 = L1) : ET K M (tOr tt tu) σ B L d L2 := fun B1 H e w Q q => h1 B1 H e w _ fun B2 H2 e2 w2 => by
  cases b with
  | true => obtain ⟨rfl, rfl⟩ := h3 rfl; exact q B2 H2 e2 w2
  | false => exact h2 rfl B2 H2 (e.trans e2) w2 Q fun B3 H3 e3 w3 => q B3 H3 (e2.trans e3) w3
theorem ev_andV {b d : Bool} (h1 : EV K M ta σ B L rBool b L1) (h2 : b = true → EV K M tb σ B L1 rBool d L2) (h3 : b = false → d = false ∧ L2 = L1) : EV K M (tAndV ta tb) σ B L rBool d L2 := fun B1 H e w Q q => h1 B1 H e w _ fun x B2 H2 e2 w2 hx => ⟨b, hx, by
  cases b with
  | true => exact h2 rfl B2 H2 (e.trans e2) w2 Q fun v B3 H3 e3 w3 hv => q v B3 H3 (e2.trans e3) w3 hv
  | false => obtain ⟨rfl, rfl⟩ := h3 rfl; exact q _ B2 H2 e2 w2 rfl⟩
theorem ev_orV {b d : Bool} (h1 : EV K M ta σ B L rBool b L1) (h2 : b = false → EV K M tb σ B L1 rBool d L2) (h3 : b = true → d = true ∧ L2 = L1) : EV K M (tOrV ta tb) σ B L rBool d L2 := fun B1 H e w Q q => h1 B1 H e w _ fun x B2 H2 e2 w2 hx => ⟨b, hx, by
  cases b with
  | true => obtain ⟨rfl, rfl⟩ := h3 rfl; exact q _ B2 H2 e2 w2 rfl
  | false => exact h2 rfl B2 H2 (e.trans e2) w2 Q fun v B3 H3 e3 w3 hv => q v B3 H3 (e2.trans e3) w3 hv⟩
theorem ev_notV (h : EV K M ta σ B L rBool b L1) : EV K M (tNotV ta) σ B L rBool (!b) L1 := fun B1 H e w Q q => h B1 H e w _ fun x B2 H2 e2 w2 hx => ⟨b, hx, q _ B2 H2 e2 w2 rfl⟩
theorem ev_if {a : α} (h : ET K M tt σ B L b L1) (h1 : b = true → EV K M ta σ B L1 r a L2) (h2 : b = false → EV K M tb σ B L1 r a L2) : EV K M (tIf tt ta tb) σ B L r a L2 := fun B1 H e w Q q => h B1 H e w _ fun B2 H2 e2 w2 => by
  cases b with
  | true => exact h1 rfl B2 H2 (e.trans e2) w2 Q fun v B3 H3 e3 w3 hv => q v B3 H3 (e2.trans e3) w3 hv
  | false => exact h2 rfl B2 H2 (e.trans e2) w2 Q fun v B3 H3 e3 w3 hv => q v B3 H3 (e2.trans e3) w3 hv
end
end L3

namespace L3
open PySem L2
open Evl (Ex ex_rd ex_l ex_t sq_of st_of fresh_back)

/-! ### promises -/
def spV (K : Fg) (T : List Addr) (C : List Arg → List Cell → Arg → List Cell → Prop) : Sp := fun vs H Q _ => ∃ B M L as r L', M.T = T ∧ Own K B M L H ∧ ArgsIs K B vs as ∧ C as L r L' ∧
  ∀ v B' H', Ex B B' → Own K B' M L' H' → r.is K B' v → Q v H'
theorem args_len {K : Fg} {B : Hp} : ∀ {vs : List V} {as : List Arg}, ArgsIs K B vs as → vs.length = as.length
  | [], [], _ => rfl
  | _ :: _, _ :: _, h => congrArg (· + 1) (args_len h.2)
  | [], _ :: _, h => h.elim
  | _ :: _, [], h => h.elim
theorem FnScope.of {N ps : List Str} {sc : Scope} (h1 : sc.kind = .function) (h2 : sc.isCoroutine = false) (h3 : sc.isGenerator = false) (h : FnScope N ps sc) : FnScope N ps sc := h

section
variable {K : Fg} {M : Fr} {σ : St} {B : Hp} {L L1 L2 L' : List Cell} {α β γ δ : Type} {r : Rep α} {s : Rep β} {t : Rep γ} {ta tb tc te : TE} {tt tu : TT} {tA : TA} {i j k : Int} {b c : Bool}
theorem nodup_one {x : Cell} : ([x].map (·.p)).Nodup := by simp
/-- a def that changes nothing of ours -/
theorem ev_call {C : List Arg → List Cell → Arg → List Cell → Prop} {E : XK} {as : List Arg} {a : α} (ha : EA K M tA σ B L as L1) (h : C as [] ⟨r, a⟩ []) : EV K M (tCall (spV K M.T C) [] E tA) σ B L r a L1 := fun B1 H e w Q q =>
  ha B1 H e w _ fun vs B2 H2 e2 w2 hv => by
    show spV K M.T C (vs ++ []) H2 Q E
    rw [List.append_nil]
    refine ⟨B2, absorb M L1 H2, [], as, ⟨r, a⟩, [], rfl, w2.lend (L1 := []) (L2 := L1) (fun _ h => absurd h (by simp)) (fun _ h => h) (by simp) (fun _ h => absurd h (by simp)), hv, h, fun v B' H' e3 w3 hr => ?_⟩
    exact q v B' H' (e2.trans e3) (w2.back (L1' := []) (fun _ h => h) w2.nd e3 w3 (fun _ h => absurd h (by simp))) hr
theorem erase_mem {x : Cell} {n : Nat} (w : (L.map (·.p)).Nodup) (h : L[n]? = some x) : x.p ∉ (L.eraseIdx n).map (·.p) := fun hm => by
  obtain ⟨y, hy, e⟩ := List.mem_map.mp hm
  obtain ⟨j, hj, hne⟩ := List.mem_eraseIdx_iff_getElem?.mp hy
  exact hj (nodup_at w (by rw [List.getElem?_map, hne]; rfl) (by rw [List.getElem?_map, h]; exact congrArg some e.symm))
theorem set_perm {x x' : Cell} {n : Nat} (h : L[n]? = some x) : ∀ y ∈ L.set n x', y ∈ x' :: L.eraseIdx n := fun y hy => by
  obtain ⟨m, hm⟩ := List.getElem?_of_mem hy
  by_cases e : n = m
  · subst e
    rw [List.getElem?_set_self (List.getElem?_eq_some_iff.mp h).1] at hm
    cases hm
    exact List.mem_cons_self
  · rw [List.getElem?_set_ne e] at hm
    exact List.mem_cons_of_mem _ (List.mem_eraseIdx_iff_getElem?.mpr ⟨m, Ne.symm e, hm⟩)
theorem set_keys {x x' : Cell} {n : Nat} (h : L[n]? = some x) (hp : x'.p = x.p) : (L.set n x').map (·.p) = L.map (·.p) := by
  rw [List.map_set, hp]
  refine List.ext_getElem? fun j => ?_
  by_cases hij : n = j
  · subst hij
    have hl : n < (L.map (·.p)).length := by rw [List.length_map]; exact (List.getElem?_eq_some_iff.mp h).1
    rw [List.getElem?_set_self hl, List.getElem?_map, h]; rfl
  · rw [List.getElem?_set_ne hij]
/-- a def that changes the one at n -/
theorem ev_callC {C : List Arg → List Cell → Arg → List Cell → Prop} {E : XK} {as : List Arg} {a : α} (n : Nat) {x x' : Cell} (ha : EA K M tA σ B L as L1) (hx : L1[n]? = some x) (h : C as [x] ⟨r, a⟩ [x']) (hp : x'.p = x.p) : EV K M (tCall (spV K M.T C) [] E tA) σ B L r a (L1.set n x') := fun B1 H e w Q q =>
  ha B1 H e w _ fun vs B2 H2 e2 w2 hv => by
    show spV K M.T C (vs ++ []) H2 Q E
    rw [List.append_nil]
    have nd := w2.nd
    have hn := erase_mem nd hx
    have sub : ∀ y ∈ L1.eraseIdx n, y ∈ L1 := fun y hy => List.mem_of_mem_eraseIdx hy
    refine ⟨B2, absorb M (L1.eraseIdx n) H2, [x], as, ⟨r, a⟩, [x'], rfl, w2.lend (L1 := [x]) (L2 := L1.eraseIdx n) (fun y h => by rw [List.mem_singleton.mp h]; exact List.mem_of_getElem? hx) sub nodup_one (fun y h => by rw [List.mem_singleton.mp h]; exact hn), hv, h, fun v B' H' e3 w3 hr => ?_⟩
    have w4 : Own K B' M ([x'] ++ L1.eraseIdx n) H' := w2.back (L1' := [x']) sub (nd.sublist ((List.eraseIdx_sublist L1 n).map _)) e3 w3 (fun y h => by rw [List.mem_singleton.mp h, hp]; exact hn)
    exact q v B' H' (e2.trans e3) (w4.perm (set_perm hx) (by rw [set_keys hx hp]; exact nd)) hr

/-! ### statements -/
variable {D : Ends} {tz t1 t2 : TS} {H : Hp}
theorem q_asg {n : Nat} {a : α} (w : Own K B M L H) (h : EV K M te σ B L r a L') (q : ∀ v B' H', Ex B B' → Own K B' M L' H' → r.is K B' v a → tz D (σ.set n (some v)) H') : tSeq (tAsg te (gName n)) tz D σ H := h B H (Ex.refl _) w _ q
theorem q_asgL {n : Nat} {as : List α} (w : Own K B M L H) (h : EVL K M te σ B L r as L') (q : ∀ p B' H', Ex B B' → Own K B' M (⟨p, cLst r, as⟩ :: L') H' → tz D (σ.set n (some (.ref p))) H') : tSeq (tAsg te (gName n)) tz D σ H := h B H (Ex.refl _) w _ q
theorem q_drop {a : α} (w : Own K B M L H) (h : EV K M te σ B L r a L') (q : ∀ B' H', Ex B B' → Own K B' M L' H' → tz D σ H') : tSeq (tDrop te) tz D σ H := h B H (Ex.refl _) w _ fun _ B' H' e w' _ => q B' H' e w'
theorem q_ret {a : α} (w : Own K B M L H) (h : EV K M te σ B L r a L') (q : ∀ v B' H', Ex B B' → Own K B' M L' H' → r.is K B' v a → D.rt v H') : tSeq (tRet te) tz D σ H := h B H (Ex.refl _) w _ q
theorem q_retN (w : Own K B M L H) (q : D.rt .non H) : tSeq tRetN tz D σ H := q
/-- a list of ours goes out -/
theorem q_retC {n m : Nat} {p : Addr} {as : List α} (w : Own K B M L H) (hs : σ[m]? = some (some (.ref p))) (hc : L[n]? = some ⟨p, cLst r, as⟩) (q : ∀ v B', Ex B B' → Own K B' M (L.eraseIdx n) H → (rLst r).is K B' v as → D.rt v H) : tSeq (tRet (tVar m)) tz D σ H := by
  obtain ⟨o, h1, ⟨xs, h2, h3⟩, h4, w'⟩ := w.freeze hc
  have h4 : B p = none := h4
  refine ⟨_, hs, q _ _ (Ex.new h4) w' ⟨p, xs, rfl, ?_, paired_mono (Ex.new h4) h3⟩⟩
  show upd B p o p = _
  rw [upd_same, h2]
theorem q_if (w : Own K B M L H) (h : ET K M tt σ B L b L') (h1 : b = true → ∀ B' H', Ex B B' → Own K B' M L' H' → t1 { D with nx := tz D } σ H') (h2 : b = false → ∀ B' H', Ex B B' → Own K B' M L' H' → t2 { D with nx := tz D } σ H') : tSeq (tIfS tt t1 t2) tz D σ H :=
  h B H (Ex.refl _) w _ fun B' H' e w' => by
    cases b with
    | true => exact h1 rfl B' H' e w'
    | false => exact h2 rfl B' H' e w'
theorem q_ifc (w : Own K B M L H) (h : ET K M tt σ B L b L') (h1 : b = true → ∀ B' H', Ex B B' → Own K B' M L' H' → t1 D σ H') (h2 : b = false → ∀ B' H', Ex B B' → Own K B' M L' H' → t2 D σ H') : tIfS tt t1 t2 D σ H :=
  h B H (Ex.refl _) w _ fun B' H' e w' => by
    cases b with
    | true => exact h1 rfl B' H' e w'
    | false => exact h2 rfl B' H' e w'
theorem q_cut {t : TS} (Mid : St → Hp → Prop) (h : t { D with nx := Mid } σ H) (k : ∀ σ' H', Mid σ' H' → tz D σ' H') : Evl.tCut t tz D σ H := ⟨Mid, h, k⟩
theorem q_app {n m : Nat} {p : Addr} {as : List α} {a : α} (w : Own K B M L H) (hs : σ[m]? = some (some (.ref p))) (h : EV K M te σ B L r a L') (hc : L'[n]? = some ⟨p, cLst r, as⟩) (hc0 : ∃ n0 : Nat, ∃ a0 : List α, L[n0]? = some ⟨p, cLst r, a0⟩) (hr : room as.length = some ())
    (q : ∀ B' H', Ex B B' → Own K B' M (L'.set n ⟨p, cLst r, as ++ [a]⟩) H' → tz D σ H') : tSeq (tDrop (tBM K "list" rAppend (tVar m) (tCons te tNil))) tz D σ H := by
  obtain ⟨n0, a0, hc0⟩ := hc0
  obtain ⟨⟨o, h1, ys, h2, h3⟩, _⟩ := w.at hc0
  have h1 : H p = some o := h1
  refine ⟨_, hs, .inl ⟨rfl, _, sq_of (xs := ys) (by rw [h1, h2])⟩, h B H (Ex.refl _) w _ fun v B' H' e w' hv => ?_⟩
  obtain ⟨⟨o', g1, xs, g2, g3⟩, _⟩ := w'.at hc
  have g1 : H' p = some o' := g1
  exact ⟨p, xs, v, rfl, rfl, by rw [g1, g2], by rw [paired_len g3]; exact room_some hr, q B' _ e (w'.set hc ⟨_, rfl, paired_app g3 (.cons hv .nil)⟩)⟩
/-- l[i] = e -/
theorem q_setC {n m : Nat} {p : Addr} {as : List α} {a : α} {l : Nat} (w : Own K B M L H) (h : EV K M te σ B L r a L1) (hs : σ[m]? = some (some (.ref p))) (hb : EV K M tb σ B L1 rInt i L2) (hc : L2[n]? = some ⟨p, cLst r, as⟩) (hi : ixN as.length i = some l)
    (q : ∀ B' H', Ex B B' → Own K B' M (L2.set n ⟨p, cLst r, as.set l a⟩) H' → tz D σ H') : tSeq (tAsg te (gSub (tVar m) tb rSetL)) tz D σ H :=
  h B H (Ex.refl _) w _ fun v B1 H1 e1 w1 hv => ⟨_, hs, hb B1 H1 e1 w1 _ fun y B2 H2 e2 w2 hy => by
    obtain ⟨⟨o', g1, xs, g2, g3⟩, _⟩ := w2.at hc
    have g1 : H2 p = some o' := g1
    refine ⟨p, xs, i, l, rfl, hy, by rw [g1, g2], by rw [paired_len g3]; exact hi, q B2 _ (e1.trans e2) (w2.set hc ⟨_, rfl, paired_set (r.mono e2 hv) l g3⟩)⟩⟩
/-- l[1] = e of a list [u, v] -/
theorem q_set1 {n m : Nat} {p : Addr} {a : α × β} {x : β} (w : Own K B M L H) (h : EV K M te σ B L s x L1) (hs : σ[m]? = some (some (.ref p))) (hc : L1[n]? = some ⟨p, cL2 r s, a⟩)
    (q : ∀ B' H', Ex B B' → Own K B' M (L1.set n ⟨p, cL2 r s, (a.1, x)⟩) H' → tz D σ H') : tSeq (tAsg te (gSub (tVar m) (tC (.int 1)) rSetL)) tz D σ H :=
  h B H (Ex.refl _) w _ fun v B1 H1 e1 w1 hv => ⟨_, hs, by
    obtain ⟨⟨o', g1, x0, x1, g2, g3, g4⟩, _⟩ := w1.at hc
    have g1 : H1 p = some o' := g1
    exact ⟨p, [x0, x1], 1, 1, rfl, rfl, by rw [g1, g2], rfl, q B1 _ e1 (w1.set hc ⟨x0, v, rfl, g3, hv⟩)⟩⟩
theorem ev_l2fst {n m : Nat} {p : Addr} {a : α × β} (hs : σ[m]? = some (some (.ref p))) (hc : L[n]? = some ⟨p, cL2 r s, a⟩) : EV K M (tOp (rIx K) (tVar m) (tC (.int 0))) σ B L r a.1 L := fun B1 H e w Q q => by
  obtain ⟨⟨o', g1, x0, x1, g2, g3, g4⟩, _⟩ := w.at hc
  have g1 : H p = some o' := g1
  exact ⟨_, hs, .inl ⟨p, [x0, x1], 0, x0, rfl, rfl, sq_of (by rw [g1, g2]), rfl, q _ B1 H (Ex.refl _) w g3⟩⟩
theorem ev_l2snd {n m : Nat} {p : Addr} {a : α × β} (hs : σ[m]? = some (some (.ref p))) (hc : L[n]? = some ⟨p, cL2 r s, a⟩) : EV K M (tOp (rIx K) (tVar m) (tC (.int 1))) σ B L s a.2 L := fun B1 H e w Q q => by
  obtain ⟨⟨o', g1, x0, x1, g2, g3, g4⟩, _⟩ := w.at hc
  have g1 : H p = some o' := g1
  exact ⟨_, hs, .inl ⟨p, [x0, x1], 1, x1, rfl, rfl, sq_of (by rw [g1, g2]), rfl, q _ B1 H (Ex.refl _) w g4⟩⟩
/-- a new list [u, v] -/
theorem q_asgL2 {n : Nat} {a : α} {b : β} (w : Own K B M L H) (h : EA K M tA σ B L [⟨r, a⟩, ⟨s, b⟩] L') (q : ∀ p B' H', Ex B B' → Own K B' M (⟨p, cL2 r s, (a, b)⟩ :: L') H' → tz D (σ.set n (some (.ref p))) H') : tSeq (tAsg (tLst tA) (gName n)) tz D σ H :=
  h B H (Ex.refl _) w _ fun vs B' H' e w' hv => by
    match vs, hv with
    | [_, _], ⟨h1, h2, _⟩ => exact ⟨by show 2 ≤ sizeLine; decide, fun p hp => q p B' _ e (w'.new hp ⟨_, _, rfl, h1, h2⟩)⟩
theorem q_par {n m : Nat} {a : α} {b : β} (w : Own K B M L H) (h : EA K M tA σ B L [⟨r, a⟩, ⟨s, b⟩] L') (q : ∀ u v B' H', Ex B B' → Own K B' M L' H' → r.is K B' u a → s.is K B' v b → tz D ((σ.set n (some u)).set m (some v)) H') : tSeq (tPar n m tA) tz D σ H :=
  h B H (Ex.refl _) w _ fun vs B' H' e w' hv => by
    match vs, hv with
    | [_, _], ⟨h1, h2, _⟩ => exact ⟨_, _, rfl, q _ _ B' H' e w' h1 h2⟩

/-! ### loops -/
inductive Stp (S R : Type) where
  | nx (s : S)
  | bk (s : S)
  | rt (r : R)
def loopM {S R α : Type} (f : S → α → Option (Stp S R)) : S → List α → Option (Stp S R)
  | s, [] => some (.nx s)
  | s, x :: xs => match f s x with
    | some (.nx s') => loopM f s' xs
    | o => o
def foldO {S α : Type} (f : S → α → Option S) : S → List α → Option S
  | s, [] => some s
  | s, x :: xs => match f s x with
    | some s' => foldO f s' xs
    | none => none
theorem loop_fold {S R α : Type} (f : S → α → Option S) : ∀ (xs : List α) (s : S), loopM (R := R) (fun s x => (f s x).map Stp.nx) s xs = (foldO f s xs).map Stp.nx
  | [], _ => rfl
  | x :: xs, s => by
    unfold loopM foldO
    cases f s x with
    | none => rfl
    | some s' => exact loop_fold f xs s'
/-- what is walked: xs, item by item, whatever is ours -/
structure Wk (K : Fg) (M : Fr) (J : It) (B : Hp) (r : Rep α) (xs : List α) : Prop where
  go : ∀ (i : Nat) a B' L' H', Ex B B' → Own K B' M L' H' → xs[i]? = some a → J.go i H' ∧ ∀ x H2, J.yld i H' x H2 → ∃ B2, Ex B' B2 ∧ Own K B2 M L' H2 ∧ r.is K B2 x a
  stop : ∀ B' L' H', Ex B B' → Own K B' M L' H' → J.stop xs.length H'
def EI (K : Fg) (M : Fr) (wi : TI) (σ : St) (B : Hp) (L : List Cell) (r : Rep α) (xs : List α) (L' : List Cell) : Prop :=
  ∀ B1 H, Ex B B1 → Own K B1 M L H → ∀ R : It → Hp → Prop, (∀ J B2 H2, Ex B1 B2 → Own K B2 M L' H2 → Wk K M J B2 r xs → R J H2) → wi σ H R
theorem ei_tup {xs : List α} (h : EV K M te σ B L (rTup r) xs L') : EI K M (iTup K te) σ B L r xs L' := fun B1 H e w R q => h B1 H e w _ fun v B2 H2 e2 w2 hv => by
  obtain ⟨p, vs, rfl, hs, hp⟩ := hv
  refine ⟨p, rfl, ⟨vs, ex_t w2.b hs⟩, q _ B2 H2 e2 w2 ⟨fun i a B' L' H' e' w' hi => ?_, fun B' L' H' e' w' => ⟨vs, ex_t (e'.trans w'.b) hs, by rw [paired_len hp]; exact Nat.le_refl _⟩⟩⟩
  obtain ⟨x, hx, hr⟩ := paired_get hp hi
  refine ⟨⟨vs, x, ex_t (e'.trans w'.b) hs, hx⟩, fun y H3 hy => ?_⟩
  obtain ⟨rfl, hy⟩ := hy
  have := hy vs (ex_t (e'.trans w'.b) hs)
  rw [hx] at this
  cases this
  exact ⟨B', Ex.refl _, w', r.mono e' hr⟩
theorem ei_scr {xs : List α} (h : EV K M te σ B L (rScr r) xs L') : EI K M (iList K te) σ B L r xs L' := fun B1 H e w R q => h B1 H e w _ fun v B2 H2 e2 w2 hv => by
  obtain ⟨p, vs, rfl, hs, hp⟩ := hv
  refine ⟨p, rfl, ⟨vs, ex_l w2.b hs⟩, q _ B2 H2 e2 w2 ⟨fun i a B' L' H' e' w' hi => ?_, fun B' L' H' e' w' => ⟨vs, ex_l (e'.trans w'.b) hs, by rw [paired_len hp]; exact Nat.le_refl _⟩⟩⟩
  obtain ⟨x, hx, hr⟩ := paired_get hp hi
  refine ⟨⟨vs, x, ex_l (e'.trans w'.b) hs, hx⟩, fun y H3 hy => ?_⟩
  obtain ⟨rfl, hy⟩ := hy
  have := hy vs (ex_l (e'.trans w'.b) hs)
  rw [hx] at this
  cases this
  exact ⟨B', Ex.refl _, w', r.mono e' hr⟩
theorem ei_lst {xs : List α} (h : EV K M te σ B L (rLst r) xs L') : EI K M (iList K te) σ B L r xs L' := ei_scr (ev_scr h)
/-- lo, lo + 1, .. below hi -/
def rng (lo hi : Int) : List Int := (List.range (hi - lo).toNat).map fun (k : Nat) => lo + (k : Int)
theorem rng_len (lo hi : Int) : (rng lo hi).length = (hi - lo).toNat := by simp [rng]
theorem rng_get {lo hi : Int} {i : Nat} {a : Int} (h : (rng lo hi)[i]? = some a) : i < (hi - lo).toNat ∧ a = lo + (i : Int) := by
  unfold rng at h
  rw [List.getElem?_map] at h
  cases e : (List.range (hi - lo).toNat)[i]? with
  | none => rw [e] at h; cases h
  | some k =>
    rw [e] at h
    obtain ⟨h1, h2⟩ := List.getElem?_eq_some_iff.mp e
    rw [List.getElem_range] at h2
    rw [List.length_range] at h1
    subst h2
    exact ⟨h1, (Option.some.inj h).symm⟩
def small62 (i : Int) : Option Unit := if -(2 ^ 62) ≤ i ∧ i < 2 ^ 62 then some () else none
theorem small62_some {u : Unit} (h : small62 i = some u) : -(2 ^ 62) ≤ i ∧ i < 2 ^ 62 := by
  unfold small62 at h
  split at h
  · assumption
  · cases h
theorem wk_rng {lo hi : Int} : Wk K M (Itr lo (hi - lo).toNat) B rInt (rng lo hi) :=
  ⟨fun i a B' L' H' e' w' hi => by
    obtain ⟨h1, rfl⟩ := rng_get hi
    exact ⟨h1, fun x H2 hy => ⟨B', Ex.refl _, by rw [hy.1]; exact w', hy.2⟩⟩, fun B' L' H' e' w' => by rw [rng_len]; exact Nat.le_refl _⟩
theorem ei_rng1 (h : EA K M tA σ B L [⟨rInt, j⟩] L') (hj : small62 j = some ()) : EI K M (iRng1 tA) σ B L rInt (rng 0 j) L' := fun B1 H e w R q => h B1 H e w _ fun vs B2 H2 e2 w2 hv => by
  match vs, hv with
  | [_], ⟨h1, _⟩ =>
    refine ⟨j, by rw [show _ = V.int j from h1], (small62_some hj).1, (small62_some hj).2, q _ B2 H2 e2 w2 ?_⟩
    have := wk_rng (K := K) (M := M) (B := B2) (lo := 0) (hi := j)
    rw [show j - 0 = j by omega] at this
    exact this
theorem ei_rng2 (h : EA K M tA σ B L [⟨rInt, i⟩, ⟨rInt, j⟩] L') (hi : small62 i = some ()) (hj : small62 j = some ()) : EI K M (iRng2 tA) σ B L rInt (rng i j) L' := fun B1 H e w R q => h B1 H e w _ fun vs B2 H2 e2 w2 hv => by
  match vs, hv with
  | [_, _], ⟨h1, h2, _⟩ => exact ⟨i, j, by rw [show _ = V.int i from h1, show _ = V.int j from h2], ⟨(small62_some hi).1, (small62_some hi).2, (small62_some hj).1, (small62_some hj).2⟩, q _ B2 H2 e2 w2 wk_rng⟩

theorem loopM_drop {S R : Type} {f : S → α → Option (Stp S R)} {s s' : S} {xs : List α} {i : Nat} {a : α} (h : xs[i]? = some a) : loopM f s (xs.drop i) = (match f s a with | some (.nx s') => loopM f s' (xs.drop (i + 1)) | o => o) := by
  obtain ⟨h1, h2⟩ := List.getElem?_eq_some_iff.mp h
  rw [List.drop_eq_getElem_cons h1, h2]
  rfl
theorem q_for {S R : Type} {wi : TI} {g : TG} {tb : TS} {xs : List α} (w : Own K B M L H) (hi : EI K M wi σ B L r xs L1) (f : S → α → Option (Stp S R)) (P : S → Hp → St → Prop) (Lf : S → List Cell) (s0 : S) {o : Stp S R} (hm : loopM f s0 xs = some o)
    (h0 : ∀ B', Ex B B' → P s0 B' σ) (hL : Lf s0 = L1)
    (hs : ∀ s x st v B0 B' H' σ', f s x = some st → Ex B B0 → P s B0 σ' → Ex B0 B' → Own K B' M (Lf s) H' → r.is K B' v x → (∀ q, st = .rt q → o = .rt q) → ∀ (N : St → Hp → Prop) (BK : St → Hp → Prop),
      (∀ s3 B3 H3 σ3, st = .nx s3 → Ex B' B3 → Own K B3 M (Lf s3) H3 → P s3 B3 σ3 → N σ3 H3) → (∀ s3 B3 H3 σ3, st = .bk s3 → Ex B' B3 → Own K B3 M (Lf s3) H3 → P s3 B3 σ3 → BK σ3 H3) →
      g v σ' H' fun σ2 H2 => tb { D with nx := N, ct := N, bk := BK } σ2 H2)
    (hd : ∀ s B' H' σ', (o = .nx s ∨ o = .bk s) → Ex B B' → Own K B' M (Lf s) H' → P s B' σ' → tz D σ' H') : tSeq (tFor wi g tb) tz D σ H :=
  hi B H (Ex.refl _) w _ fun J B1 H1 e1 w1 k => by
    refine ⟨fun i m σ' H' => m = xs.length - i ∧ i ≤ xs.length ∧ ∃ s B', Ex B1 B' ∧ Own K B' M (Lf s) H' ∧ P s B' σ' ∧ loopM f s (xs.drop i) = some o, ⟨xs.length, by simp, Nat.zero_le _, s0, B1, Ex.refl _, by rw [hL]; exact w1, h0 B1 e1, hm⟩, ?_⟩
    rintro i m σ' H' ⟨rfl, hle, s, B', e', w', hP, hl⟩
    by_cases hlt : i < xs.length
    · right
      obtain ⟨a, ha⟩ : ∃ a, xs[i]? = some a := ⟨xs[i], List.getElem?_eq_getElem hlt⟩
      obtain ⟨hgo, hy⟩ := k.go i a B' _ H' e' w' ha
      rw [loopM_drop (s' := s) ha] at hl
      cases hst : f s a with
      | none => rw [hst] at hl; cases hl
      | some st =>
        rw [hst] at hl
        refine ⟨hgo, fun σ3 H3 => ∃ s3 B3, st = .nx s3 ∧ Ex B1 B3 ∧ Own K B3 M (Lf s3) H3 ∧ P s3 B3 σ3, fun σ3 H3 ⟨s3, B3, e3, a1, a2, a3⟩ => ?_, fun x H2 hy2 => ?_⟩
        · subst e3
          exact ⟨_, (by omega : xs.length - (i + 1) < xs.length - i), rfl, hlt, s3, B3, a1, a2, a3, hl⟩
        · obtain ⟨B2, e2, w2, hr⟩ := hy x H2 hy2
          refine hs s a st x B' B2 H2 σ' hst (e1.trans e') hP e2 w2 hr (fun q e => by rw [e] at hl; exact (Option.some.inj hl).symm) _ _ (fun s3 B3 H3 σ3 e3 e4 w3 p3 => ⟨s3, B3, e3, (e'.trans e2).trans e4, w3, p3⟩) (fun s3 B3 H3 σ3 e3 e4 w3 p3 => ?_)
          rw [e3] at hl
          exact hd s3 B3 H3 σ3 (.inr (Option.some.inj hl).symm) (((e1.trans e').trans e2).trans e4) w3 p3
    · left
      have : i = xs.length := by omega
      subst this
      rw [List.drop_length] at hl
      have ho : o = .nx s := (Option.some.inj hl).symm
      exact ⟨k.stop B' _ H' e' w', hd s B' H' σ' (.inl ho) (e1.trans e') w' hP⟩
end
end L3

namespace L3
open PySem L2
open Evl (Ex ex_rd ex_l ex_t sq_of st_of fresh_back)

theorem args1 {K : Fg} {B : Hp} {vs : List V} {x : Arg} (h : ArgsIs K B vs [x]) : ∃ u, vs = [u] ∧ x.is K B u := by
  match vs, h with
  | [_], ⟨h1, _⟩ => exact ⟨_, rfl, h1⟩
theorem args2 {K : Fg} {B : Hp} {vs : List V} {x y : Arg} (h : ArgsIs K B vs [x, y]) : ∃ u v, vs = [u, v] ∧ x.is K B u ∧ y.is K B v := by
  match vs, h with
  | [_, _], ⟨h1, h2, _⟩ => exact ⟨_, _, rfl, h1, h2⟩
theorem args3 {K : Fg} {B : Hp} {vs : List V} {x y z : Arg} (h : ArgsIs K B vs [x, y, z]) : ∃ u v w, vs = [u, v, w] ∧ x.is K B u ∧ y.is K B v ∧ z.is K B w := by
  match vs, h with
  | [_, _, _], ⟨h1, h2, h3, _⟩ => exact ⟨_, _, _, rfl, h1, h2, h3⟩
theorem args4 {K : Fg} {B : Hp} {vs : List V} {x y z a : Arg} (h : ArgsIs K B vs [x, y, z, a]) : ∃ u v w t, vs = [u, v, w, t] ∧ x.is K B u ∧ y.is K B v ∧ z.is K B w ∧ a.is K B t := by
  match vs, h with
  | [_, _, _, _], ⟨h1, h2, h3, h4, _⟩ => exact ⟨_, _, _, _, rfl, h1, h2, h3, h4⟩
theorem args5 {K : Fg} {B : Hp} {vs : List V} {x y z a b : Arg} (h : ArgsIs K B vs [x, y, z, a, b]) : ∃ u v w t s, vs = [u, v, w, t, s] ∧ x.is K B u ∧ y.is K B v ∧ z.is K B w ∧ a.is K B t ∧ b.is K B s := by
  match vs, h with
  | [_, _, _, _, _], ⟨h1, h2, h3, h4, h5, _⟩ => exact ⟨_, _, _, _, _, rfl, h1, h2, h3, h4, h5⟩
theorem args6 {K : Fg} {B : Hp} {vs : List V} {x y z a b c : Arg} (h : ArgsIs K B vs [x, y, z, a, b, c]) : ∃ u v w t s r, vs = [u, v, w, t, s, r] ∧ x.is K B u ∧ y.is K B v ∧ z.is K B w ∧ a.is K B t ∧ b.is K B s ∧ c.is K B r := by
  match vs, h with
  | [_, _, _, _, _, _], ⟨h1, h2, h3, h4, h5, h6, _⟩ => exact ⟨_, _, _, _, _, _, rfl, h1, h2, h3, h4, h5, h6⟩
/-- a constant of the module -/
structure GV (K : Fg) (mg : Str → Option Value) (x : Str) {α : Type} (r : Rep α) (a : α) : Prop where
  ex : ∃ (u : Value) (v : V), mg x = some u ∧ RelV v u ∧ ∀ B, r.is K B v a
def absI (i : Int) : Int := if i < 0 then -i else i
def gcdI (i j : Int) : Int := ((Nat.gcd i.natAbs j.natAbs : Nat) : Int)
def ixO (n : Nat) (i : Int) : Option Nat := ixN n i

section
variable {K : Fg} {M : Fr} {σ : St} {B : Hp} {L L1 L2 L' : List Cell} {α β γ δ : Type} {r : Rep α} {s : Rep β} {t : Rep γ} {ta tb tc te : TE} {tt tu : TT} {tA : TA} {i j k : Int} {b c : Bool}
theorem ev_add (ha : EV K M ta σ B L rInt i L1) (hb : EV K M tb σ B L1 rInt j L2) : EV K M (tOp (rI0 fun i j => .int (i + j)) ta tb) σ B L rInt (i + j) L2 := ev_I0 (g := fun i j => i + j) ha hb
theorem ev_sub (ha : EV K M ta σ B L rInt i L1) (hb : EV K M tb σ B L1 rInt j L2) : EV K M (tOp (rI0 fun i j => .int (i - j)) ta tb) σ B L rInt (i - j) L2 := ev_I0 (g := fun i j => i - j) ha hb
theorem ev_bitand (ha : EV K M ta σ B L rInt i L1) (hb : EV K M tb σ B L1 rInt j L2) : EV K M (tOp (rI0 fun i j => .int (Builtin.bitAnd i j)) ta tb) σ B L rInt (Builtin.bitAnd i j) L2 := ev_I0 (g := fun i j => Builtin.bitAnd i j) ha hb
abbrev rLt : R2 := rI0 fun i j => .bl (decide (i < j))
abbrev rLe : R2 := rI0 fun i j => .bl (decide (i ≤ j))
abbrev rGt : R2 := rI0 fun i j => .bl (decide (j < i))
abbrev rGe : R2 := rI0 fun i j => .bl (decide (j ≤ i))
theorem ev_lt (ha : EV K M ta σ B L rInt i L1) (hb : EV K M tb σ B L1 rInt j L2) : EV K M (tOp rLt ta tb) σ B L rBool (decide (i < j)) L2 := ev_B0 (g := fun i j => decide (i < j)) ha hb
theorem ev_le (ha : EV K M ta σ B L rInt i L1) (hb : EV K M tb σ B L1 rInt j L2) : EV K M (tOp rLe ta tb) σ B L rBool (decide (i ≤ j)) L2 := ev_B0 (g := fun i j => decide (i ≤ j)) ha hb
theorem ev_gt (ha : EV K M ta σ B L rInt i L1) (hb : EV K M tb σ B L1 rInt j L2) : EV K M (tOp rGt ta tb) σ B L rBool (decide (i > j)) L2 := ev_B0 (g := fun i j => decide (j < i)) ha hb
theorem ev_ge (ha : EV K M ta σ B L rInt i L1) (hb : EV K M tb σ B L1 rInt j L2) : EV K M (tOp rGe ta tb) σ B L rBool (decide (i ≥ j)) L2 := ev_B0 (g := fun i j => decide (j ≤ i)) ha hb
theorem ev_ch {g g' : Int → Int → Bool} (ha : EV K M ta σ B L rInt i L1) (hb : EV K M tb σ B L1 rInt j L2) (hc : EV K M tc σ B L2 rInt k L2) : EV K M (tChain (rI0 fun i j => .bl (g i j)) (rI0 fun i j => .bl (g' i j)) ta tb tc) σ B L rBool (g i j && g' j k) L2 := fun B1 H e w Q q =>
  ha B1 H e w _ fun x B2 H2 e2 w2 hx => hb B2 H2 (e.trans e2) w2 _ fun y B3 H3 e3 w3 hy => ⟨i, j, hx, hy, g i j, rfl, by
    cases hg : g i j with
    | true => exact hc B3 H3 ((e.trans e2).trans e3) w3 _ fun z B4 H4 e4 w4 hz => ⟨j, k, hy, hz, q _ B4 H4 ((e2.trans e3).trans e4) w4 (by show V.bl _ = V.bl _; rw [hg]; rfl)⟩
    | false => exact q _ B3 H3 (e2.trans e3) w3 (by show V.bl _ = V.bl _; rw [hg]; rfl)⟩
theorem ev_ch_lt_lt (ha : EV K M ta σ B L rInt i L1) (hb : EV K M tb σ B L1 rInt j L2) (hc : EV K M tc σ B L2 rInt k L2) : EV K M (tChain rLt rLt ta tb tc) σ B L rBool (decide (i < j) && decide (j < k)) L2 := ev_ch (g := fun i j => decide (i < j)) (g' := fun i j => decide (i < j)) ha hb hc
theorem ev_ch_le_lt (ha : EV K M ta σ B L rInt i L1) (hb : EV K M tb σ B L1 rInt j L2) (hc : EV K M tc σ B L2 rInt k L2) : EV K M (tChain rLe rLt ta tb tc) σ B L rBool (decide (i ≤ j) && decide (j < k)) L2 := ev_ch (g := fun i j => decide (i ≤ j)) (g' := fun i j => decide (i < j)) ha hb hc
theorem ev_ch_lt_le (ha : EV K M ta σ B L rInt i L1) (hb : EV K M tb σ B L1 rInt j L2) (hc : EV K M tc σ B L2 rInt k L2) : EV K M (tChain rLt rLe ta tb tc) σ B L rBool (decide (i < j) && decide (j ≤ k)) L2 := ev_ch (g := fun i j => decide (i < j)) (g' := fun i j => decide (i ≤ j)) ha hb hc
theorem ev_ch_le_le (ha : EV K M ta σ B L rInt i L1) (hb : EV K M tb σ B L1 rInt j L2) (hc : EV K M tc σ B L2 rInt k L2) : EV K M (tChain rLe rLe ta tb tc) σ B L rBool (decide (i ≤ j) && decide (j ≤ k)) L2 := ev_ch (g := fun i j => decide (i ≤ j)) (g' := fun i j => decide (i ≤ j)) ha hb hc
theorem ev_and0 {d : Bool} (h1 : EV K M ta σ B L rBool b L1) (h2 : b = true → EV K M tb σ B L1 rBool d L1) : EV K M (tAndV ta tb) σ B L rBool (b && d) L1 := fun B1 H e w Q q => h1 B1 H e w _ fun x B2 H2 e2 w2 hx => ⟨b, hx, by
  cases b with
  | true => exact h2 rfl B2 H2 (e.trans e2) w2 Q fun v B3 H3 e3 w3 hv => q v B3 H3 (e2.trans e3) w3 hv
  | false => exact q _ B2 H2 e2 w2 rfl⟩
theorem ev_or0 {d : Bool} (h1 : EV K M ta σ B L rBool b L1) (h2 : b = false → EV K M tb σ B L1 rBool d L1) : EV K M (tOrV ta tb) σ B L rBool (b || d) L1 := fun B1 H e w Q q => h1 B1 H e w _ fun x B2 H2 e2 w2 hx => ⟨b, hx, by
  cases b with
  | true => exact q _ B2 H2 e2 w2 rfl
  | false => exact h2 rfl B2 H2 (e.trans e2) w2 Q fun v B3 H3 e3 w3 hv => q v B3 H3 (e2.trans e3) w3 hv⟩
/-! ### targets -/
variable {H : Hp} {Qs : St → Hp → Prop} {g : TG} {gs : TGs}
theorem g_T2 {a : α × β} {v : V} {gs : TGs} (h : (rT2 r s).is K B v a) (w : Own K B M L H) (q : ∀ x y, r.is K B x a.1 → s.is K B y a.2 → gs [x, y] σ H Qs) : gTup K 2 gs v σ H Qs := by
  obtain ⟨p, x, y, rfl, h1, h2, h3⟩ := h
  exact ⟨p, _, rfl, ex_t w.b h1, rfl, q x y h2 h3⟩
theorem g_T3 {a : α × β × γ} {v : V} {gs : TGs} (h : (rT3 r s t).is K B v a) (w : Own K B M L H) (q : ∀ x y z, r.is K B x a.1 → s.is K B y a.2.1 → t.is K B z a.2.2 → gs [x, y, z] σ H Qs) : gTup K 3 gs v σ H Qs := by
  obtain ⟨p, x, y, z, rfl, h1, h2, h3, h4⟩ := h
  exact ⟨p, _, rfl, ex_t w.b h1, rfl, q x y z h2 h3 h4⟩
theorem g_cons {v : V} {vs : List V} (h : g v σ H fun σ' H' => gs vs σ' H' Qs) : gCons g gs (v :: vs) σ H Qs := ⟨v, vs, rfl, h⟩
theorem g_name {n : Nat} {v : V} (h : Qs (σ.set n (some v)) H) : gName n v σ H Qs := h
theorem g_nil (h : Qs σ H) : gNil [] σ H Qs := ⟨rfl, h⟩
/-! ### more statements -/
variable {D : Ends} {tz t1 t2 : TS}
theorem q_aug {n : Nat} {v : V} {f : Int → Int → Int} (w : Own K B M L H) (hs : σ[n]? = some (some v)) (hv : v = .int i) (h : EV K M te σ B L rInt j L') (q : ∀ v B' H', Ex B B' → Own K B' M L' H' → rInt.is K B' v (f i j) → tz D (σ.set n (some v)) H') : tSeq (tAug n te (ipI f)) tz D σ H :=
  ⟨v, hs, h B H (Ex.refl _) w _ fun y B' H' e w' hy => ⟨i, j, hv, hy, q _ B' H' e w' rfl⟩⟩
theorem q_unp {a : α} (w : Own K B M L H) (h : EV K M te σ B L r a L') (q : ∀ v B' H', Ex B B' → Own K B' M L' H' → r.is K B' v a → g v σ H' (tz D)) : tSeq (tAsg te g) tz D σ H := h B H (Ex.refl _) w _ q
def Stp.out {S R : Type} : Stp S R → S ⊕ R
  | .nx s => .inl s
  | .bk s => .inl s
  | .rt q => .inr q
def Stp.st {S : Type} : Stp S Empty → S
  | .nx s => s
  | .bk s => s
  | .rt q => nomatch q
def loopR {S R α : Type} (f : S → α → Option (Stp S R)) (s : S) (xs : List α) : Option (S ⊕ R) := (loopM f s xs).map Stp.out
def loopB {S α : Type} (f : S → α → Option (Stp S Empty)) (s : S) (xs : List α) : Option S := (loopM f s xs).map Stp.st
theorem q_forR {S R : Type} {wi : TI} {g : TG} {tb : TS} {xs : List α} (w : Own K B M L H) (hi : EI K M wi σ B L r xs L1) (f : S → α → Option (Stp S R)) (P : S → Hp → St → Prop) (Lf : S → List Cell) (s0 : S) {o : S ⊕ R} (hm : loopR f s0 xs = some o)
    (h0 : ∀ B', Ex B B' → P s0 B' σ) (hL : Lf s0 = L1)
    (hs : ∀ s x st v B0 B' H' σ', f s x = some st → Ex B B0 → P s B0 σ' → Ex B0 B' → Own K B' M (Lf s) H' → r.is K B' v x → (∀ q, st = .rt q → o = .inr q) → ∀ (N : St → Hp → Prop) (BK : St → Hp → Prop),
      (∀ s3 B3 H3 σ3, st = .nx s3 → Ex B' B3 → Own K B3 M (Lf s3) H3 → P s3 B3 σ3 → N σ3 H3) → (∀ s3 B3 H3 σ3, st = .bk s3 → Ex B' B3 → Own K B3 M (Lf s3) H3 → P s3 B3 σ3 → BK σ3 H3) →
      g v σ' H' fun σ2 H2 => tb { D with nx := N, ct := N, bk := BK } σ2 H2)
    (hd : ∀ s B' H' σ', o = .inl s → Ex B B' → Own K B' M (Lf s) H' → P s B' σ' → tz D σ' H') : tSeq (tFor wi g tb) tz D σ H := by
  unfold loopR at hm
  cases h : loopM f s0 xs with
  | none => rw [h] at hm; cases hm
  | some o' =>
    rw [h] at hm
    have hm : o'.out = o := Option.some.inj hm
    refine q_for w hi f P Lf s0 h h0 hL (fun s x st v B0 B' H' σ' a1 a2 a3 a4 a5 a6 a7 => hs s x st v B0 B' H' σ' a1 a2 a3 a4 a5 a6 fun q e => ?_) fun s B' H' σ' a1 => hd s B' H' σ' ?_
    · rw [← hm, a7 q e]; rfl
    · rcases a1 with rfl | rfl
      · exact hm.symm
      · exact hm.symm
theorem q_forB {S : Type} {wi : TI} {g : TG} {tb : TS} {xs : List α} (w : Own K B M L H) (hi : EI K M wi σ B L r xs L1) (f : S → α → Option (Stp S Empty)) (P : S → Hp → St → Prop) (Lf : S → List Cell) (s0 : S) {s1 : S} (hm : loopB f s0 xs = some s1)
    (h0 : ∀ B', Ex B B' → P s0 B' σ) (hL : Lf s0 = L1)
    (hs : ∀ s x st v B0 B' H' σ', f s x = some st → Ex B B0 → P s B0 σ' → Ex B0 B' → Own K B' M (Lf s) H' → r.is K B' v x → ∀ (N : St → Hp → Prop) (BK : St → Hp → Prop),
      (∀ s3 B3 H3 σ3, st = .nx s3 → Ex B' B3 → Own K B3 M (Lf s3) H3 → P s3 B3 σ3 → N σ3 H3) → (∀ s3 B3 H3 σ3, st = .bk s3 → Ex B' B3 → Own K B3 M (Lf s3) H3 → P s3 B3 σ3 → BK σ3 H3) →
      g v σ' H' fun σ2 H2 => tb { D with nx := N, ct := N, bk := BK } σ2 H2)
    (hd : ∀ B' H' σ', Ex B B' → Own K B' M (Lf s1) H' → P s1 B' σ' → tz D σ' H') : tSeq (tFor wi g tb) tz D σ H := by
  unfold loopB at hm
  cases h : loopM f s0 xs with
  | none => rw [h] at hm; cases hm
  | some o' =>
    rw [h] at hm
    have hm : o'.st = s1 := Option.some.inj hm
    refine q_for w hi f P Lf s0 h h0 hL (fun s x st v B0 B' H' σ' a1 a2 a3 a4 a5 a6 _ => hs s x st v B0 B' H' σ' a1 a2 a3 a4 a5 a6) fun s B' H' σ' a1 => ?_
    have e : s1 = s := by
      rcases a1 with rfl | rfl
      · exact hm.symm
      · exact hm.symm
    subst e
    exact hd B' H' σ'
theorem q_fold {S : Type} {wi : TI} {g : TG} {tb : TS} {xs : List α} (w : Own K B M L H) (hi : EI K M wi σ B L r xs L1) (f : S → α → Option S) (P : S → Hp → St → Prop) (Lf : S → List Cell) (s0 : S) {s1 : S} (hm : foldO f s0 xs = some s1)
    (h0 : ∀ B', Ex B B' → P s0 B' σ) (hL : Lf s0 = L1)
    (hs : ∀ s x s' v B0 B' H' σ', f s x = some s' → Ex B B0 → P s B0 σ' → Ex B0 B' → Own K B' M (Lf s) H' → r.is K B' v x → ∀ (N : St → Hp → Prop) (BK : St → Hp → Prop),
      (∀ B3 H3 σ3, Ex B' B3 → Own K B3 M (Lf s') H3 → P s' B3 σ3 → N σ3 H3) →
      g v σ' H' fun σ2 H2 => tb { D with nx := N, ct := N, bk := BK } σ2 H2)
    (hd : ∀ B' H' σ', Ex B B' → Own K B' M (Lf s1) H' → P s1 B' σ' → tz D σ' H') : tSeq (tFor wi g tb) tz D σ H := by
  have h := loop_fold (R := Empty) f xs s0
  rw [hm] at h
  refine q_for w hi _ P Lf s0 h h0 hL (fun s x st v B0 B' H' σ' a1 a2 a3 a4 a5 a6 _ N BK hN hB => ?_) fun s B' H' σ' a1 => ?_
  · cases e : f s x with
    | none => rw [e] at a1; cases a1
    | some s' =>
      rw [e] at a1
      have a1 : st = .nx s' := (Option.some.inj a1).symm
      exact hs s x s' v B0 B' H' σ' e a2 a3 a4 a5 a6 N BK fun B3 H3 σ3 => hN s' B3 H3 σ3 a1
  · have e : s1 = s := by
      rcases a1 with h | h
      · cases h; rfl
      · cases h
    subst e
    exact hd B' H' σ'
end
/-- a def that may be called by its name -/
structure Cl (P : Program) (w : World) (K : Fg) (mg : Str → Option Value) (base : Heap) (k : Nat) (x : Str) (sp : Sp) (dvs : List V) : Prop where
  ex : ∃ (f : Addr) (fd : FuncData) (ps : List Str) (ds : List Value), FnOk P w K mg base CX0 k f fd ps sp ∧ mg x = some (.ref f) ∧ PySem.W.keepIn K (.ref f) = true ∧ Binds K fd ps ds ∧ Vals dvs ds
theorem pe_c {X : Cx} {k j : Nat} {x : Str} {sp : Sp} {dvs : List V} {p pos : Pos} {e : Expr} {es : List Expr} {t : TA} (c : Cl X.prog X.w X.K X.mg X.base k x sp dvs) (hr : Room j X.A) (hk : k ≤ j) (hg : Gl X x) (ha : PA X (e :: es) t)
    (hdb : (x == ("__debug__" : Str)) = false := by decide) (he : starEach (e :: es) X.env = (false, eval e X.env) :: starEach es X.env := by rfl) (hpl : (backTo pos (starEach es X.env)).any (·.1) = false := by rfl) :
    PE X (.Call (.Name x p) (e :: es) [] pos) (tCall sp dvs E0 t) := by
  obtain ⟨f, fd, ps, ds, F, hm, kp, b, d⟩ := c.ex
  exact pe_call F (hr.mono hk) hg hm kp b d pass0 ha hdb he hpl
theorem bt_len : bootBuiltins "len" = some (.builtin "len") := by decide +kernel
theorem bt_abs : bootBuiltins "abs" = some (.builtin "abs") := by decide +kernel
theorem bt_int : bootBuiltins "int" = some (.type "int") := by decide +kernel
theorem bt_isinstance : bootBuiltins "isinstance" = some (.builtin "isinstance") := by decide +kernel
theorem bt_sum : bootBuiltins "sum" = some (.builtin "sum") := by decide +kernel
theorem bt_any : bootBuiltins "any" = some (.builtin "any") := by decide +kernel
theorem bt_all : bootBuiltins "all" = some (.builtin "all") := by decide +kernel
theorem bt_list : bootBuiltins "list" = some (.type "list") := by decide +kernel
theorem bt_bool : bootBuiltins "bool" = some (.type "bool") := by decide +kernel
theorem bt_tuple : bootBuiltins "tuple" = some (.type "tuple") := by decide +kernel
theorem bt_sorted : bootBuiltins "sorted" = some (.builtin "sorted") := by decide +kernel
theorem bt_set : bootBuiltins "set" = some (.type "set") := by decide +kernel
theorem bt_str : bootBuiltins "str" = some (.type "str") := by decide +kernel
theorem bt_max : bootBuiltins "max" = some (.builtin "max") := by decide +kernel
theorem bt_min : bootBuiltins "min" = some (.builtin "min") := by decide +kernel
theorem bt_enumerate : bootBuiltins "enumerate" = some (.type "enumerate") := by decide +kernel
theorem bt_zip : bootBuiltins "zip" = some (.type "zip") := by decide +kernel
theorem bt_dict : bootBuiltins "dict" = some (.type "dict") := by decide +kernel
theorem room_hu {A : Around} {k : Nat} (hr : Room k A) : A.units + 64 < cLine := hr.units
theorem nn_rInt {K : Fg} {B : Hp} {v : V} {x : Int} (h : rInt.is K B v x) : v ≠ .non := by
  have h : v = .int x := h
  subst h; intro e; cases e
end L3

namespace L3
open PySem L2
open Evl (Ex ex_rd ex_l ex_t sq_of st_of fresh_back)

/-! ### data of any form -/
theorem exl {K : Fg} {B B' : Hp} {a : Addr} {xs : List V} (e : Ex B B') (h : SqL K B a xs) : SqL K B' a xs := ex_l e h
mutual
theorem dp_mono {K : Fg} {B B' : Hp} (e : Ex B B') : ∀ {v : V} {d : PyData}, Dp K B v d → Dp K B' v d
  | _, _, .non => .non
  | _, _, .bl b => .bl b
  | _, _, .int i => .int i
  | _, _, .str x => .str x
  | _, _, .lst h t => .lst (ex_l e h) (dpAll_mono e t)
  | _, _, .tup h t => .tup (ex_t e h) (dpAll_mono e t)
theorem dpAll_mono {K : Fg} {B B' : Hp} (e : Ex B B') : ∀ {vs : List V} {ds : List PyData}, DpAll K B vs ds → DpAll K B' vs ds
  | _, _, .nil => .nil
  | _, _, .cons h t => .cons (dp_mono e h) (dpAll_mono e t)
end
def rDat : Rep PyData := ⟨fun K B v d => Dp K B v d, fun e h => dp_mono e h⟩
theorem dpAll_paired {K : Fg} {B : Hp} : ∀ {vs : List V} {ds : List PyData}, DpAll K B vs ds → Paired (rDat.is K B) vs ds
  | _, _, .nil => .nil
  | _, _, .cons h t => .cons h (dpAll_paired t)
theorem dpAll_of {K : Fg} {B : Hp} {α : Type} {r : Rep α} {f : α → PyData} (h : ∀ v a, r.is K B v a → Dp K B v (f a)) : ∀ {vs : List V} {as : List α}, Paired (r.is K B) vs as → DpAll K B vs (as.map f)
  | _, _, .nil => .nil
  | _, _, .cons r t => .cons (h _ _ r) (dpAll_of h t)
/-- typed data as data -/
structure DR {α : Type} (r : Rep α) (f : α → PyData) (n : Nat) : Prop where
  dp : ∀ K B v a, r.is K B v a → Dp K B v (f a)
  lay : ∀ a, (f a).canLay0 = true
  dep : ∀ a, (f a).depth ≤ n
  eqv : ∀ a b, PyData.eqv (f a) (f b) = true ↔ a = b
  inj : ∀ a b, f a = f b → a = b
theorem layAll {α : Type} {f : α → PyData} (h : ∀ a, (f a).canLay0 = true) : ∀ l : List α, PyData.canLayAll0 (l.map f) = true
  | [] => rfl
  | a :: l => by simp only [List.map_cons, PyData.canLayAll0, h a, layAll h l, Bool.and_self]
theorem depAll {α : Type} {f : α → PyData} {n : Nat} (h : ∀ a, (f a).depth ≤ n) : ∀ l : List α, PyData.depthAll (l.map f) ≤ n
  | [] => by simp [PyData.depthAll]
  | a :: l => by simp only [List.map_cons, PyData.depthAll]; have := h a; have := depAll h l; omega
theorem eqvAll {α : Type} {f : α → PyData} (h : ∀ a b, PyData.eqv (f a) (f b) = true ↔ a = b) : ∀ l m : List α, PyData.eqvAll (l.map f) (m.map f) = true ↔ l = m
  | [], [] => by simp [PyData.eqvAll]
  | [], b :: m => by simp [PyData.eqvAll]
  | a :: l, [] => by simp [PyData.eqvAll]
  | a :: l, b :: m => by simp only [List.map_cons, PyData.eqvAll, Bool.and_eq_true, h a b, eqvAll h l m, List.cons.injEq]
theorem map_inj {α β : Type} {f : α → β} (h : ∀ a b, f a = f b → a = b) : ∀ l m : List α, l.map f = m.map f → l = m
  | [], [], _ => rfl
  | [], _ :: _, e => by simp at e
  | _ :: _, [], e => by simp at e
  | a :: l, b :: m, e => by
    rw [List.map_cons, List.map_cons, List.cons.injEq] at e
    rw [h _ _ e.1, map_inj h l m e.2]
theorem dr_int : DR rInt PyData.int 1 := ⟨fun _ _ _ a h => by have h : _ = V.int a := h; subst h; exact .int a, fun _ => rfl, fun _ => by simp [PyData.depth], fun a b => by simp [PyData.eqv], fun a b h => by injection h⟩
theorem dr_bool : DR rBool PyData.bool 1 := ⟨fun _ _ _ a h => by have h : _ = V.bl a := h; subst h; exact .bl a, fun _ => rfl, fun _ => by simp [PyData.depth], fun a b => by simp [PyData.eqv], fun a b h => by injection h⟩
def dNon : Unit → PyData := fun _ => .none
theorem dr_non : DR rNon dNon 1 := ⟨fun _ _ _ a h => by have h : _ = V.non := h; subst h; exact .non, fun _ => rfl, fun _ => by simp [PyData.depth, dNon], fun a b => by simp [PyData.eqv, dNon], fun a b h => rfl⟩
def dTup {α : Type} (f : α → PyData) (l : List α) : PyData := .tuple (l.map f)
def dLst {α : Type} (f : α → PyData) (l : List α) : PyData := .list (l.map f)
def dT2 {α β : Type} (f : α → PyData) (g : β → PyData) (a : α × β) : PyData := .tuple [f a.1, g a.2]
def dT3 {α β γ : Type} (f : α → PyData) (g : β → PyData) (h : γ → PyData) (a : α × β × γ) : PyData := .tuple [f a.1, g a.2.1, h a.2.2]
def dOpt {α : Type} (f : α → PyData) : Option α → PyData
  | none => .none
  | some a => f a
section
variable {α β γ : Type} {r : Rep α} {s : Rep β} {t : Rep γ} {f : α → PyData} {g : β → PyData} {h : γ → PyData} {n m k : Nat}
theorem dr_tup (d : DR r f n) : DR (rTup r) (dTup f) (n + 1) := ⟨fun K B v a ⟨p, xs, h1, h2, h3⟩ => by subst h1; exact .tup h2 (dpAll_of (d.dp K B) h3), fun a => by simpa [dTup, PyData.canLay0] using layAll d.lay a,
  fun a => by have := depAll d.dep a; simp only [dTup, PyData.depth]; omega, fun a b => by simpa [dTup, PyData.eqv] using eqvAll d.eqv a b, fun a b e => by unfold dTup at e; injection e with e; exact map_inj d.inj a b e⟩
theorem dr_lst (d : DR r f n) : DR (rLst r) (dLst f) (n + 1) := ⟨fun K B v a ⟨p, xs, h1, h2, h3⟩ => by subst h1; exact .lst (sq_of h2) (dpAll_of (d.dp K B) h3), fun a => by simpa [dLst, PyData.canLay0] using layAll d.lay a,
  fun a => by have := depAll d.dep a; simp only [dLst, PyData.depth]; omega, fun a b => by simpa [dLst, PyData.eqv] using eqvAll d.eqv a b, fun a b e => by unfold dLst at e; injection e with e; exact map_inj d.inj a b e⟩
theorem dr_T2 (d : DR r f n) (e : DR s g m) : DR (rT2 r s) (dT2 f g) (max n m + 1) := ⟨fun K B v a ⟨p, x, y, h1, h2, h3, h4⟩ => by subst h1; exact .tup h2 (.cons (d.dp _ _ _ _ h3) (.cons (e.dp _ _ _ _ h4) .nil)),
  fun a => by simp [dT2, PyData.canLay0, PyData.canLayAll0, d.lay, e.lay], fun a => by have := d.dep a.1; have := e.dep a.2; simp only [dT2, PyData.depth, PyData.depthAll]; omega,
  fun a b => by simp only [dT2, PyData.eqv, PyData.eqvAll, Bool.and_true, Bool.and_eq_true, d.eqv, e.eqv]; exact ⟨fun ⟨x, y⟩ => Prod.ext x y, fun e => by rw [e]; exact ⟨rfl, rfl⟩⟩,
  fun a b q => by unfold dT2 at q; injection q with q; injection q with q1 q2; injection q2 with q2 _; exact Prod.ext (d.inj _ _ q1) (e.inj _ _ q2)⟩
theorem dr_T3 (d : DR r f n) (e : DR s g m) (c : DR t h k) : DR (rT3 r s t) (dT3 f g h) (max n (max m k) + 1) := ⟨fun K B v a ⟨p, x, y, z, h1, h2, h3, h4, h5⟩ => by subst h1; exact .tup h2 (.cons (d.dp _ _ _ _ h3) (.cons (e.dp _ _ _ _ h4) (.cons (c.dp _ _ _ _ h5) .nil))),
  fun a => by simp [dT3, PyData.canLay0, PyData.canLayAll0, d.lay, e.lay, c.lay], fun a => by have := d.dep a.1; have := e.dep a.2.1; have := c.dep a.2.2; simp only [dT3, PyData.depth, PyData.depthAll]; omega,
  fun a b => by simp only [dT3, PyData.eqv, PyData.eqvAll, Bool.and_true, Bool.and_eq_true, d.eqv, e.eqv, c.eqv]; exact ⟨fun ⟨x, y, z⟩ => Prod.ext x (Prod.ext y z), fun e => by rw [e]; exact ⟨rfl, rfl, rfl⟩⟩,
  fun a b q => by unfold dT3 at q; injection q with q; injection q with q1 q2; injection q2 with q2 q3; injection q3 with q3 _; exact Prod.ext (d.inj _ _ q1) (Prod.ext (e.inj _ _ q2) (c.inj _ _ q3))⟩
theorem DR.dec [DecidableEq α] (d : DR r f n) (a b : α) : PyData.eqv (f a) (f b) = decide (a = b) := by
  rw [Bool.eq_iff_iff, d.eqv, decide_eq_true_iff]
theorem DR.sh (d : DR r f n) (hn : n ≤ 64) (a : α) : SeqAt.shaped (f a) = true := by
  unfold SeqAt.shaped
  rw [d.lay a, decide_eq_true (Nat.le_trans (d.dep a) hn)]; rfl
end
/-! ### operations on data -/
def isNoneD : PyData → Bool
  | .none => true
  | _ => false
def isBoolD : PyData → Bool
  | .bool _ => true
  | _ => false
def isIntD : PyData → Bool
  | .bool _ => true
  | .int _ => true
  | _ => false
def isStrD : PyData → Bool
  | .str _ => true
  | _ => false
def isTupD : PyData → Bool
  | .tuple _ => true
  | _ => false
def isLstD : PyData → Bool
  | .list _ => true
  | _ => false
def tyName : PyData → String
  | .none => "NoneType"
  | .bool _ => "bool"
  | .int _ => "int"
  | .str _ => "str"
  | .list _ => "list"
  | .tuple _ => "tuple"
  | .dict _ => "dict"
def eqvD (a b : PyData) : Option Bool := if SeqAt.shaped a = true ∧ SeqAt.shaped b = true then some (PyData.eqv a b) else none
def lenD : PyData → Option Int
  | .list xs => some xs.length
  | .tuple xs => some xs.length
  | _ => none
def ixD : PyData → Int → Option PyData
  | .list xs, i => atI xs i
  | .tuple xs, i => atI xs i
  | _, _ => none
theorem dp_ty {K : Fg} {B H : Hp} {v : V} {d : PyData} (e : Ex B H) (h : Dp K B v d) : TyX K H v (.type (tyName d)) := by
  cases h with
  | non => exact .base .non
  | bl b => exact .base (.bl b)
  | int i => exact .base (.int i)
  | str x => exact .base (.str x)
  | lst h t =>
    rcases ex_l e h with (h | ⟨o, h⟩) | ⟨o, its, n, h, hc, _⟩
    · exact .base (.lst h)
    · exact .base (.frz h)
    · exact .kList h hc
  | tup h t =>
    rcases ex_t e h with (h | ⟨o, h⟩) | ⟨o, its, n, h, hc, _⟩
    · exact .base (.tup h)
    · exact .fTuple h
    · exact .kTuple h hc
section
variable {K : Fg} {M : Fr} {σ : St} {B : Hp} {L L1 L2 L' : List Cell} {α β γ δ : Type} {r : Rep α} {s : Rep β} {t : Rep γ} {ta tb tc te : TE} {tt tu : TT} {tA : TA} {i j k : Int} {b c : Bool} {d d' : PyData}
theorem ev_dat {f : α → PyData} {n : Nat} {a : α} (h : EV K M te σ B L r a L') (D : DR r f n) : EV K M te σ B L rDat (f a) L' := ev_as h fun _ _ h => D.dp _ _ _ _ h
theorem ev_isND (ha : EV K M ta σ B L rDat d L1) : EV K M (tIsN ta) σ B L rBool (isNoneD d) L1 := fun B1 H e w Q q =>
  ha B1 H e w _ fun x B2 H2 e2 w2 hx => q _ B2 H2 e2 w2 (by
    show V.bl _ = V.bl _
    congr 1
    have hx : Dp K B2 x d := hx
    cases hx <;> rfl)
theorem ev_isi (T : String) (g : PyData → Bool) (hg : ∀ n d, tyName d = n → kitB n T = some (g d)) (ha : EV K M ta σ B L rDat d L1) : EV K M (tCB (rIsi K) (tCons ta (tCons (tC (.ty T)) tNil))) σ B L rBool (g d) L1 := fun B1 H e w Q q =>
  ha B1 H e w _ fun x B2 H2 e2 w2 hx => ⟨x, .ty T, .type (tyName d), .type T, g d, rfl, .ty T, dp_ty w2.b hx, kit_ty (hg _ d rfl), q _ B2 H2 e2 w2 rfl⟩
def kt (T : String) (g : String → Bool) : Bool := (kitB "NoneType" T == some (g "NoneType")) && (kitB "bool" T == some (g "bool")) && (kitB "int" T == some (g "int")) && (kitB "str" T == some (g "str")) && (kitB "list" T == some (g "list")) && (kitB "tuple" T == some (g "tuple")) && (kitB "dict" T == some (g "dict"))
theorem kt_of {T : String} {g : String → Bool} (h : kt T g = true) (d : PyData) : kitB (tyName d) T = some (g (tyName d)) := by
  unfold kt at h
  simp only [Bool.and_eq_true, beq_iff_eq] at h
  cases d <;> simp only [tyName] <;> simp_all
theorem isi_bool : ∀ n d, tyName d = n → kitB n "bool" = some (isBoolD d) := fun n d e => by
  subst e
  rw [kt_of (g := fun n => n == "bool") (by decide +kernel) d]
  cases d <;> rfl
theorem isi_int : ∀ n d, tyName d = n → kitB n "int" = some (isIntD d) := fun n d e => by
  subst e
  rw [kt_of (g := fun n => n == "bool" || n == "int") (by decide +kernel) d]
  cases d <;> rfl
theorem isi_str : ∀ n d, tyName d = n → kitB n "str" = some (isStrD d) := fun n d e => by
  subst e
  rw [kt_of (g := fun n => n == "str") (by decide +kernel) d]
  cases d <;> rfl
theorem isi_tuple : ∀ n d, tyName d = n → kitB n "tuple" = some (isTupD d) := fun n d e => by
  subst e
  rw [kt_of (g := fun n => n == "tuple") (by decide +kernel) d]
  cases d <;> rfl
theorem isi_list : ∀ n d, tyName d = n → kitB n "list" = some (isLstD d) := fun n d e => by
  subst e
  rw [kt_of (g := fun n => n == "list") (by decide +kernel) d]
  cases d <;> rfl
theorem ev_eqvD (ha : EV K M ta σ B L rDat d L1) (hb : EV K M tb σ B L1 rDat d' L2) (h : eqvD d d' = some b) : EV K M (tOp (rEqD K) ta tb) σ B L rBool b L2 :=
  ev_op ha hb fun B1 H1 x y Q w hx hy q => by
    unfold eqvD at h
    split at h
    · rename_i hc
      exact ⟨d, d', dp_mono w.b hx, dp_mono w.b hy, hc.1, hc.2, q _ (by rw [Option.some.inj h]; rfl)⟩
    · cases h
/-- == of typed data -/
theorem ev_eqT {f : α → PyData} {n : Nat} {a a' : α} [DecidableEq α] (D : DR r f n) (hn : n ≤ 64) (ha : EV K M ta σ B L r a L1) (hb : EV K M tb σ B L1 r a' L2) : EV K M (tOp (rEqD K) ta tb) σ B L rBool (decide (a = a')) L2 :=
  ev_op ha hb fun B1 H1 x y Q w hx hy q => ⟨f a, f a', dp_mono w.b (D.dp _ _ _ _ hx), dp_mono w.b (D.dp _ _ _ _ hy), D.sh hn a, D.sh hn a', q _ (by rw [D.dec]; rfl)⟩
theorem ev_neT {f : α → PyData} {n : Nat} {a a' : α} [DecidableEq α] (D : DR r f n) (hn : n ≤ 64) (ha : EV K M ta σ B L r a L1) (hb : EV K M tb σ B L1 r a' L2) : EV K M (tOp (rNeD K) ta tb) σ B L rBool (!decide (a = a')) L2 :=
  ev_op ha hb fun B1 H1 x y Q w hx hy q => ⟨f a, f a', dp_mono w.b (D.dp _ _ _ _ hx), dp_mono w.b (D.dp _ _ _ _ hy), D.sh hn a, D.sh hn a', q _ (by rw [D.dec]; rfl)⟩
theorem dpAll_len {vs : List V} {ds : List PyData} (h : DpAll K B vs ds) : vs.length = ds.length := paired_len (dpAll_paired h)
theorem ev_lenD (ha : EV K M ta σ B L rDat d L1) (h : lenD d = some i) : EV K M (tCB (rLen K) (tCons ta tNil)) σ B L rInt i L1 :=
  ev_cb1 ha fun B1 H1 x Q w hx q => by
    have hx : Dp K B1 x d := hx
    cases hx with
    | lst h1 t =>
      rw [← (Option.some.inj h : _ = i)] at q
      exact ⟨_, _, rfl, .inl (ex_l w.b h1), q _ (by rw [dpAll_len t]; rfl)⟩
    | tup h1 t =>
      rw [← (Option.some.inj h : _ = i)] at q
      exact ⟨_, _, rfl, .inr (ex_t w.b h1), q _ (by rw [dpAll_len t]; rfl)⟩
    | _ => cases h
theorem ev_ixD (ha : EV K M ta σ B L rDat d L1) (hb : EV K M tb σ B L1 rInt i L2) (h : ixD d i = some d') : EV K M (tOp (rIx K) ta tb) σ B L rDat d' L2 :=
  ev_op ha hb fun B1 H1 x y Q w hx hy q => by
    have hx : Dp K B1 x d := hx
    cases hx with
    | lst h1 t =>
      obtain ⟨z, e, hz⟩ := atI_paired (dpAll_paired t) h
      exact .inl ⟨_, _, i, z, rfl, hy, ex_l w.b h1, e, q _ hz⟩
    | tup h1 t =>
      obtain ⟨z, e, hz⟩ := atI_paired (dpAll_paired t) h
      exact .inr (.inl ⟨_, _, i, z, rfl, hy, ex_t w.b h1, e, q _ hz⟩)
    | _ => cases h
end
/-- nothing is promised: at any level -/
theorem fn_none {P : Program} {w : World} {K : Fg} {mg : Str → Option Value} {base : Heap} {k : Nat} {f : Addr} {fd : FuncData} {ps : List Str} {T : List Addr} {C : List Arg → List Cell → Arg → List Cell → Prop} (h : ∀ as L r L', ¬ C as L r L') : FnOk P w K mg base CX0 k f fd ps (spV K T C) :=
  ⟨fun vs H Q E ⟨_, _, _, _, _, _, _, _, _, c, _⟩ => (h _ _ _ _ c).elim, fun A outer s H args us vs Q E _ _ _ _ ⟨_, _, _, _, _, _, _, _, _, c, _⟩ => (h _ _ _ _ c).elim⟩
end L3

namespace L3
open PySem L2

/-! ### the mirrors: they answer, and the answer is as told -/
def Yes {α : Type} (o : Option α) (P : α → Prop) : Prop := ∃ a, o = some a ∧ P a
section
variable {α β S R : Type} {o : Option α} {P Q : α → Prop} {i j : Int}
theorem Yes.mono (h : Yes o P) (f : ∀ a, P a → Q a) : Yes o Q := by obtain ⟨a, h1, h2⟩ := h; exact ⟨a, h1, f a h2⟩
theorem y_some {a : α} (h : P a) : Yes (some a) P := ⟨a, rfl, h⟩
theorem y_bind {f : α → Option β} {T : β → Prop} (h : Yes o Q) (k : ∀ a, Q a → Yes (f a) T) : Yes (Option.bind o f) T := by
  obtain ⟨a, rfl, h2⟩ := h
  exact k a h2
theorem y_eq {a : α} {f : α → Option β} {T : β → Prop} (h : o = some a) (k : Yes (f a) T) : Yes (Option.bind o f) T := by
  subst h; exact k
theorem y_if {c : Prop} [Decidable c] {p q : Option α} (h1 : c → Yes p P) (h2 : ¬ c → Yes q P) : Yes (if c then p else q) P := by
  split
  · exact h1 (by assumption)
  · exact h2 (by assumption)
theorem y_and {c : Prop} [Decidable c] {p q : Option α} (h1 : c → p = q) : (if c then p else q) = q := by
  split
  · exact h1 (by assumption)
  · rfl
theorem mulI_l (h1 : -(2 ^ 64) < i) (h2 : i < 2 ^ 64) : mulI i j = some (i * j) := if_pos (Or.inl (Or.inl ⟨h1, h2⟩))
theorem mulI_r (h1 : -(2 ^ 64) < j) (h2 : j < 2 ^ 64) : mulI i j = some (i * j) := if_pos (Or.inl (Or.inr ⟨h1, h2⟩))
theorem mulI_w {a b : Nat} (ha : i.natAbs < 2 ^ a) (hb : j.natAbs < 2 ^ b) (h0 : 0 < a) (h1 : 0 < b) (h : a + b ≤ 1000000) : mulI i j = some (i * j) := if_pos (Or.inr (wide_mul ha hb h0 h1 h))
theorem divI_s (h1 : 0 < j) (h2 : j < 2 ^ 64) : divI i j = some (i / j) := if_pos ⟨h1, by
  have : j.natAbs < 2 ^ 64 := by omega
  have := PySem.Flt.log2_lt_of (by decide) this
  omega⟩
theorem divI_w {b : Nat} (h1 : 0 < j) (hb : j.natAbs < 2 ^ b) (h0 : 0 < b) (h9 : b ≤ 9000) : divI i j = some (i / j) := if_pos (wide_div (i := i) h1 hb h0 h9)
theorem modI_s (h : 0 < j) : modI i j = some (i % j) := if_pos h
theorem room_s {n : Nat} (h : n ≤ 1000000) : room n = some () := if_pos (Nat.lt_of_le_of_lt h (by decide))
theorem small62_s (h1 : -(2 ^ 62) ≤ i) (h2 : i < 2 ^ 62) : small62 i = some () := if_pos ⟨h1, h2⟩
theorem ixL_s {xs : List α} {n : Nat} {a : α} (h : xs[n]? = some a) (hi : i = n) : ixL xs i = some a := by
  subst hi
  unfold ixL atI
  have hl := (List.getElem?_eq_some_iff.mp h).1
  simp [ixN]
  have h2 := (List.getElem?_eq_some_iff.mp h).2
  simp_all
/-- with a number of the item -/
theorem y_foldI (f : S → α → Option S) (I : Nat → S → Prop) {xs : List α} {s : S} (h0 : I 0 s) (hs : ∀ (i : Nat) x s, xs[i]? = some x → I i s → Yes (f s x) (I (i + 1))) : Yes (foldO f s xs) (I xs.length) := by
  induction xs generalizing s I with
  | nil => exact ⟨s, rfl, h0⟩
  | cons x xs ih =>
    obtain ⟨s', h1, h2⟩ := hs 0 x s rfl h0
    unfold foldO
    rw [h1]
    exact ih (fun i => I (i + 1)) h2 fun i y s hy hI => hs (i + 1) y s (by simpa using hy) hI
theorem y_fold (f : S → α → Option S) (I : S → Prop) {xs : List α} {s : S} (h0 : I s) (hs : ∀ x s, x ∈ xs → I s → Yes (f s x) I) : Yes (foldO f s xs) I :=
  y_foldI f (fun _ => I) h0 fun i x s hx hI => hs x s (List.mem_of_getElem? hx) hI
/-- a loop that may return -/
theorem y_loopI (f : S → α → Option (Stp S R)) (I : Nat → S → Prop) (E : Stp S R → Prop) {xs : List α} {s : S} (h0 : I 0 s)
    (hs : ∀ (i : Nat) x s, xs[i]? = some x → I i s → Yes (f s x) fun t => match t with | .nx s' => I (i + 1) s' | t => E t) (hE : ∀ s, I xs.length s → E (.nx s)) : Yes (loopM f s xs) E := by
  induction xs generalizing s I with
  | nil => exact ⟨.nx s, rfl, hE s h0⟩
  | cons x xs ih =>
    obtain ⟨t, h1, h2⟩ := hs 0 x s rfl h0
    unfold loopM
    rw [h1]
    match t, h2 with
    | .nx s', h2 => exact ih (fun i => I (i + 1)) h2 (fun i y s hy hI => hs (i + 1) y s (by simpa using hy) hI) hE
    | .bk s', h2 => exact ⟨_, rfl, h2⟩
    | .rt r, h2 => exact ⟨_, rfl, h2⟩
theorem rng_mem {lo hi : Int} {x : Int} (h : x ∈ rng lo hi) : lo ≤ x ∧ x < hi := by
  obtain ⟨i, hi⟩ := List.getElem?_of_mem h
  obtain ⟨h1, h2⟩ := rng_get hi
  omega
theorem rng_at {lo hi : Int} {i : Nat} {x : Int} (h : (rng lo hi)[i]? = some x) : x = lo + i ∧ lo + i < hi := by
  obtain ⟨h1, h2⟩ := rng_get h
  exact ⟨h2, by omega⟩
theorem y_loopR (f : S → α → Option (Stp S R)) (I : Nat → S → Prop) (E : S ⊕ R → Prop) {xs : List α} {s : S} (h0 : I 0 s)
    (hs : ∀ (i : Nat) x s, xs[i]? = some x → I i s → Yes (f s x) fun t => match t with | .nx s' => I (i + 1) s' | .bk s' => E (.inl s') | .rt r => E (.inr r)) (hE : ∀ s, I xs.length s → E (.inl s)) : Yes (loopR f s xs) E := by
  obtain ⟨t, h1, h2⟩ := y_loopI f I (fun t => match t with | .nx s' => E (.inl s') | .bk s' => E (.inl s') | .rt r => E (.inr r)) h0 (fun i x s hx hI => (hs i x s hx hI).mono fun t ht => by
    cases t <;> exact ht) hE
  unfold loopR
  rw [h1]
  cases t <;> exact ⟨_, rfl, h2⟩
theorem y_loopB (f : S → α → Option (Stp S Empty)) (I : Nat → S → Prop) (E : S → Prop) {xs : List α} {s : S} (h0 : I 0 s)
    (hs : ∀ (i : Nat) x s, xs[i]? = some x → I i s → Yes (f s x) fun t => match t with | .nx s' => I (i + 1) s' | .bk s' => E s' | .rt r => False) (hE : ∀ s, I xs.length s → E s) : Yes (loopB f s xs) E := by
  obtain ⟨t, h1, h2⟩ := y_loopI f I (fun t => match t with | .nx s' => E s' | .bk s' => E s' | .rt r => False) h0 (fun i x s hx hI => (hs i x s hx hI).mono fun t ht => by
    cases t <;> exact ht) hE
  unfold loopB
  rw [h1]
  cases t with
  | nx s => exact ⟨_, rfl, h2⟩
  | bk s => exact ⟨_, rfl, h2⟩
  | rt r => exact h2.elim
end
end L3
namespace L3
open PySem L2
theorem paired_ints {K : Fg} {B : Hp} : ∀ ns : List Int, Paired (rInt.is K B) (ns.map V.int) ns
  | [] => .nil
  | _ :: l => .cons rfl (paired_ints l)
end L3

/-! a generator expression in any, all, sum: what is walked and the element are any -/
namespace L3G
open PySem PySem.Spec PyProof.Rows L2 GxR

structure GSc (sc scope : Scope) : Prop where
  kind : scope.kind = .function
  co : scope.isCoroutine = false
  cell : ∀ y ∈ scope.names, y.2 ≠ .cell
  dot : scope.names.lookup (".0" : Str) = some NameKind.local
  free : ∀ y ∈ scope.names, y.2 = .free → sc.names.lookup y.1 = some .cell ∨ sc.names.lookup y.1 = some .free
def gsB (sc scope : Scope) : Bool :=
  decide (scope.kind = .function) && !scope.isCoroutine && decide (scope.names.lookup (".0" : Str) = some NameKind.local) && scope.names.all fun y => !decide (y.2 = .cell) && (!decide (y.2 = .free) || decide (sc.names.lookup y.1 = some .cell) || decide (sc.names.lookup y.1 = some .free))
theorem gs_by {sc scope : Scope} (h : gsB sc scope = true) : GSc sc scope := by
  unfold gsB at h
  simp only [Bool.and_eq_true, Bool.or_eq_true, Bool.not_eq_true', decide_eq_true_eq, decide_eq_false_iff_not, List.all_eq_true] at h
  obtain ⟨⟨⟨h1, h2⟩, h3⟩, h4⟩ := h
  refine ⟨h1, h2, fun y hy => (h4 y hy).1, h3, fun y hy e => ?_⟩
  rcases (h4 y hy).2 with (z | z) | z
  · exact absurd e z
  · exact .inl z
  · exact .inr z
/-- the slots of the generator's frame: none, or a captured slot -/
def capS (js : List (Option Nat)) (σ : L2.St) : L2.St := js.map fun
  | none => none
  | some j => (σ[j]?).getD none
def capB (N NG : List Str) (scope : Scope) (js : List (Option Nat)) : Bool :=
  decide (js.length = NG.length) && (List.range js.length).all fun i => match js[i]? with
    | some (some j) => (match NG[i]? with
      | some y => decide (N[j]? = some y) && decide (scope.names.lookup y = some .free)
      | none => false)
    | _ => true
theorem capB_at {N NG : List Str} {scope : Scope} {js : List (Option Nat)} (h : capB N NG scope js = true) {σ : L2.St} {i : Nat} {y : Str} {v : V} (hy : NG[i]? = some y) (hv : (capS js σ)[i]? = some (some v)) :
    ∃ j : Nat, N[j]? = some y ∧ σ[j]? = some (some v) ∧ scope.names.lookup y = some .free := by
  unfold capB at h
  rw [Bool.and_eq_true, List.all_eq_true] at h
  unfold capS at hv
  rw [List.getElem?_map] at hv
  cases e : js[i]? with
  | none => rw [e] at hv; cases hv
  | some o =>
    rw [e] at hv
    have hi : i < js.length := (List.getElem?_eq_some_iff.mp e).1
    have q := h.2 i (List.mem_range.mpr hi)
    rw [e, hy] at q
    cases o with
    | none => cases hv
    | some j =>
      have q : (decide (N[j]? = some y) && decide (scope.names.lookup y = some .free)) = true := q
      rw [Bool.and_eq_true, decide_eq_true_eq, decide_eq_true_eq] at q
      refine ⟨j, q.1, ?_, q.2⟩
      have hv : (σ[j]?).getD none = some v := Option.some.inj hv
      cases e2 : σ[j]? with
      | none => rw [e2] at hv; cases hv
      | some u => rw [e2] at hv; exact congrArg some hv
theorem capB_len {N NG : List Str} {scope : Scope} {js : List (Option Nat)} (h : capB N NG scope js = true) : js.length = NG.length := by
  unfold capB at h
  rw [Bool.and_eq_true] at h
  exact of_decide_eq_true h.1

abbrev gEnv (X : Cx) (scope : Scope) (C : Addr) (code : Value) : Env := genEnv scope (cloFrom X.env.cells scope.names []) C code builtinsNs X.env
abbrev gCode (X : Cx) (elt tg iter : Expr) (scope : Scope) (gpos : Pos) (it : Addr) (C : Addr) (code : Value) : Code :=
  .compLoop (.GeneratorExp elt [⟨tg, iter, [], 0⟩] scope gpos) 0 (.ref it) .none (gEnv X scope C code)
abbrev gCode0 (X : Cx) (elt tg iter : Expr) (scope : Scope) (gpos : Pos) (it : Addr) (C : Addr) (code : Value) : Code :=
  .compStart (.GeneratorExp elt [⟨tg, iter, [], 0⟩] scope gpos) 0 (.ref it) .none (gEnv X scope C code)
/-- the Around of the generator's frame -/
abbrev gA (X : Cx) (cenv : Env) : Around := ⟨X.A.handled, X.A.depth + 1, pushEnvs [cenv] X.A.frames, X.A.guards, X.A.units + 5⟩
/-- the context of the generator's frame, made at s -/
abbrev gCx (X : Cx) (s : Shared) (H : Hp) (NG : List Str) (ex : List Addr) (cenv : Env) : Cx where
  prog := X.prog
  w := X.w
  K := X.K
  mg := X.mg
  base := X.base
  A := gA X cenv
  N := NG
  s_0 := s
  H_0 := H
  env := cenv
  outer := X.stack
  stack := cenv :: X.stack
  ex := ex
  fn := fun _ => false
  calm := true
  pn := []
  xe := fun _ _ => False
section
variable {X : Cx} {pins : List (Addr × Obj)} {σ : L2.St} {H : Hp} {s : Shared}
theorem gA_eq (X : Cx) (elt tg iter : Expr) (scope : Scope) (gpos : Pos) (it C : Addr) (code : Value) : X.A.in1.in1.over (gCode X elt tg iter scope gpos it C code) [] = gA X (gEnv X scope C code) := rfl
theorem gA_eq0 (X : Cx) (elt tg iter : Expr) (scope : Scope) (gpos : Pos) (it C : Addr) (code : Value) : X.A.in1.in1.over (gCode0 X elt tg iter scope gpos it C code) [] = gA X (gEnv X scope C code) := rfl
theorem room_g {k : Nat} {cenv : Env} (r : Room (k + 1) X.A) : Room k (gA X cenv) := ⟨r.hd, by have := r.dp; show X.A.depth + 1 + 3 * k + 5 < _; omega, by have := r.un; show X.A.units + 5 + 16 * k + 200 < _; omega⟩
theorem inv_gens {g' : Array GenState} {t' : Nat} (I : Inv X pins σ H s) (hg : AllBare g') : Inv X pins σ H { s with gens := g', toks := t' } :=
  ⟨I.ok, I.os, hg, I.base, I.loc, I.cell, I.free, I.freeC, I.pin, I.hok, I.len⟩
theorem gen_start {NG : List Str} {fp : List Addr} {scope : Scope} {code : Value} {it : Addr} {js : List (Option Nat)} {h₁ : Heap} {g₁ : Array GenState} {tk : Nat} (I : Inv X pins σ H s) (G : GSc X.env.scope scope) (hf : ∀ b ∈ fp, FpOk X pins H b) (hfl : ∀ b ∈ fp, b < s.heap.objs.size) (hd : X.A.handled = none)
    (hns : h₁.Ns s.heap.objs.size fun y => if y = (".0" : Str) then some (.ref it) else none) (kp : ∀ b o, s.heap.get? b = some o → h₁.get? b = some o) (hg : AllBare g₁) (hN : capB X.N NG scope js = true) :
    Inv (gCx X s H NG fp (gEnv X scope s.heap.objs.size code)) [] (capS js σ) H { s with heap := h₁, gens := g₁, toks := tk } := by
  have hfree : ∀ y ∈ scope.names, y.2 = .free → ∃ c, X.env.cells.lookup y.1 = some c := fun y hy e => by
    rcases G.free y hy e with k | k
    · exact I.ok.has _ (.inl k)
    · exact I.ok.has _ (.inr k)
  have cm : ∀ {y c}, (cloFrom X.env.cells scope.names []).lookup y = some c → X.env.cells.lookup y = some c := fun {y c} e => by
    rcases cloFrom_mem (PySem.mem_of_lookup e) with hm | ⟨h1, h2⟩
    · cases hm
    · obtain ⟨c1, hc⟩ := hfree _ h1 rfl
      have hc : X.env.cells.lookup y = some c1 := hc
      have e2 : c = c1 := by
        rw [h2, hc] <;> rfl
      rw [e2]
      exact hc
  have look : ∀ {y}, scope.names.lookup y = some .free → ∃ c, (cloFrom X.env.cells scope.names []).lookup y = some c := fun {y} hl => by
    have hy : (y, NameKind.free) ∈ scope.names := PySem.mem_of_lookup hl
    exact mem_lookup (cloFrom_has (cells := X.env.cells) (acc := []) hy)
  have cellK : ∀ {c : Addr} {v : Option Value}, s.heap.IsCell c v → h₁.IsCell c v := fun {c v} ⟨o, ho, hd⟩ => ⟨o, kp _ _ ho, hd⟩
  refine ⟨⟨I.ok.mod, G.kind, I.ok.glob, rfl, Nat.le_refl _, fun y z c e1 e2 => I.ok.inj y z c (cm e1) (cm e2), fun y hy => ?_, fun y c z _ => ?_, fun _ => hd, ?_, .inr ⟨rfl, rfl⟩, fun b hb => ⟨Nat.ne_of_lt (hfl b hb), fun y c e => (hf b hb).2.2.2.2.1 y c (cm e)⟩, I.bs, Nat.le_trans I.ok.bsz I.sz, fun b o e hb => ?_,
      fun b hb z => ?_, I.stack, I.stkFree⟩,
    rfl, hg, Un.kept kp, ⟨_, hns, fun i y v e1 e2 e3 => ?_⟩, fun y c e => ?_, I.hok.fresh (Nat.le_refl _), fun y c e => I.freeC y c (cm e), fun q hq => absurd (show q ∈ ([] : List (Addr × Obj)) ++ [] from hq) (by simp), I.hok.kept kp, ?_⟩
  · have hy : scope.names.lookup y = some .cell ∨ scope.names.lookup y = some .free := hy
    rcases hy with hy | hy
    · exact absurd rfl (G.cell _ (PySem.mem_of_lookup hy))
    · exact look hy
  · have z : false = true := z
    cases z
  · show pushEnvs [_] X.A.frames = _
    rw [I.ok.frames]
    rfl
  · rcases (hf b hb).2.2.2.1 with z | z
    · exact I.ok.noex b o e z
    · exact absurd (Nat.lt_of_lt_of_le (Heap.lt_size (I.ok.bs b o e).1) z) (Nat.lt_irrefl _)
  · rcases List.mem_cons.mp (I.stkSub b z) with e | e
    · exact (hf b hb).2.1 e
    · exact (hf b hb).2.2.1 e
  · obtain ⟨j, h1, h2, h3⟩ := capB_at hN e1 e2
    obtain ⟨m, hn, hl⟩ := I.loc
    have hfr := G.free _ (PySem.mem_of_lookup h3) rfl
    have hvis : Vis X.env.scope y := hfr.elim (fun k => .inr (.inl k)) (fun k => .inr (.inr k))
    obtain ⟨w', r, q⟩ := hl j y v h1 h2 hvis
    obtain ⟨c2, h4⟩ := look h3
    refine ⟨w', r, .inr ⟨.inr h3, c2, h4, ?_⟩⟩
    have c1 := cm h4
    rcases q with ⟨k', _⟩ | ⟨_, c3, e', z⟩
    · have k' : X.env.scope.names.lookup y = some .local := k'
      rcases hfr with k2 | k2 <;> rw [show X.env.scope.names.lookup y = _ from k2] at k' <;> cases k'
    · rw [c1] at e'
      cases e'
      exact cellK z
  · obtain ⟨w', z⟩ := I.cell y c (cm e)
    exact ⟨w', cellK z⟩
  · show (capS js σ).length = NG.length
    unfold capS
    rw [List.length_map]
    exact capB_len hN
end
/-! ### the run -/
/-- the consumer's own objects -/
def SOk (S : List Addr) (H : Hp) (s : Shared) : Prop := ∀ b ∈ S, H b = none ∧ ∃ o, s.heap.get? b = some o ∧ ∀ v, o.data ≠ .cell v
section
variable (X : Cx) (s0 : Shared) (H0 : Hp) (NG : List Str) (fp : List Addr) (cenv : Env) (a : Addr) (ob : Obj) (S : List Addr) (tn : Nat → Heap → Prop) (N : Nat) (Z : Nat → L2.St → Hp → Prop) (P : Nat → V → L2.St → Hp → Prop) (F : Nat → L2.St → Hp → Prop)
def gR : GenEnd := fun n s₀ r s => r = .ok .next ∧ ∃ i σ H, n + i = N + 1 ∧ F i σ H ∧ Inv (gCx X s0 H0 NG fp cenv) ([(a, ob)] ++ pinsAt S s₀.heap) σ H s
def gY : Protocol := fun n s₀ v s kap => ∃ i y σ H, n + i = N ∧ i < N ∧ RelV y v ∧ P i y σ H ∧ Inv (gCx X s0 H0 NG fp cenv) ([(a, ob)] ++ pinsAt S s₀.heap) σ H s ∧ tn (i + 1) s.heap ∧ (∀ b ∈ fp, H b = none) ∧ (∀ b ∈ S, H b = none) ∧
  ∀ s'' : Shared, Z (i + 1) σ H → Inv (gCx X s0 H0 NG fp cenv) [(a, ob)] σ H s'' → tn (i + 1) s''.heap → SOk S H s'' → kap (.send .none) s''
end
structure GFix (X : Cx) (s0 : Shared) (fp : List Addr) (cenv : Env) (a : Addr) (S : List Addr) : Prop where
  f : ∀ b ∈ fp, b ≠ cenv.locals ∧ b ∉ frs X.stack ∧ (∀ x c, cenv.cells.lookup x = some c → c ≠ b) ∧ b ≠ a ∧ b ∉ S
  s : ∀ b ∈ S, s0.heap.objs.size ≤ b ∧ b ≠ cenv.locals ∧ b ∉ frs X.stack ∧ (∀ x c, cenv.cells.lookup x = some c → c ≠ b) ∧ b ≠ a
section
variable {X : Cx} {s0 : Shared} {H0 : Hp} {NG : List Str} {fp : List Addr} {cenv : Env} {a : Addr} {ob : Obj} {S : List Addr} {tn : Nat → Heap → Prop} {N : Nat} {Z : Nat → L2.St → Hp → Prop} {P : Nat → V → L2.St → Hp → Prop} {F : Nat → L2.St → Hp → Prop}
theorem seg_loop {elt tg iter : Expr} {scope : Scope} {gpos : Pos} {it C : Addr} {code : Value} {J : It} {g : TG} {te : TE} (hce : cenv = gEnv X scope C code) (hco : scope.isCoroutine = false) (fx : GFix X s0 fp cenv a S)
    (T : Turn X.prog X.w X.K tg J fp it tn) (hg : PG (gCx X s0 H0 NG fp cenv) tg g) (he : PE (gCx X s0 H0 NG fp cenv) elt te)
    (turn : ∀ i σ H, Z i σ H → (J.stop i H ∧ F i σ H) ∨ (J.go i H ∧ i < N ∧ ∀ x H2, J.yld i H x H2 → g x σ H2 fun σ2 H3 => te σ2 H3 fun y H4 => P i y σ2 H4)) :
    ∀ (k i : Nat) (s : Shared) (σ : L2.St) (H : Hp), N - i = k → i ≤ N → Z i σ H → Inv (gCx X s0 H0 NG fp cenv) [(a, ob)] σ H s → tn i s.heap → (∀ b ∈ fp, H b = none) → SOk S H s →
      Seg (model X.prog X.w) X.A.in1.in1 (gR X s0 H0 NG fp cenv a ob S N F) (gY X s0 H0 NG fp cenv a ob S tn N Z P) (N + 1 - i) s (gCode X elt tg iter scope gpos it C code) ((model X.prog X.w).den (gCode X elt tg iter scope gpos it C code)) [] s := by
  subst hce
  intro k
  induction k with
  | zero =>
    intro i s σ H hk hi hZ I st fr so
    have fS : ∀ b ∈ S, FpOk (gCx X s0 H0 NG fp (gEnv X scope C code)) [(a, ob)] H b := fun b hb => ⟨(so b hb).1, (fx.s b hb).2.1, (fx.s b hb).2.2.1, .inr (fx.s b hb).1, (fx.s b hb).2.2.2.1, fun p hp => by
      have hp : p ∈ [(a, ob)] := hp
      rw [List.mem_singleton.mp hp]; exact Ne.symm (fx.s b hb).2.2.2.2⟩
    have I1 := I.pinned fS fun b hb => (so b hb).2
    have fF : ∀ {H' : Hp}, (∀ b ∈ fp, H' b = none) → ∀ b ∈ fp, FpOk (gCx X s0 H0 NG fp (gEnv X scope C code)) ([(a, ob)] ++ pinsAt S s.heap) H' b := fun hn b hb => ⟨hn b hb, (fx.f b hb).1, (fx.f b hb).2.1, .inl hb, (fx.f b hb).2.2.1, fun p hp => by
      have hp : p ∈ [(a, ob)] ++ pinsAt S s.heap := hp
      rcases List.mem_append.mp hp with hp | hp
      · rw [List.mem_singleton.mp hp]; exact Ne.symm (fx.f b hb).2.2.2.1
      · exact fun z => (fx.f b hb).2.2.2.2 (by rw [← z]; exact (of_pinsAt hp).1)⟩
    show Seg _ X.A.in1.in1 _ _ _ s _ ((compTurn (.GeneratorExp elt [⟨tg, iter, [], 0⟩] scope gpos) 0 (.ref it) .none (gEnv X scope C code)).onRaise (leaving (gEnv X scope C code))) [] s
    rw [compTurn_gen, Sem.onRaise_eq_wrap]
    refine seg_bind_wrap (wpAny_standAt ?_)
    rcases turn i σ H hZ with ⟨stop, hF⟩ | ⟨_, hlt, _⟩
    · refine seg_bind_wrap (thn (T.done (gCx X s0 H0 NG fp (gEnv X scope C code)) rfl rfl rfl rfl i _ s σ H _ I1 (fF fr) st stop) fun r s1 ⟨hr, J1⟩ => ?_)
      subst hr
      exact seg_end (.ok .next) ⟨rfl, i, σ, H, by omega, hF, J1⟩
    · omega
  | succ k ih =>
    intro i s σ H hk hi hZ I st fr so
    have fS : ∀ b ∈ S, FpOk (gCx X s0 H0 NG fp (gEnv X scope C code)) [(a, ob)] H b := fun b hb => ⟨(so b hb).1, (fx.s b hb).2.1, (fx.s b hb).2.2.1, .inr (fx.s b hb).1, (fx.s b hb).2.2.2.1, fun p hp => by
      have hp : p ∈ [(a, ob)] := hp
      rw [List.mem_singleton.mp hp]; exact Ne.symm (fx.s b hb).2.2.2.2⟩
    have I1 := I.pinned fS fun b hb => (so b hb).2
    have fF : ∀ {H' : Hp}, (∀ b ∈ fp, H' b = none) → ∀ b ∈ fp, FpOk (gCx X s0 H0 NG fp (gEnv X scope C code)) ([(a, ob)] ++ pinsAt S s.heap) H' b := fun hn b hb => ⟨hn b hb, (fx.f b hb).1, (fx.f b hb).2.1, .inl hb, (fx.f b hb).2.2.1, fun p hp => by
      have hp : p ∈ [(a, ob)] ++ pinsAt S s.heap := hp
      rcases List.mem_append.mp hp with hp | hp
      · rw [List.mem_singleton.mp hp]; exact Ne.symm (fx.f b hb).2.2.2.1
      · exact fun z => (fx.f b hb).2.2.2.2 (by rw [← z]; exact (of_pinsAt hp).1)⟩
    show Seg _ X.A.in1.in1 _ _ _ s _ ((compTurn (.GeneratorExp elt [⟨tg, iter, [], 0⟩] scope gpos) 0 (.ref it) .none (gEnv X scope C code)).onRaise (leaving (gEnv X scope C code))) [] s
    rw [compTurn_gen, Sem.onRaise_eq_wrap]
    refine seg_bind_wrap (wpAny_standAt ?_)
    rcases turn i σ H hZ with ⟨stop, hF⟩ | ⟨go, hlt, step⟩
    · refine seg_bind_wrap (thn (T.done (gCx X s0 H0 NG fp (gEnv X scope C code)) rfl rfl rfl rfl i _ s σ H _ I1 (fF fr) st stop) fun r s1 ⟨hr, J1⟩ => ?_)
      subst hr
      exact seg_end (.ok .next) ⟨rfl, i, σ, H, by omega, hF, J1⟩
    · refine seg_bind_wrap (thn (T.item (gCx X s0 H0 NG fp (gEnv X scope C code)) rfl rfl rfl rfl i _ s σ H _ I1 (fF fr) st go) fun r s1 ⟨u, hr, h1⟩ => ?_)
      subst hr
      refine seg_bind_wrap (thn h1 fun _ s2 ⟨x, H2, I2, r2, y2, st2, fr2⟩ => ?_)
      have I2' := I2.pinned (fF fr2) (T.obj _ _ st2)
      refine seg_bind_wrap (wpAny_mono (hg.run _ s2 σ H2 x u _ I2' r2 (step x H2 y2)) (fun _ s3 ⟨σ3, H3, I3, q3⟩ => ?_) fun _ _ z => z.elim)
      simp only [List.forIn_nil]
      refine seg_bind_wrap (wpAny_pure ?_)
      simp only [if_true]
      have hy : ∀ v, yieldOut (gEnv X scope C code) v = yieldValue v := fun v => by
        show (if scope.isCoroutine = true then _ else _) = _
        simp only [hco, Bool.false_eq_true, if_false]
      simp only [hy]
      rw [Sem.bind_eq_wrap', Sem.bind_eq_wrap', Sem.wrap_wrap, Sem.wrap_wrap]
      refine seg_wrap (wpAny_mono (he.run _ s3 σ3 H3 _ I3 q3) (fun v s4 ⟨y, H4, I4, r4, q4⟩ => ?_) fun _ _ z => z.elim)
      have en : N + 1 - i = (N + 1 - (i + 1)) + 1 := by omega
      rw [en]
      have pinF : ∀ b ∈ fp, ∃ o, s2.heap.get? b = some o ∧ s4.heap.get? b = some o ∧ H4 b = none := fun b hb => by
        obtain ⟨o, e, d⟩ := T.obj _ _ st2 b hb
        have := I4.pin (b, o) (List.mem_append_right _ (List.mem_append_right _ (mem_pinsAt hb e)))
        exact ⟨o, e, this.1, this.2.1⟩
      have st4 : tn (i + 1) s4.heap := T.keep _ _ _ st2 fun b hb o e => by
        obtain ⟨o', e1, e2, _⟩ := pinF b hb
        rw [e] at e1; cases e1
        exact e2
      have fr4 : ∀ b ∈ fp, H4 b = none := fun b hb => (pinF b hb).elim fun _ h => h.2.2
      have fS4 : ∀ b ∈ S, H4 b = none := fun b hb => by
        obtain ⟨_, o, e, _⟩ := so b hb
        exact (I4.pin (b, o) (List.mem_append_right _ (List.mem_append_left _ (List.mem_append_right _ (mem_pinsAt hb e))))).2.1
      refine seg_at (seg_yield rfl rfl rfl ⟨i, y, σ3, H4, by omega, hlt, r4, q4, I4.unpinned, st4, fr4, fS4, fun s'' z1 z2 z3 z4 => ?_⟩)
      exact seg_again rfl (ih (i + 1) s'' σ3 H4 (by omega) hlt z1 z2 z3 fr4 z4)
theorem seg_start {elt tg iter : Expr} {scope : Scope} {gpos : Pos} {it C : Addr} {code : Value} {J : It} {g : TG} {te : TE} (hce : cenv = gEnv X scope C code) (hco : scope.isCoroutine = false) (fx : GFix X s0 fp cenv a S)
    (T : Turn X.prog X.w X.K tg J fp it tn) (hg : PG (gCx X s0 H0 NG fp cenv) tg g) (he : PE (gCx X s0 H0 NG fp cenv) elt te)
    (turn : ∀ i σ H, Z i σ H → (J.stop i H ∧ F i σ H) ∨ (J.go i H ∧ i < N ∧ ∀ x H2, J.yld i H x H2 → g x σ H2 fun σ2 H3 => te σ2 H3 fun y H4 => P i y σ2 H4))
    (s : Shared) (σ : L2.St) (H : Hp) (hZ : Z 0 σ H) (I : Inv (gCx X s0 H0 NG fp cenv) [(a, ob)] σ H s) (st : tn 0 s.heap) (fr : ∀ b ∈ fp, H b = none) (so : SOk S H s) :
      Seg (model X.prog X.w) X.A.in1.in1 (gR X s0 H0 NG fp cenv a ob S N F) (gY X s0 H0 NG fp cenv a ob S tn N Z P) (N + 1) s (gCode0 X elt tg iter scope gpos it C code) ((model X.prog X.w).den (gCode0 X elt tg iter scope gpos it C code)) [] s := by
  have loop := seg_loop (elt := elt) (tg := tg) (iter := iter) (gpos := gpos) (it := it) hce hco fx T hg he turn N 0 s σ H rfl (Nat.zero_le _) hZ I st fr so
  show Seg _ X.A.in1.in1 _ _ _ s _ ((compStart (.GeneratorExp elt [⟨tg, iter, [], 0⟩] scope gpos) 0 (.ref it) .none (gEnv X scope C code)).onRaise (leaving (gEnv X scope C code))) [] s
  unfold compStart
  rw [Sem.onRaise_eq_wrap]
  show Seg _ X.A.in1.in1 _ _ _ s _ ((ask >>= _).wrap _ _ _ _) [] s
  refine seg_bind_wrap (wpAny_askSetting ?_)
  split
  · exact seg_again rfl loop
  · first
      | exact seg_bind_wrap (wpAny_rule (seg_bind_wrap (wpAny_standAt (seg_bind_wrap (T.self _ 0 s _ _ st (seg_again rfl loop))))))
      | (refine seg_bind_wrap (wpAny_rule ?_); show Seg _ X.A.in1.in1 _ _ _ s _ ((standAt iter.pos >>= _).wrap _ _ _ _) [] s; exact seg_bind_wrap (wpAny_standAt (seg_bind_wrap (T.self _ 0 s _ _ st (seg_again rfl loop)))))
end
theorem bare_set {gens : Array GenState} {g : Nat} {x : GenState} (h : AllBare gens) (hx : x.bare = true) : AllBare (gens.setIfInBounds g x) := fun y hy => by
  rcases Array.mem_or_eq_of_mem_setIfInBounds hy with h1 | h1
  · exact h y h1
  · rw [h1]; exact hx
section
variable (X : Cx) (s0 : Shared) (H0 : Hp) (NG : List Str) (fp : List Addr) (cenv : Env) (a : Addr) (ob : Obj) (g : Nat) (S : List Addr) (tn : Nat → Heap → Prop) (N : Nat) (Z : Nat → L2.St → Hp → Prop) (P : Nat → V → L2.St → Hp → Prop) (F : Nat → L2.St → Hp → Prop)
/-- the generator sleeps at turn i -/
def GenSt (i : Nat) (s : Shared) : Prop := ∃ σ H, i ≤ N ∧ Z i σ H ∧ Inv (gCx X s0 H0 NG fp cenv) [(a, ob)] σ H s ∧ tn i s.heap ∧ (∀ b ∈ fp, H b = none) ∧ SOk S H s ∧ ∃ gs, s.gens[g]? = some gs ∧
  ∀ s'' : Shared, Inv (gCx X s0 H0 NG fp cenv) [(a, ob)] σ H s'' → tn i s''.heap → SOk S H s'' → gs.Goes (model X.prog X.w) X.A.in1.in1 (gR X s0 H0 NG fp cenv a ob S N F) (gY X s0 H0 NG fp cenv a ob S tn N Z P) (N + 1 - i) (.send .none) s''
def GenNext (i : Nat) (s : Shared) (r : Option Value) (s' : Shared) : Prop :=
  (r = none ∧ ∃ σ H, F i σ H ∧ Inv (gCx X s0 H0 NG fp cenv) [(a, ob)] σ H s' ∧ SOk S H s' ∧ ∀ b ∈ S, s'.heap.get? b = s.heap.get? b) ∨
  ∃ v y σ H, r = some v ∧ i < N ∧ RelV y v ∧ P i y σ H ∧ Inv (gCx X s0 H0 NG fp cenv) [(a, ob)] σ H s' ∧ SOk S H s' ∧ (∀ b ∈ S, s'.heap.get? b = s.heap.get? b) ∧
    (Z (i + 1) σ H → ∀ s'' : Shared, Inv (gCx X s0 H0 NG fp cenv) [(a, ob)] σ H s'' → (∀ b ∈ fp, s''.heap.get? b = s'.heap.get? b) → SOk S H s'' → s''.gens = s'.gens → GenSt X s0 H0 NG fp cenv a ob g S tn N Z P F (i + 1) s'')
end
section
variable {X : Cx} {s0 : Shared} {H0 : Hp} {NG : List Str} {fp : List Addr} {cenv : Env} {a : Addr} {ob : Obj} {g : Nat} {S : List Addr} {tn : Nat → Heap → Prop} {N : Nat} {Z : Nat → L2.St → Hp → Prop} {P : Nat → V → L2.St → Hp → Prop} {F : Nat → L2.St → Hp → Prop}
theorem gen_next {tg : Expr} {J : It} {it : Addr} (T : Turn X.prog X.w X.K tg J fp it tn) (hob : ∀ h : Heap, h.get? a = some ob → h.IsGen a g) (hd : X.A.handled = none) (hroom : X.A.depth < recursionLimit) {i : Nat} {s : Shared} {E : Value → Shared → Prop}
    (h : GenSt X s0 H0 NG fp cenv a ob g S tn N Z P F i s) : wpAny (model X.prog X.w) X.A.in1 (pyNext (.ref a)) (GenNext X s0 H0 NG fp cenv a ob g S tn N Z P F i s) E s := by
  obtain ⟨σ, H, hi, hZ, I, st, fr, so, gs, hgs, hgo⟩ := h
  have pa := I.pin (a, ob) (List.mem_append_right _ (List.mem_singleton.mpr rfl))
  have hbs : AllBare (s.setGen g .running).gens := bare_set I.bare rfl
  have hgl : g < s.gens.size := (Array.getElem?_eq_some_iff.mp hgs).1
  refine GenW.wpAny_gsz (n := g + 1) hgl ?_
  refine wpAny_pyNext_genexpQ (P := fun n s₀ s => ∃ i σ H, n + i = N + 1 ∧ F i σ H ∧ Inv (gCx X s0 H0 NG fp cenv) ([(a, ob)] ++ pinsAt S s₀.heap) σ H s) hd I.nolimit hroom (hob _ pa.1) hgs (hgo _ (inv_gens (t' := s.toks) I hbs) st so) (fun v s₁ gs' hb hv => ?_) (fun s₁ hp h' hk => ?_)
  · intro hsz
    obtain ⟨i', y, σ2, H2, e1, hlt, rv, hP, I2, st2, fr2, fS2, kap⟩ := hv
    have ei : i' = i := by omega
    subst ei
    have pS : ∀ b ∈ S, ∃ o, s.heap.get? b = some o ∧ s₁.heap.get? b = some o ∧ ∀ v, o.data ≠ .cell v := fun b hb => by
      obtain ⟨_, o, e, d⟩ := so b hb
      exact ⟨o, e, (I2.pin (b, o) (List.mem_append_right _ (List.mem_append_right _ (mem_pinsAt hb e)))).1, d⟩
    have hb2 : AllBare (s₁.setGen g gs').gens := bare_set I2.bare hb
    refine .inr ⟨v, y, σ2, H2, rfl, hlt, rv, hP, inv_gens (t' := s₁.toks) I2.unpinned hb2, fun b hb => ⟨fS2 b hb, (pS b hb).elim fun o h => ⟨o, h.2.1, h.2.2⟩⟩, fun b hb => ?_, fun hZ2 s'' J1 kf so2 eg => ?_⟩
    · obtain ⟨o, e, e2, _⟩ := pS b hb
      exact e2.trans e.symm
    · have stn : tn (i' + 1) s''.heap := T.keep _ _ _ st2 fun b hb o e => (kf b hb).trans e
      refine ⟨σ2, H2, hlt, hZ2, J1, stn, fr2, so2, gs', ?_, fun s3 J3 st3 so3 => ?_⟩
      · rw [eg]
        exact L2.setGen_at (by
          have q : (s₁.setGen g gs').gens.size = s₁.gens.size := GenW.setGen_size _ _ _
          have hsz' : g + 1 ≤ (s₁.setGen g gs').gens.size := hsz
          omega)
      · have e3 : N + 1 - i' = (N + 1 - (i' + 1)) + 1 := by omega
        have := kap s3 hZ2 J3 st3 so3
        rw [e3] at this
        exact this
  · intro _
    obtain ⟨i', σ2, H2, e1, hF, I2⟩ := hp
    have ei : i' = i := by omega
    subst ei
    have pS : ∀ b ∈ S, ∃ o, s.heap.get? b = some o ∧ s₁.heap.get? b = some o ∧ (∀ v, o.data ≠ .cell v) ∧ H2 b = none := fun b hb => by
      obtain ⟨_, o, e, d⟩ := so b hb
      have p := I2.pin (b, o) (List.mem_append_right _ (List.mem_append_right _ (mem_pinsAt hb e)))
      exact ⟨o, e, p.1, d, p.2.1⟩
    have hb2 : AllBare (s₁.setGen g .finished).gens := bare_set I2.bare rfl
    have J1 := (inv_gens (t' := s₁.toks) I2.unpinned hb2).kept (t' := s₁.toks) hk
    refine .inl ⟨rfl, σ2, H2, hF, J1, fun b hb => ⟨(pS b hb).elim fun _ h => h.2.2.2, (pS b hb).elim fun o h => ⟨o, hk _ _ h.2.1, h.2.2.1⟩⟩, fun b hb => ?_⟩
    obtain ⟨o, e, e2, _⟩ := pS b hb
    exact (hk _ _ e2).trans e.symm
theorem all_loop {tg : Expr} {J : It} {it : Addr} {Q : VK} (T : Turn X.prog X.w X.K tg J fp it tn) (hob : ∀ h : Heap, h.get? a = some ob → h.IsGen a g) (hd : X.A.handled = none) (hroom : X.A.depth < recursionLimit) : ∀ (k i : Nat) (s : Shared), N - i = k →
    GenSt X s0 H0 NG fp cenv a ob g [] tn N Z (fun i y σ H => (y = .bl true ∧ Z (i + 1) σ H) ∨ (y = .bl false ∧ Q (.bl false) H)) (fun _ _ H => Q (.bl true) H) i s →
    codeAny (model X.prog X.w) X.A (.builtin "all.loop" ⟨[.ref a], []⟩) (fun r s' => ∃ b σ H, r = .ok (.ret (.bool b)) ∧ Inv (gCx X s0 H0 NG fp cenv) [(a, ob)] σ H s' ∧ Q (.bl b) H) s := by
  intro k
  induction k with
  | zero =>
    intro i s hk h
    refine codeAny_builtin F.entry_all_loop ?_
    rw [Around.under_plainId F.plain_all_loop _]
    show wpAny _ X.A.in1 (pyNext (.ref a) >>= _) _ _ s
    refine wpAny_bind (thn (gen_next T hob hd hroom h) fun r s' hn => ?_)
    rcases hn with ⟨rfl, σ, H, hF, I, _⟩ | ⟨v, y, σ, H, rfl, hlt, _⟩
    · exact wpAny_bind (wpAny_rule (wpAny_pure ⟨true, σ, H, rfl, I, hF⟩))
    · omega
  | succ k ih =>
    intro i s hk h
    refine codeAny_builtin F.entry_all_loop ?_
    rw [Around.under_plainId F.plain_all_loop _]
    show wpAny _ X.A.in1 (pyNext (.ref a) >>= _) _ _ s
    refine wpAny_bind (thn (gen_next T hob hd hroom h) fun r s' hn => ?_)
    rcases hn with ⟨rfl, σ, H, hF, I, _⟩ | ⟨v, y, σ, H, rfl, hlt, rv, hP, I, so, _, next⟩
    · exact wpAny_bind (wpAny_rule (wpAny_pure ⟨true, σ, H, rfl, I, hF⟩))
    · rcases hP with ⟨rfl, hZ⟩ | ⟨rfl, hQ⟩
      · obtain rfl : v = .bool true := rv
        refine wpAny_bind (wpAny_holding (wpAny_truthy_bool ?_))
        refine wpAny_bind (wpAny_letGo ?_)
        simp only [if_true]
        exact wpAny_pure ⟨plainId_quiet F.plain_all_loop _, ih (i + 1) _ (by omega) (next hZ s' I (fun _ _ => rfl) so rfl)⟩
      · obtain rfl : v = .bool false := rv
        refine wpAny_bind (wpAny_holding (wpAny_truthy_bool ?_))
        refine wpAny_bind (wpAny_letGo ?_)
        simp only [Bool.false_eq_true, if_false]
        exact wpAny_bind (wpAny_rule (wpAny_pure ⟨false, σ, H, rfl, I, hQ⟩))
theorem any_loop {tg : Expr} {J : It} {it : Addr} {Q : VK} (T : Turn X.prog X.w X.K tg J fp it tn) (hob : ∀ h : Heap, h.get? a = some ob → h.IsGen a g) (hd : X.A.handled = none) (hroom : X.A.depth < recursionLimit) : ∀ (k i : Nat) (s : Shared), N - i = k →
    GenSt X s0 H0 NG fp cenv a ob g [] tn N Z (fun i y σ H => (y = .bl false ∧ Z (i + 1) σ H) ∨ (y = .bl true ∧ Q (.bl true) H)) (fun _ _ H => Q (.bl false) H) i s →
    codeAny (model X.prog X.w) X.A (.builtin "any.loop" ⟨[.ref a], []⟩) (fun r s' => ∃ b σ H, r = .ok (.ret (.bool b)) ∧ Inv (gCx X s0 H0 NG fp cenv) [(a, ob)] σ H s' ∧ Q (.bl b) H) s := by
  intro k
  induction k with
  | zero =>
    intro i s hk h
    refine codeAny_builtin F.entry_any_loop ?_
    rw [Around.under_plainId F.plain_any_loop _]
    show wpAny _ X.A.in1 (pyNext (.ref a) >>= _) _ _ s
    refine wpAny_bind (thn (gen_next T hob hd hroom h) fun r s' hn => ?_)
    rcases hn with ⟨rfl, σ, H, hF, I, _⟩ | ⟨v, y, σ, H, rfl, hlt, _⟩
    · exact wpAny_bind (wpAny_rule (wpAny_pure ⟨false, σ, H, rfl, I, hF⟩))
    · omega
  | succ k ih =>
    intro i s hk h
    refine codeAny_builtin F.entry_any_loop ?_
    rw [Around.under_plainId F.plain_any_loop _]
    show wpAny _ X.A.in1 (pyNext (.ref a) >>= _) _ _ s
    refine wpAny_bind (thn (gen_next T hob hd hroom h) fun r s' hn => ?_)
    rcases hn with ⟨rfl, σ, H, hF, I, _⟩ | ⟨v, y, σ, H, rfl, hlt, rv, hP, I, so, _, next⟩
    · exact wpAny_bind (wpAny_rule (wpAny_pure ⟨false, σ, H, rfl, I, hF⟩))
    · rcases hP with ⟨rfl, hZ⟩ | ⟨rfl, hQ⟩
      · obtain rfl : v = .bool false := rv
        refine wpAny_bind (wpAny_holding (wpAny_truthy_bool ?_))
        refine wpAny_bind (wpAny_letGo ?_)
        simp only [Bool.false_eq_true, if_false]
        exact wpAny_pure ⟨plainId_quiet F.plain_any_loop _, ih (i + 1) _ (by omega) (next hZ s' I (fun _ _ => rfl) so rfl)⟩
      · obtain rfl : v = .bool true := rv
        refine wpAny_bind (wpAny_holding (wpAny_truthy_bool ?_))
        refine wpAny_bind (wpAny_letGo ?_)
        simp only [if_true]
        exact wpAny_bind (wpAny_rule (wpAny_pure ⟨true, σ, H, rfl, I, hQ⟩))
/-- the sum so far stands in the list at S -/
theorem sum_loop {tg : Expr} {J : It} {it : Addr} {Q : VK} {S : Addr} {vals : List Int} (hfp : ∀ b ∈ fp, b ≠ S) (hSa : S ≠ a) (T : Turn X.prog X.w X.K tg J fp it tn) (hob : ∀ h : Heap, h.get? a = some ob → h.IsGen a g) (hd : X.A.handled = none) (hroom : X.A.depth < recursionLimit)
    (hS : s0.heap.objs.size ≤ S ∧ S ≠ cenv.locals ∧ S ∉ frs X.stack ∧ (∀ x c, cenv.cells.lookup x = some c → c ≠ S))
    (hfit : ∀ j v, vals[j]? = some v → InLong v ∧ InLong ((vals.take j).sum + v)) : ∀ (k i : Nat) (s : Shared) (tA : Tok) (c : Nat), N - i = k →
    GenSt X s0 H0 NG fp cenv a ob g [S] tn N Z (fun i y σ H => ∃ v, vals[i]? = some v ∧ y = .int v ∧ Z (i + 1) σ H) (fun i _ H => i = vals.length ∧ Q (.int vals.sum) H) i s → s.heap.get? S = some { cls := .type "list", dict := none, data := .seq #[.int (vals.take i).sum tA] c, slots := #[] } →
    codeAny (model X.prog X.w) X.A (.builtin "sum.loop" ⟨[.ref a, .ref S, rawInt 0, rawInt 0], []⟩) (fun r s' => ∃ t σ H, r = .ok (.ret (.int vals.sum t)) ∧ Inv (gCx X s0 H0 NG fp cenv) [(a, ob)] σ H s' ∧ Q (.int vals.sum) H) s := by
  intro k
  have fin : ∀ (i : Nat) (tA : Tok), i = vals.length → (vals.take i).sum = vals.sum := fun i _ e => by rw [e, List.take_length]
  induction k with
  | zero =>
    intro i s tA c hk h hs
    refine codeAny_builtin F.entry_sum_loop ?_
    rw [Around.under_plainId F.plain_sum_loop _]
    show wpAny _ X.A.in1 (seqItems? (.ref S) >>= _) _ _ s
    refine wpAny_bind (wpAny_seqItems hs rfl ?_)
    show wpAny _ X.A.in1 (tryCatch (pyNext (.ref a)) _ >>= _) _ _ s
    refine wpAny_bind (wpAny_tryCatch (thn (gen_next T hob hd hroom h) fun r s' hn => ?_))
    rcases hn with ⟨rfl, σ, H, ⟨e, hF⟩, I, _⟩ | ⟨v, y, σ, H, rfl, hlt, _⟩
    · exact wpAny_pure ⟨tA, σ, H, by rw [← fin i tA e]; rfl, I, hF⟩
    · omega
  | succ k ih =>
    intro i s tA c hk h hs
    refine codeAny_builtin F.entry_sum_loop ?_
    rw [Around.under_plainId F.plain_sum_loop _]
    show wpAny _ X.A.in1 (seqItems? (.ref S) >>= _) _ _ s
    refine wpAny_bind (wpAny_seqItems hs rfl ?_)
    show wpAny _ X.A.in1 (tryCatch (pyNext (.ref a)) _ >>= _) _ _ s
    refine wpAny_bind (wpAny_tryCatch (thn (gen_next T hob hd hroom h) fun r s' hn => ?_))
    rcases hn with ⟨rfl, σ, H, ⟨e, hF⟩, I, _⟩ | ⟨v, y, σ, H, rfl, hlt, rv, ⟨z, hz, rfl, hZ⟩, I, so, same, next⟩
    · exact wpAny_pure ⟨tA, σ, H, by rw [← fin i tA e]; rfl, I, hF⟩
    · obtain ⟨t, rfl⟩ := _root_.id rv
      have hS' : s'.heap.get? S = some { cls := .type "list", dict := none, data := .seq #[.int (vals.take i).sum tA] c, slots := #[] } := (same S (List.mem_singleton.mpr rfl)).trans hs
      obtain ⟨⟨f1, f2⟩, f3, f4⟩ := hfit i z hz
      have hc : ((decide (-(2 ^ 63) ≤ z) && decide (z < 2 ^ 63)) && (decide (-(2 ^ 63) ≤ (vals.take i).sum + z) && decide ((vals.take i).sum + z < 2 ^ 63))) = true := by
        simp only [Bool.and_eq_true, decide_eq_true_eq]
        exact ⟨⟨f1, f2⟩, f3, f4⟩
      have es : (vals.take (i + 1)).sum = (vals.take i).sum + z := by
        rw [List.take_succ, hz]; simp
      show wpAny _ X.A.in1 (if (_ : Bool) = true then (mkInt ((vals.take i).sum + z) >>= _) else _) _ _ _
      split
      · refine wpAny_bind (wpAny_mkInt ?_)
        show wpAny _ X.A.in1 (updateSeq S (fun _ => #[.int ((vals.take i).sum + z) s'.toks]) >>= _) _ _ _
        refine wpAny_bind ?_
        refine wpAny_updateSeq hS' rfl (wpAny_pure ⟨plainId_quiet F.plain_sum_loop _, ih (i + 1) _ s'.toks _ (by omega) (next hZ _ ?_ (fun b hb => ?_) ?_ rfl) (by rw [es]; exact Heap.get?_update_self _ hS' rfl)⟩)
        · refine (inv_gens (t' := s'.toks + 1) I I.bare).turned (it := S) (fun b o hb e => (Heap.get?_update_other _ _ (Ne.symm hb)).trans e) (so S (List.mem_singleton.mpr rfl)).1 hS.2.1 (.inr hS.1) hS.2.2.2 fun p hp => ?_
          have hp : p ∈ [(a, ob)] := hp
          rw [List.mem_singleton.mp hp]
          exact Ne.symm hSa
        · exact Heap.get?_update_other _ _ (Ne.symm (hfp b hb))
        · intro b hb
          rw [List.mem_singleton.mp hb]
          exact ⟨(so S (List.mem_singleton.mpr rfl)).1, _, Heap.get?_update_self _ hS' rfl, fun v e => by cases e⟩
      · rename_i hn
        exact absurd hc hn
end
/-! ### the making -/
/-- a generator has been made: a, at s5; H3 is what is held from then on -/
def Made (X : Cx) (pins : List (Addr × Obj)) (σ : L2.St) (NG : List Str) (js : List (Option Nat)) (elt tg iter : Expr) (scope : Scope) (gpos : Pos) (J : It) (H3 : Hp) (a : Addr) (s5 : Shared) : Prop :=
  ∃ (s3 : Shared) (it : Addr) (fp : List Addr) (tn : Nat → Heap → Prop) (C : Addr) (code : Value) (ob : Obj) (g : Nat), Inv X pins σ H3 s3 ∧ Turn X.prog X.w X.K tg J fp it tn ∧ tn 0 s5.heap ∧ (∀ b ∈ fp, FpOk X pins H3 b) ∧ (∀ b ∈ fp, b < s3.heap.objs.size) ∧ C = s3.heap.objs.size ∧ C < a ∧
    Inv (gCx X s3 H3 NG fp (gEnv X scope C code)) [(a, ob)] (capS js σ) H3 s5 ∧ s5.gens[g]? = some (.fresh (gCode0 X elt tg iter scope gpos it C code)) ∧ (∀ h : Heap, h.get? a = some ob → h.IsGen a g)
section
variable {X : Cx} {pins : List (Addr × Obj)} {σ : L2.St} {H : Hp} {s : Shared}
theorem gen_make {c P : Addr} {elt tg iter : Expr} {gpos : Pos} {scope : Scope} {NG : List Str} {js : List (Option Nat)} {wi : TI} {k : Nat} {Q' : Value → Shared → Prop} {R : It → Hp → Prop}
    (hr : Room k X.A) (TB : TabB X.base X.mg c P) (hcode : X.env.code = .ref c) (G : GSc X.env.scope scope) (hi : PI X tg iter wi) (hN : capB X.N NG scope js = true)
    (hs : ∀ v, genFold iter X.env v = pure v) (I : Inv X pins σ H s) (h : wi σ H fun J H1 => TabG H1 P ∧ R J H1)
    (hQ : ∀ J H1 H3 a s5, Tabbed P H1 H3 → R J H1 → Made X pins σ NG js elt tg iter scope gpos J H3 a s5 → Q' (.ref a) s5) :
    wpAny (model X.prog X.w) X.A (eval (.GeneratorExp elt [⟨tg, iter, [], 0⟩] scope gpos) X.env) Q' X.xe s := by
  have hfree : ∀ y ∈ scope.names, y.2 = .free → ∃ c, X.env.cells.lookup y.1 = some c := fun y hy e => by
    rcases G.free y hy e with k | k
    · exact I.ok.has _ (.inl k)
    · exact I.ok.has _ (.inr k)
  refine wpAny_GeneratorExp_make G.co (closure_ok hfree) G.cell G.dot G.kind (by have := hr.dp; omega) ?_ hs
  refine thn (hi.run pins s σ H _ I h) fun xv s1 h1 => thn h1 fun itv s2 h2 => ?_
  obtain ⟨it, fp, tn, J, H2, rfl, I2, T, st2, f2, ⟨ps, hP, ht⟩, hR⟩ := h2
  have hPs : s2.heap.get? P = some { cls := .none, data := .fields ps } := I2.hok P _ hP
  have cd : PySem.W.CodeHd s2.heap c P := TB.code.keeps I2.bk
  refine ⟨I2.nolimit, ?_⟩
  have cont : ∀ (code : Value) (h3 : Heap) (tk : Nat) (more : Array Value), (∀ b o, b ≠ P → s2.heap.get? b = some o → h3.get? b = some o) → h3.get? P = some { cls := .none, data := .fields (ps ++ more) } → TriplesOk (ps ++ more).toList →
      wpAny (model X.prog X.w) X.A (builtinsFor X.env.globals X.env.builtins) (fun bi s₄ =>
        ∀ h' : Heap, h'.Ns s₄.heap.objs.size (fun y => if y = ".0" then some (.ref it) else none) → Heap.SameBut s₄.heap.objs.size (s₄.heap.push { cls := .type "frame", data := .dict #[] }) h' →
          Q' (.ref h'.objs.size) { s₄ with
            gens := s₄.gens.push (.fresh (.compStart (.GeneratorExp elt [⟨tg, iter, [], 0⟩] scope gpos) 0 (.ref it) .none (genEnv scope (cloFrom X.env.cells scope.names []) s₄.heap.objs.size code bi X.env))),
            toks := s₄.toks + 1 + 1 + 1,
            heap := h'.push { cls := .type "generator", data := .fields #[.int s₄.gens.size 0, .str "<genexpr>" (s₄.toks + 1), .str (X.env.qual ++ "<genexpr>") (s₄.toks + 1 + 1)] } }) X.xe { s2 with heap := h3, toks := tk } := by
    intro code h3 tk more hx hP3 ht3
    have J3 : Inv X pins σ (upd H2 P (.tbl (ps ++ more))) { s2 with heap := h3, toks := tk } := inv_tab (g' := s2.gens) (d' := s2.drawn) I2 hP hx hP3 I2.bare
    obtain ⟨bm, ob, e1, e2, e3, e4, e5, e6, e7, e8⟩ := TB.bm
    refine wpAny_builtinsFor (m := X.mg) (by rw [J3.ok.glob]; exact J3.mod.glob.keeps J3.bk) e1 e2 (J3.bk _ _ e5) e6 e7 e8 ?_
    intro h' hn' hs'
    have hfP : ∀ b ∈ fp, b ≠ P := fun b hb z => by
      have := (f2 b hb).1
      rw [z, hP] at this
      cases this
    have hsz : h'.objs.size = h3.objs.size + 1 := by rw [hs'.1, Heap.size_push]
    have keep' : ∀ b o, h3.get? b = some o → h'.get? b = some o := fun b o e => hs'.extBut b o (Nat.ne_of_lt (Heap.lt_size e)) (Heap.get?_push_of_some _ e)
    have keep₅ : ∀ b o, h3.get? b = some o → (h'.push { cls := .type "generator", data := .fields #[.int s2.gens.size 0, .str "<genexpr>" (tk + 1), .str (X.env.qual ++ "<genexpr>") (tk + 1 + 1)] }).get? b = some o :=
      fun b o e => Heap.get?_push_of_some _ (keep' b o e)
    have f3 : ∀ b ∈ fp, FpOk X pins (upd H2 P (.tbl (ps ++ more))) b := fun b hb => ⟨by rw [upd_ne (hfP b hb)]; exact (f2 b hb).1, (f2 b hb).2⟩
    have fl : ∀ b ∈ fp, b < h3.objs.size := fun b hb => by
      obtain ⟨o, e, _⟩ := T.obj _ _ st2 b hb
      exact Heap.lt_size (hx b o (hfP b hb) e)
    have IX := gen_start (s := { s2 with heap := h3, toks := tk }) (NG := NG) (code := code) (it := it) (js := js) (tk := tk + 1 + 1 + 1) (g₁ := s2.gens.push (.fresh (.compStart (.GeneratorExp elt [⟨tg, iter, [], 0⟩] scope gpos) 0 (.ref it) .none (gEnv X scope h3.objs.size code)))) J3 G f3 fl hr.hd (hn'.push _) keep₅ (I2.bare.push rfl) hN
    have aF : h3.objs.size ≤ h'.objs.size := by omega
    refine hQ J H2 _ h'.objs.size _ ⟨⟨ps ++ more, upd_same, ht3⟩, fun b hb => upd_ne hb⟩ hR ⟨{ s2 with heap := h3, toks := tk }, it, fp, tn, h3.objs.size, code, { cls := .type "generator", data := .fields #[.int s2.gens.size 0, .str "<genexpr>" (tk + 1), .str (X.env.qual ++ "<genexpr>") (tk + 1 + 1)] }, s2.gens.size, J3, T, T.keep _ _ _ st2 fun b hb o e => keep₅ b o (hx b o (hfP b hb) e), f3, fl, rfl, (by show h3.objs.size < h'.objs.size; omega), IX.pins_of fun p hp => ?_, Array.getElem?_push_size .., fun h e => ⟨_, _, _, e, rfl, rfl, rfl⟩⟩
    rw [List.mem_singleton.mp hp]
    have nfr : h'.objs.size ∉ frs X.stack := fun z => by
      rcases List.mem_cons.mp (J3.stkSub _ z) with e | e
      · have h1 : X.env.locals < h3.objs.size := J3.lt
        have e : (h'.objs.size : Nat) = X.env.locals := e
        rw [← e] at h1
        exact absurd (Nat.lt_of_lt_of_le h1 aF) (Nat.lt_irrefl _)
      · exact J3.nofs (a := h'.objs.size) aF e
    refine ⟨Heap.get?_push_size _ rfl, J3.hok.fresh aF, ?_, nfr, fun v e => by cases e⟩
    show h'.objs.size ≠ h3.objs.size
    omega
  cases hf : codeAmong gpos ps.toList with
  | none =>
    refine wpAny_genexprCodeX hcode (cd.code hPs ht) (cd.tab hPs) hf fun c' h' tk hx hge hlt hco' _ htab' _ => ?_
    obtain ⟨o1, vs, f1, tf, fl, tg, inF, tx, tt, op, _, _, _, _, _, _, _, _, _, htr, _⟩ := hco'
    exact cont _ h' tk _ (fun b o hb e => hx b o hb e) htab'.2 htr
  | some cv =>
    refine wpAny_genexprCode_hit hcode (cd.code hPs ht) hf ?_
    exact cont cv s2.heap s2.toks #[] (fun _ _ _ e => e) (by rw [Array.append_empty]; exact hPs) (by rw [Array.append_empty]; exact ht)
/-- behind it -/
theorem gen_after {s3 s' : Shared} {H3 H' : Hp} {NG : List Str} {fp : List Addr} {cenv : Env} {pins' : List (Addr × Obj)} {σ' : L2.St} (I : Inv X pins σ H3 s3) (hf : ∀ b ∈ fp, FpOk X pins H3 b) (J : Inv (gCx X s3 H3 NG fp cenv) pins' σ' H' s') : Inv X pins σ H' s' :=
  I.call' J.os J.base J.hok J.bare fun b hb => ⟨(hf b hb).2.2.2.1, (hf b hb).2.1, (hf b hb).2.2.2.2.1, (hf b hb).2.2.2.2.2⟩
end
/-! ### any, all, sum -/
/-- what a generator's frame hangs on -/
structure GPar where
  s : Shared
  H : Hp
  fp : List Addr
  C : Addr
  code : Value
def tQG (al : Bool) (P : Addr) (js : List (Option Nat)) (wi : TI) (g : GPar → TG) (te : GPar → TE) : TE := fun σ H Q => wi σ H fun J H1 => TabG H1 P ∧ ∀ a H3, Tabbed P H1 H3 → ∃ (N : Nat) (Z : Nat → L2.St → Hp → Prop), Z 0 (capS js σ) H3 ∧
  ∀ i σ' H', Z i σ' H' → (J.stop i H' ∧ Q (.bl al) H') ∨ (J.go i H' ∧ i < N ∧ ∀ x H2, J.yld i H' x H2 → g a x σ' H2 fun σ2 H4 => te a σ2 H4 fun y H5 => (y = .bl al ∧ Z (i + 1) σ2 H5) ∨ (y = .bl (!al) ∧ Q (.bl (!al)) H5))
def tSumG (P : Addr) (js : List (Option Nat)) (wi : TI) (g : GPar → TG) (te : GPar → TE) : TE := fun σ H Q => wi σ H fun J H1 => TabG H1 P ∧ ∀ a H3, Tabbed P H1 H3 → ∃ (vals : List Int) (Z : Nat → L2.St → Hp → Prop), (∀ (j : Nat) (v : Int), vals[j]? = some v → InLong v ∧ InLong ((vals.take j).sum + v)) ∧ Z 0 (capS js σ) H3 ∧
  ∀ i σ' H', Z i σ' H' → (J.stop i H' ∧ i = vals.length ∧ Q (.int vals.sum) H') ∨ (J.go i H' ∧ i < vals.length ∧ ∀ x H2, J.yld i H' x H2 → g a x σ' H2 fun σ2 H4 => te a σ2 H4 fun y H5 => ∃ v, vals[i]? = some v ∧ y = .int v ∧ Z (i + 1) σ2 H5)
section
variable {X : Cx} {c P : Addr} {elt tg iter : Expr} {p gpos pos : Pos} {scope : Scope} {NG : List Str} {js : List (Option Nat)} {wi : TI} {g : GPar → TG} {te : GPar → TE} {k : Nat}
theorem gfix {s3 : Shared} {H3 : Hp} {pins : List (Addr × Obj)} {σ : L2.St} {fp : List Addr} {code : Value} {a : Addr} (I : Inv X pins σ H3 s3) (G : GSc X.env.scope scope) (f : ∀ b ∈ fp, FpOk X pins H3 b) (fl : ∀ b ∈ fp, b < s3.heap.objs.size) (ha : s3.heap.objs.size < a) {S : List Addr} (hS : ∀ b ∈ S, a < b) :
    GFix X s3 fp (gEnv X scope s3.heap.objs.size code) a S := by
  have hfree : ∀ y ∈ scope.names, y.2 = .free → ∃ c, X.env.cells.lookup y.1 = some c := fun y hy e => by
    rcases G.free y hy e with k | k
    · exact I.ok.has _ (.inl k)
    · exact I.ok.has _ (.inr k)
  have cm : ∀ {y c}, (cloFrom X.env.cells scope.names []).lookup y = some c → X.env.cells.lookup y = some c := fun {y c} e => by
    rcases cloFrom_mem (PySem.mem_of_lookup e) with hm | ⟨h1, h2⟩
    · cases hm
    · obtain ⟨c1, hc⟩ := hfree _ h1 rfl
      have hc : X.env.cells.lookup y = some c1 := hc
      have e2 : c = c1 := by
        rw [h2, hc] <;> rfl
      rw [e2]
      exact hc
  have nfr : ∀ b, s3.heap.objs.size ≤ b → b ∉ frs X.stack := fun b hb z => by
    rcases List.mem_cons.mp (I.stkSub _ z) with e | e
    · have h1 := I.lt
      rw [← e] at h1
      exact Nat.lt_irrefl _ (Nat.lt_of_lt_of_le h1 hb)
    · exact I.nofs hb e
  refine ⟨fun b hb => ⟨Nat.ne_of_lt (fl b hb), fun z => ?_, fun x c e => (f b hb).2.2.2.2.1 x c (cm e), Nat.ne_of_lt (Nat.lt_trans (fl b hb) ha), fun z => absurd (Nat.lt_trans (Nat.lt_trans (fl b hb) ha) (hS b z)) (Nat.lt_irrefl _)⟩,
    fun b hb => ⟨Nat.le_of_lt (Nat.lt_trans ha (hS b hb)), Nat.ne_of_gt (Nat.lt_trans ha (hS b hb)), nfr b (Nat.le_of_lt (Nat.lt_trans ha (hS b hb))), fun x c e z => ?_, Nat.ne_of_gt (hS b hb)⟩⟩
  · rcases List.mem_cons.mp (I.stkSub b z) with e | e
    · exact (f b hb).2.1 e
    · exact (f b hb).2.2.1 e
  · obtain ⟨v, q⟩ := I.cell x c (cm e)
    have h1 : c < s3.heap.objs.size := q.lt
    rw [z] at h1
    exact Nat.lt_irrefl _ (Nat.lt_trans (Nat.lt_trans ha (hS b hb)) h1)
theorem pe_allG (hr : Room (k + 1) X.A) (hgl : Gl X "all") (hm : X.mg "all" = none) (hb : bootBuiltins "all" = some (.builtin "all")) (TB : TabB X.base X.mg c P) (hcode : X.env.code = .ref c) (G : GSc X.env.scope scope) (hi : PI X tg iter wi) (hN : capB X.N NG scope js = true)
    (hg : ∀ a : GPar, PG (gCx X a.s a.H NG a.fp (gEnv X scope a.C a.code)) tg (g a)) (he : ∀ a : GPar, Room k (gA X (gEnv X scope a.C a.code)) → PE (gCx X a.s a.H NG a.fp (gEnv X scope a.C a.code)) elt (te a)) (hs : ∀ v, genFold iter X.env v = pure v)
    (hst : starEach [.GeneratorExp elt [⟨tg, iter, [], 0⟩] scope gpos] X.env = (false, eval (.GeneratorExp elt [⟨tg, iter, [], 0⟩] scope gpos) X.env) :: starEach [] X.env := by rfl) :
    PE X (.Call (.Name "all" p) [.GeneratorExp elt [⟨tg, iter, [], 0⟩] scope gpos] [] pos) (tQG true P js wi g te) := by
  refine ⟨fun pins s σ H Q I h => ?_⟩
  refine wpAny_Call_Name_kw (ld_blt I hgl hm hb ?_)
  refine PyProof.Rows.callWith_builtin1 ?_ hst (by rfl)
  rw [hst]
  show wpAny _ _ (spliced ((false, eval (.GeneratorExp elt [⟨tg, iter, [], 0⟩] scope gpos) X.env) :: backTo pos (starEach [] X.env))) _ _ s
  refine Calls.spliced_cons (gen_make hr TB hcode G hi hN hs I h fun J H1 H3 a s5 hT hR M => ?_)
  refine Calls.spliced_nil ?_
  obtain ⟨s3, it, fp, tn, C, code, ob, gn, I3, T, st5, f3, fl, rfl, ha, I5, hgs, hob⟩ := M
  obtain ⟨N, Z, z0, turn⟩ := hR ⟨s3, H3, fp, s3.heap.objs.size, code⟩ H3 hT
  have fx : GFix X s3 fp (gEnv X scope s3.heap.objs.size code) a [] := gfix I3 G f3 fl ha (fun b hb => absurd hb (by simp))
  have pa := I5.pin (a, ob) (List.mem_append_right _ (List.mem_singleton.mpr rfl))
  have g0 : GenSt X s3 H3 NG fp (gEnv X scope s3.heap.objs.size code) a ob gn [] tn N Z (fun i y σ H => (y = .bl true ∧ Z (i + 1) σ H) ∨ (y = .bl false ∧ Q (.bl false) H)) (fun _ _ H => Q (.bl true) H) 0 s5 :=
    ⟨_, _, Nat.zero_le _, z0, I5, st5, fun b hb => (f3 b hb).1, fun b hb => absurd hb (by simp), _, hgs, fun s'' J2 st2 so2 => ⟨rfl, seg_start rfl G.co fx T (hg ⟨s3, H3, fp, s3.heap.objs.size, code⟩) (he ⟨s3, H3, fp, s3.heap.objs.size, code⟩ (room_g hr)) turn s'' _ _ z0 J2 st2 (fun b hb => (f3 b hb).1) so2⟩⟩
  refine call_function_tree F.kind_all F.plain_all F.entry_all (F.args_all1 _) ?_
  unfold Builtin.«all»
  refine wpAny_bind (m := oneArg "all" _) (wpAny_pure ?_)
  refine wpAny_bind (wpAny_pyIter_gen (hob _ pa.1) ?_)
  refine wpAny_pure ⟨plainId_quiet F.plain_all_loop _, codeAny_mono (all_loop (Q := Q) T hob hr.hd (by have := hr.dp; omega) N 0 s5 rfl g0) fun r s' hq => ?_⟩
  obtain ⟨b, σ', H', rfl, J2, q⟩ := hq
  exact ⟨.bl b, H', gen_after I3 f3 J2, rfl, q⟩
theorem pe_anyG (hr : Room (k + 1) X.A) (hgl : Gl X "any") (hm : X.mg "any" = none) (hb : bootBuiltins "any" = some (.builtin "any")) (TB : TabB X.base X.mg c P) (hcode : X.env.code = .ref c) (G : GSc X.env.scope scope) (hi : PI X tg iter wi) (hN : capB X.N NG scope js = true)
    (hg : ∀ a : GPar, PG (gCx X a.s a.H NG a.fp (gEnv X scope a.C a.code)) tg (g a)) (he : ∀ a : GPar, Room k (gA X (gEnv X scope a.C a.code)) → PE (gCx X a.s a.H NG a.fp (gEnv X scope a.C a.code)) elt (te a)) (hs : ∀ v, genFold iter X.env v = pure v)
    (hst : starEach [.GeneratorExp elt [⟨tg, iter, [], 0⟩] scope gpos] X.env = (false, eval (.GeneratorExp elt [⟨tg, iter, [], 0⟩] scope gpos) X.env) :: starEach [] X.env := by rfl) :
    PE X (.Call (.Name "any" p) [.GeneratorExp elt [⟨tg, iter, [], 0⟩] scope gpos] [] pos) (tQG false P js wi g te) := by
  refine ⟨fun pins s σ H Q I h => ?_⟩
  refine wpAny_Call_Name_kw (ld_blt I hgl hm hb ?_)
  refine PyProof.Rows.callWith_builtin1 ?_ hst (by rfl)
  rw [hst]
  show wpAny _ _ (spliced ((false, eval (.GeneratorExp elt [⟨tg, iter, [], 0⟩] scope gpos) X.env) :: backTo pos (starEach [] X.env))) _ _ s
  refine Calls.spliced_cons (gen_make hr TB hcode G hi hN hs I h fun J H1 H3 a s5 hT hR M => ?_)
  refine Calls.spliced_nil ?_
  obtain ⟨s3, it, fp, tn, C, code, ob, gn, I3, T, st5, f3, fl, rfl, ha, I5, hgs, hob⟩ := M
  obtain ⟨N, Z, z0, turn⟩ := hR ⟨s3, H3, fp, s3.heap.objs.size, code⟩ H3 hT
  have fx : GFix X s3 fp (gEnv X scope s3.heap.objs.size code) a [] := gfix I3 G f3 fl ha (fun b hb => absurd hb (by simp))
  have pa := I5.pin (a, ob) (List.mem_append_right _ (List.mem_singleton.mpr rfl))
  have g0 : GenSt X s3 H3 NG fp (gEnv X scope s3.heap.objs.size code) a ob gn [] tn N Z (fun i y σ H => (y = .bl false ∧ Z (i + 1) σ H) ∨ (y = .bl true ∧ Q (.bl true) H)) (fun _ _ H => Q (.bl false) H) 0 s5 :=
    ⟨_, _, Nat.zero_le _, z0, I5, st5, fun b hb => (f3 b hb).1, fun b hb => absurd hb (by simp), _, hgs, fun s'' J2 st2 so2 => ⟨rfl, seg_start rfl G.co fx T (hg ⟨s3, H3, fp, s3.heap.objs.size, code⟩) (he ⟨s3, H3, fp, s3.heap.objs.size, code⟩ (room_g hr)) turn s'' _ _ z0 J2 st2 (fun b hb => (f3 b hb).1) so2⟩⟩
  refine call_function_tree F.kind_any F.plain_any F.entry_any (F.args_any1 _) ?_
  unfold Builtin.«any»
  refine wpAny_bind (m := oneArg "any" _) (wpAny_pure ?_)
  refine wpAny_bind (wpAny_pyIter_gen (hob _ pa.1) ?_)
  refine wpAny_pure ⟨plainId_quiet F.plain_any_loop _, codeAny_mono (any_loop (Q := Q) T hob hr.hd (by have := hr.dp; omega) N 0 s5 rfl g0) fun r s' hq => ?_⟩
  obtain ⟨b, σ', H', rfl, J2, q⟩ := hq
  exact ⟨.bl b, H', gen_after I3 f3 J2, rfl, q⟩
theorem pe_sumG (hr : Room (k + 1) X.A) (hgl : Gl X "sum") (hm : X.mg "sum" = none) (hb : bootBuiltins "sum" = some (.builtin "sum")) (TB : TabB X.base X.mg c P) (hcode : X.env.code = .ref c) (G : GSc X.env.scope scope) (hi : PI X tg iter wi) (hN : capB X.N NG scope js = true)
    (hg : ∀ a : GPar, PG (gCx X a.s a.H NG a.fp (gEnv X scope a.C a.code)) tg (g a)) (he : ∀ a : GPar, Room k (gA X (gEnv X scope a.C a.code)) → PE (gCx X a.s a.H NG a.fp (gEnv X scope a.C a.code)) elt (te a)) (hs : ∀ v, genFold iter X.env v = pure v)
    (hst : starEach [.GeneratorExp elt [⟨tg, iter, [], 0⟩] scope gpos] X.env = (false, eval (.GeneratorExp elt [⟨tg, iter, [], 0⟩] scope gpos) X.env) :: starEach [] X.env := by rfl) :
    PE X (.Call (.Name "sum" p) [.GeneratorExp elt [⟨tg, iter, [], 0⟩] scope gpos] [] pos) (tSumG P js wi g te) := by
  refine ⟨fun pins s σ H Q I h => ?_⟩
  refine wpAny_Call_Name_kw (ld_blt I hgl hm hb ?_)
  refine PyProof.Rows.callWith_builtin1 ?_ hst (by rfl)
  rw [hst]
  show wpAny _ _ (spliced ((false, eval (.GeneratorExp elt [⟨tg, iter, [], 0⟩] scope gpos) X.env) :: backTo pos (starEach [] X.env))) _ _ s
  refine Calls.spliced_cons (gen_make hr TB hcode G hi hN hs I h fun J H1 H3 a s5 hT hR M => ?_)
  refine Calls.spliced_nil ?_
  obtain ⟨s3, it, fp, tn, C, code, ob, gn, I3, T, st5, f3, fl, rfl, ha, I5, hgs, hob⟩ := M
  obtain ⟨vals, Z, hfit, z0, turn⟩ := hR ⟨s3, H3, fp, s3.heap.objs.size, code⟩ H3 hT
  have pa := I5.pin (a, ob) (List.mem_append_right _ (List.mem_singleton.mpr rfl))
  have ha5 : a < s5.heap.objs.size := Heap.lt_size pa.1
  have fx : GFix X s3 fp (gEnv X scope s3.heap.objs.size code) a [s5.heap.objs.size] := gfix I3 G f3 fl ha (fun b hb => by rw [List.mem_singleton.mp hb]; exact ha5)
  refine call_function_tree F.kind_sum F.plain_sum F.entry_sum (F.args_sum1 _) ?_
  unfold Builtin.«sum»
  simp only [List.length_cons, List.length_nil]
  rw [if_neg (by decide)]
  refine wpAny_bind (wpAny_of_eq (show Builtin.Builtins.bindParams "sum" ["start"] 0 { } = pure [none] from rfl) ?_)
  refine wpAny_bind (wpAny_pyIter_gen (hob _ pa.1) ?_)
  refine wpAny_bind (wpAny_mkInt ?_)
  refine wpAny_bind (wpAny_pure ?_)
  simp only [List.forIn_cons, List.forIn_nil]
  refine wpAny_bind (wpAny_bind (wpAny_bind (wpAny_isInstance (T := "int") (b := false) (typeIs_int _ _ _) PySem.sub_int_str ?_)))
  simp only [Bool.false_eq_true, if_false]
  refine wpAny_pure (wpAny_bind (wpAny_bind (wpAny_isInstance (T := "int") (b := false) (typeIs_int _ _ _) PySem.sub_int_bytes ?_)))
  simp only [Bool.false_eq_true, if_false]
  refine wpAny_pure (wpAny_bind (wpAny_bind (wpAny_isInstance (T := "int") (b := false) (typeIs_int _ _ _) PySem.sub_int_bytearray ?_)))
  simp only [Bool.false_eq_true, if_false]
  refine wpAny_pure (wpAny_pure ?_)
  refine wpAny_bind (wpAny_newObj_type ?_)
  have I6 : Inv (gCx X s3 H3 NG fp (gEnv X scope s3.heap.objs.size code)) [(a, ob)] (capS js σ) H3 { s5 with heap := s5.heap.push { cls := .type "list", data := .seq #[.int 0 s5.toks] }, toks := s5.toks + 1 } := I5.kept fun b o e => Heap.get?_push_of_some _ e
  have hS6 : (s5.heap.push { cls := .type "list", data := .seq #[.int 0 s5.toks] }).get? s5.heap.objs.size = some { cls := .type "list", data := .seq #[.int 0 s5.toks] } := Heap.get?_push_size _ rfl
  have g0 : GenSt X s3 H3 NG fp (gEnv X scope s3.heap.objs.size code) a ob gn [s5.heap.objs.size] tn vals.length Z (fun i y σ H => ∃ v, vals[i]? = some v ∧ y = .int v ∧ Z (i + 1) σ H) (fun i _ H => i = vals.length ∧ Q (.int vals.sum) H) 0 { s5 with heap := s5.heap.push { cls := .type "list", data := .seq #[.int 0 s5.toks] }, toks := s5.toks + 1 } :=
    ⟨_, _, Nat.zero_le _, z0, I6, T.keep _ _ _ st5 fun b _ o e => Heap.get?_push_of_some _ e, fun b hb => (f3 b hb).1, fun b hb => by
      rw [List.mem_singleton.mp hb]
      exact ⟨I5.hok.fresh (Nat.le_refl _), _, hS6, fun v e => by cases e⟩, _, hgs, fun s'' J2 st2 so2 => ⟨rfl, seg_start rfl G.co fx T (hg ⟨s3, H3, fp, s3.heap.objs.size, code⟩) (he ⟨s3, H3, fp, s3.heap.objs.size, code⟩ (room_g hr)) turn s'' _ _ z0 J2 st2 (fun b hb => (f3 b hb).1) so2⟩⟩
  have hfS := fx.s s5.heap.objs.size (List.mem_singleton.mpr rfl)
  refine wpAny_pure ⟨plainId_quiet F.plain_sum_loop _, codeAny_mono (sum_loop (Q := Q) (fun b hb z => (fx.f b hb).2.2.2.2 (by rw [z]; exact List.mem_singleton.mpr rfl)) hfS.2.2.2.2 T hob hr.hd (by have := hr.dp; omega) ⟨hfS.1, hfS.2.1, hfS.2.2.1, hfS.2.2.2.1⟩ hfit vals.length 0 _ s5.toks _ rfl g0 hS6) fun r s' hq => ?_⟩
  obtain ⟨t, σ', H', rfl, J2, q⟩ := hq
  exact ⟨.int vals.sum, H', gen_after I3 f3 J2, ⟨t, rfl⟩, q⟩
end
end L3G

namespace L3
open PySem L2
open Evl (Ex ex_rd ex_l ex_t sq_of st_of fresh_back)

/-! ### generator expressions -/
def allM {α : Type} (f : α → Option Bool) : List α → Option Bool
  | [] => some true
  | x :: xs => match f x with
    | some true => allM f xs
    | o => o
def anyM {α : Type} (f : α → Option Bool) : List α → Option Bool
  | [] => some false
  | x :: xs => match f x with
    | some false => anyM f xs
    | o => o
def quM {α : Type} (al : Bool) (f : α → Option Bool) : List α → Option Bool
  | [] => some al
  | x :: xs => match f x with
    | some b => if b = al then quM al f xs else some b
    | none => none
theorem quM_all {α : Type} (f : α → Option Bool) : ∀ xs : List α, quM true f xs = allM f xs
  | [] => rfl
  | x :: xs => by
    unfold quM allM
    cases f x with
    | none => rfl
    | some b => cases b with
      | true => exact quM_all f xs
      | false => rfl
theorem quM_any {α : Type} (f : α → Option Bool) : ∀ xs : List α, quM false f xs = anyM f xs
  | [] => rfl
  | x :: xs => by
    unfold quM anyM
    cases f x with
    | none => rfl
    | some b => cases b with
      | false => exact quM_any f xs
      | true => rfl
def mapO {α β : Type} (f : α → Option β) : List α → Option (List β)
  | [] => some []
  | x :: xs => match f x, mapO f xs with
    | some y, some ys => some (y :: ys)
    | _, _ => none
theorem mapO_get {α β : Type} {f : α → Option β} : ∀ {xs : List α} {ys : List β}, mapO f xs = some ys → xs.length = ys.length ∧ ∀ (i : Nat) (x : α), xs[i]? = some x → ∃ y, f x = some y ∧ ys[i]? = some y
  | [], ys, h => by
    obtain rfl : [] = ys := Option.some.inj h
    exact ⟨rfl, fun i x e => by simp at e⟩
  | x :: xs, ys, h => by
    unfold mapO at h
    split at h
    · rename_i y ys' e1 e2
      obtain rfl := Option.some.inj h
      obtain ⟨h1, h2⟩ := mapO_get e2
      refine ⟨congrArg (· + 1) h1, fun i z e => ?_⟩
      cases i with
      | zero => obtain rfl : x = z := by simpa using e
                exact ⟨y, e1, rfl⟩
      | succ i => exact h2 i z (by simpa using e)
    · cases h
def longI (i : Int) : Bool := decide (-(2 ^ 63) ≤ i) && decide (i < 2 ^ 63)
def fits (acc : Int) : List Int → Bool
  | [] => true
  | v :: vs => longI v && longI (acc + v) && fits (acc + v) vs
def sumM {α : Type} (f : α → Option Int) (xs : List α) : Option Int := match mapO f xs with
  | some vs => if fits 0 vs = true then some vs.sum else none
  | none => none
theorem longI_ok {i : Int} (h : longI i = true) : InLong i := by
  unfold longI at h
  rw [Bool.and_eq_true, decide_eq_true_eq, decide_eq_true_eq] at h
  exact h
theorem fits_ok : ∀ {vs : List Int} {acc : Int}, fits acc vs = true → ∀ (j : Nat) (v : Int), vs[j]? = some v → InLong v ∧ InLong (acc + (vs.take j).sum + v)
  | [], _, _, _, _, e => by simp at e
  | w :: vs, acc, h, j, v, e => by
    unfold fits at h
    rw [Bool.and_eq_true, Bool.and_eq_true] at h
    cases j with
    | zero =>
      obtain rfl : w = v := by simpa using e
      exact ⟨longI_ok h.1.1, by simpa using longI_ok h.1.2⟩
    | succ j =>
      have := fits_ok h.2 j v (by simpa using e)
      refine ⟨this.1, ?_⟩
      rw [List.take_succ_cons, List.sum_cons, ← Int.add_assoc]
      exact this.2
section
variable {K : Fg} {M : Fr} {σ : St} {B : Hp} {L L1 L2 L' : List Cell} {α β γ δ : Type} {r : Rep α} {s : Rep β} {t : Rep γ} {ta tb tc te : TE} {tt tu : TT} {tA : TA} {i j k : Int} {b c : Bool} {P : Addr} {js : List (Option Nat)} {wi : TI} {g : L3G.GPar → TG} {ge : L3G.GPar → TE}
theorem Own.tabbed {H H' : Hp} (w : Own K B M L H) (hP : P ∈ M.T) (h : GxR.Tabbed P H H') : Own K B M L H' := by
  obtain ⟨h1, h2⟩ := h
  obtain ⟨t1, t2, t3, t4⟩ := w.t P hP
  refine ⟨fun a u e => ?_, fun a u e => ?_, w.bm, fun x hx => ?_, w.nd, fun R hR => ?_⟩
  · rw [h2 a (ne_of_none e t2)]; exact w.b a u e
  · rw [h2 a (ne_of_none e t3)]; exact w.m a u e
  · obtain ⟨⟨o, a1, a2⟩, a3, a4⟩ := w.l x hx
    exact ⟨⟨o, by rw [h2 x.p (fun e => t4 (by rw [← e]; exact List.mem_map.mpr ⟨x, hx, rfl⟩))]; exact a1, a2⟩, a3, a4⟩
  · obtain ⟨s1, s2, s3, s4⟩ := w.t R hR
    refine ⟨?_, s2, s3, s4⟩
    by_cases e : R = P
    · rw [e]; exact h1
    · obtain ⟨ps, q1, q2⟩ := s1
      exact ⟨ps, by rw [h2 R e]; exact q1, q2⟩
theorem ev_quG (al : Bool) {xs : List α} (hP : P ∈ M.T) (hi : EI K M wi σ B L r xs L1) (f : α → Option Bool) (Sg : St → Prop) (h0 : Sg (L3G.capS js σ)) (hm : quM al f xs = some b)
    (hs : ∀ a x c v B' H' σ', f x = some c → Ex B B' → Sg σ' → Own K B' M L1 H' → r.is K B' v x → ∀ Q : St → VK, (∀ σ2 B2 H2, Sg σ2 → Ex B' B2 → Own K B2 M L1 H2 → Q σ2 (.bl c) H2) → g a v σ' H' fun σ2 H2 => ge a σ2 H2 (Q σ2)) :
    EV K M (L3G.tQG al P js wi g ge) σ B L rBool b L1 := fun B1 H e w Q q =>
  hi B1 H e w _ fun J B2 H2 e2 w2 wk => by
    refine ⟨(w2.t P hP).1, fun a H3 hT => ?_⟩
    have w3 := w2.tabbed hP hT
    refine ⟨xs.length, fun i σ' H' => Sg σ' ∧ (∃ B', Ex B2 B' ∧ Own K B' M L1 H') ∧ i ≤ xs.length ∧ quM al f (xs.drop i) = some b, ⟨h0, ⟨B2, Ex.refl _, w3⟩, Nat.zero_le _, hm⟩, ?_⟩
    rintro i σ' H' ⟨sg, ⟨B', eb, w'⟩, hi, hq⟩
    by_cases hl : i = xs.length
    · subst hl
      refine .inl ⟨wk.stop B' L1 H' eb w', ?_⟩
      rw [List.drop_length] at hq
      obtain rfl : al = b := Option.some.inj hq
      exact q _ B' H' (e2.trans eb) w' rfl
    · have hlt : i < xs.length := by omega
      rw [List.drop_eq_getElem_cons hlt] at hq
      have hx : xs[i]? = some xs[i] := List.getElem?_eq_getElem hlt
      obtain ⟨g1, g2⟩ := wk.go i xs[i] B' L1 H' eb w' hx
      unfold quM at hq
      cases hf : f xs[i] with
      | none => rw [hf] at hq; cases hq
      | some c =>
        rw [hf] at hq
        refine .inr ⟨g1, hlt, fun x H4 hy => ?_⟩
        obtain ⟨B4, e4, w4, hr⟩ := g2 x H4 hy
        refine hs a xs[i] c x B4 H4 σ' hf ((e.trans e2).trans (eb.trans e4)) sg w4 hr _ fun σ2 B5 H5 sg5 e5 w5 => ?_
        have hq : (if c = al then quM al f (xs.drop (i + 1)) else some c) = some b := hq
        by_cases hc : c = al
        · rw [if_pos hc] at hq
          exact .inl ⟨by rw [hc], sg5, ⟨B5, (eb.trans e4).trans e5, w5⟩, hlt, hq⟩
        · rw [if_neg hc] at hq
          obtain rfl : c = b := Option.some.inj hq
          have hn : c = !al := by revert hc; cases c <;> cases al <;> simp
          exact .inr ⟨by rw [hn], hn ▸ q _ B5 H5 (((e2.trans eb).trans e4).trans e5) w5 rfl⟩
theorem ev_allG {xs : List α} (hP : P ∈ M.T) (hi : EI K M wi σ B L r xs L1) (f : α → Option Bool) (Sg : St → Prop) (h0 : Sg (L3G.capS js σ)) (hm : allM f xs = some b)
    (hs : ∀ a x c v B' H' σ', f x = some c → Ex B B' → Sg σ' → Own K B' M L1 H' → r.is K B' v x → ∀ Q : St → VK, (∀ σ2 B2 H2, Sg σ2 → Ex B' B2 → Own K B2 M L1 H2 → Q σ2 (.bl c) H2) → g a v σ' H' fun σ2 H2 => ge a σ2 H2 (Q σ2)) :
    EV K M (L3G.tQG true P js wi g ge) σ B L rBool b L1 := ev_quG true hP hi f Sg h0 (by rw [quM_all]; exact hm) hs
theorem ev_anyG {xs : List α} (hP : P ∈ M.T) (hi : EI K M wi σ B L r xs L1) (f : α → Option Bool) (Sg : St → Prop) (h0 : Sg (L3G.capS js σ)) (hm : anyM f xs = some b)
    (hs : ∀ a x c v B' H' σ', f x = some c → Ex B B' → Sg σ' → Own K B' M L1 H' → r.is K B' v x → ∀ Q : St → VK, (∀ σ2 B2 H2, Sg σ2 → Ex B' B2 → Own K B2 M L1 H2 → Q σ2 (.bl c) H2) → g a v σ' H' fun σ2 H2 => ge a σ2 H2 (Q σ2)) :
    EV K M (L3G.tQG false P js wi g ge) σ B L rBool b L1 := ev_quG false hP hi f Sg h0 (by rw [quM_any]; exact hm) hs
theorem ev_sumG {xs : List α} (hP : P ∈ M.T) (hi : EI K M wi σ B L r xs L1) (f : α → Option Int) (Sg : St → Prop) (h0 : Sg (L3G.capS js σ)) (hm : sumM f xs = some k)
    (hs : ∀ a x c v B' H' σ', f x = some c → Ex B B' → Sg σ' → Own K B' M L1 H' → r.is K B' v x → ∀ Q : St → VK, (∀ σ2 B2 H2, Sg σ2 → Ex B' B2 → Own K B2 M L1 H2 → Q σ2 (.int c) H2) → g a v σ' H' fun σ2 H2 => ge a σ2 H2 (Q σ2)) :
    EV K M (L3G.tSumG P js wi g ge) σ B L rInt k L1 := fun B1 H e w Q q =>
  hi B1 H e w _ fun J B2 H2 e2 w2 wk => by
    unfold sumM at hm
    split at hm
    · rename_i vs hvs
      split at hm
      · rename_i hfit
        obtain rfl := Option.some.inj hm
        obtain ⟨hlen, hget⟩ := mapO_get hvs
        refine ⟨(w2.t P hP).1, fun a H3 hT => ?_⟩
        have w3 := w2.tabbed hP hT
        refine ⟨vs, fun i σ' H' => Sg σ' ∧ (∃ B', Ex B2 B' ∧ Own K B' M L1 H') ∧ i ≤ vs.length, fun j v hv => by simpa using fits_ok hfit j v hv, ⟨h0, ⟨B2, Ex.refl _, w3⟩, Nat.zero_le _⟩, ?_⟩
        rintro i σ' H' ⟨sg, ⟨B', eb, w'⟩, hi⟩
        by_cases hl : i = vs.length
        · subst hl
          refine .inl ⟨by rw [← hlen]; exact wk.stop B' L1 H' eb w', rfl, q _ B' H' (e2.trans eb) w' rfl⟩
        · have hlt : i < vs.length := by omega
          have hlt' : i < xs.length := by omega
          have hx : xs[i]? = some xs[i] := List.getElem?_eq_getElem hlt'
          obtain ⟨g1, g2⟩ := wk.go i xs[i] B' L1 H' eb w' hx
          obtain ⟨y, f1, f2⟩ := hget i _ hx
          refine .inr ⟨g1, hlt, fun x H4 hy => ?_⟩
          obtain ⟨B4, e4, w4, hr⟩ := g2 x H4 hy
          refine hs a xs[i] y x B4 H4 σ' f1 ((e.trans e2).trans (eb.trans e4)) sg w4 hr _ fun σ2 B5 H5 sg5 e5 w5 => ?_
          exact ⟨y, f2, rfl, sg5, ⟨B5, (eb.trans e4).trans e5, w5⟩, hlt⟩
      · cases hm
    · cases hm
end
/-! ### a def with its code object -/
structure FunC (K : Fg) (x : Str) (st : Stmt) (f : Addr) (fd : FuncData) (c : Addr) : Prop where
  ex : ∃ (oc : Value) (od : Option Addr) (kV doc pm : Value) (an : Option Addr) (ct : Value) (osl : Array (Option Value)),
    fd = PySem.W.fnOf x x (defArgs st) (defBody st) (defScope st) .none kV doc pm an (.ref c) ct ∧ K.lookup f = some ⟨oc, od, .func fd, osl⟩ ∧ PySem.W.codeIn K (.ref c) x = true
  kp : PySem.W.keepIn K (.ref f) = true
theorem FunC.ok {P : Program} {w : World} {K : Fg} {mg : Str → Option Value} {base : Heap} {x : Str} {st : Stmt} {f : Addr} {fd : FuncData} {c : Addr} {N ps : List Str} {k : Nat} {sp : Sp} (F : FunC K x st f fd c) (S : FnScope N ps (defScope st)) (len : ∀ vs H Q E, sp vs H Q E → vs.length = ps.length)
    (hbody : ∀ (A : Around) (outer : List Env) (s : Shared) (H : Hp) (vs : List V) (Q : VK) (E : XK), Room k (A.deeper (PyProof.Rows.envOfC x (defScope st) s.heap.objs.size f (.ref c))) → sp vs H Q E →
      ∃ t, PSs (cxOf CX0 P w K mg base N x (defScope st) f (.ref c) A outer s H E).nox (defBody st) t ∧ t { nx := fun _ H' => Q .non H', rt := Q } (start N vs) H) : FnOk P w K mg base CX0 (k + 1) f fd ps sp := by
  obtain ⟨oc, od, kV, doc, pm, an, ct, osl, rfl, lk, hcd⟩ := F.ex
  refine fn_of lk hcd S len fun A outer s H vs Q E hr hsp => ?_
  obtain ⟨t, h, q⟩ := hbody A outer s H vs Q E hr hsp
  exact ⟨t, h.nox, q⟩
theorem FunC.binds {K : Fg} {x : Str} {st : Stmt} {f : Addr} {fd : FuncData} {c : Addr} {ps : List Str} (F : FunC K x st f fd c)
    (h : ∀ (kV doc pm : Value) (an : Option Addr) (cdv ct : Value) (us : List Value), us.length = ps.length → bindArgs (PySem.W.fnOf x x (defArgs st) (defBody st) (defScope st) .none kV doc pm an cdv ct) ⟨us, []⟩ = pure (ps.zip us)) : Binds K fd ps [] := by
  obtain ⟨oc, od, kV, doc, pm, an, ct, osl, rfl, lk, hcd⟩ := F.ex
  exact .all (h kV doc pm an _ ct)
theorem FunC.bindsA {K : Fg} {x : Str} {st : Stmt} {f : Addr} {fd : FuncData} {c : Addr} {ps : List Str} (F : FunC K x st f fd c)
    (h : ∀ (kV doc pm : Value) (an : Option Addr) (cdv ct : Value) (us : List Value), us.length = ps.length → bindArgs (PySem.W.fnOf x x (defArgs st) (defBody st) (defScope st) .none kV doc pm an cdv ct) ⟨us, []⟩ = pure (ps.zip us)) (s : Shared) (us : List Value) (hl : us.length = ps.length) : PySem.BindsTo s fd ⟨us, []⟩ (ps.zip us) := by
  obtain ⟨oc, od, kV, doc, pm, an, ct, osl, rfl, lk, hcd⟩ := F.ex
  exact .of_eq (h kV doc pm an _ ct us hl)
theorem funC_of {K : Fg} {x : Str} {st : Stmt} {fd : FuncData} (F : FunD K x x (defArgs st) (defBody st) (defScope st) [] [] (He.fAd K (x, none)) fd) : FunC K x st (He.fAd K (x, none)) fd (He.codeOf K (x, none)) := by
  obtain ⟨oc, od, dV, kV, doc, pm, an, cdv, ct, osl, rfl, lk, hcd, hD, hK⟩ := F.ex
  obtain ⟨c, rfl⟩ := He.codeIn_ref hcd
  rcases hD with ⟨_, rfl⟩ | ⟨e, _⟩
  · have e := He.codeOf_eq (p := (x, none)) lk (c := c) rfl
    rw [e]
    exact ⟨⟨oc, od, kV, doc, pm, an, ct, osl, rfl, lk, hcd⟩, F.kp⟩
  · exact absurd rfl e
end L3

/-! enumerate of a tuple -/
namespace L3G
open PySem PySem.Spec PyProof.Rows L2
set_option maxHeartbeats 4000000 in
theorem meets_enumT (t : Addr) (items : Array Value) :
    Meets (Builtin.«enumerate.__new__» ⟨[.type "enumerate", .ref t], []⟩) (fun _ R s => s.heap.IsTuple t items ∧
      R (.ok (.ret (.ref (s.heap.push { cls := .type "tuple_iterator", data := .fields #[.ref t, .int 0 0] }).objs.size)))
        { s with heap := (s.heap.push { cls := .type "tuple_iterator", data := .fields #[.ref t, .int 0 0] }).push { cls := .type "enumerate", data := .fields #[.none, .bool false, .ref s.heap.objs.size, rawInt 0, .none, .none] } }) :=
  .of_wp fun prog w A R s h => by
    obtain ⟨hp, g, d, tk, os⟩ := s; obtain ⟨hL, h⟩ := h
    have hsub := sub_enumerate
    obtain ⟨o, hl, hc, n, hd⟩ := id hL
    obtain ⟨oc, od, odt, osl⟩ := o
    replace hc : oc = .type "tuple" := hc
    replace hd : odt = .seq items n := hd
    subst hc hd
    wp_walk using wpAny_loadPart' hl
    refine wpAny_stack_any fun st => wpAny_pure ?_
    split
    · rename_i c _ _ _ _ _
      cases (c == Value.type "enumerate")
      · wp_walk using wpAny_loadPart' hl, wpAny_pyIter_tuple hL
        exact ⟨_, rfl, h⟩
      · wp_walk using wpAny_loadPart' hl, wpAny_pyIter_tuple hL
        exact ⟨_, rfl, h⟩
    · wp_walk using wpAny_loadPart' hl, wpAny_pyIter_tuple hL
      exact ⟨_, rfl, h⟩
section
variable {prog : Program} {w : World} {A : Around} {E : Value → Shared → Prop} {s : Shared}
theorem call_enumT {l : Addr} {items : Array Value} {Q : Value → Shared → Prop} (hL : s.heap.IsTuple l items)
    (h : ∀ h', IsEnum h' (s.heap.objs.size + 1) s.heap.objs.size 0 .none → h'.IsTupleIter s.heap.objs.size l 0 → h'.objs.size = s.heap.objs.size + 2 →
      (∀ b o, s.heap.get? b = some o → h'.get? b = some o) → Q (.ref (s.heap.objs.size + 1)) { s with heap := h' }) :
    wpAny (model prog w) A (call (.type "enumerate") [.ref l]) Q E s := by
  refine callType_new F.called_enumerate (by decide) (F.typeCall_enumerate_1 _) (F.newCall_enumerate_1 _) (fun obj => F.args_object_init_2 obj _) F.entry_enumerate_new
    (meets_enumT l items) ⟨hL, ?_⟩
  have hz : (s.heap.push { cls := .type "tuple_iterator", data := .fields #[.ref l, .int 0 0] }).objs.size = s.heap.objs.size + 1 := Heap.size_push ..
  show _ ∧ _
  rw [hz]
  have he : IsEnum ((s.heap.push { cls := .type "tuple_iterator", data := .fields #[.ref l, .int 0 0] }).push
      { cls := .type "enumerate", data := .fields #[.none, .bool false, .ref s.heap.objs.size, rawInt 0, .none, .none] }) (s.heap.objs.size + 1) s.heap.objs.size 0 .none := by
    have := Heap.get?_push_size (s.heap.push { cls := .type "tuple_iterator", data := .fields #[.ref l, .int 0 0] })
      (o := { cls := .type "enumerate", data := .fields #[.none, .bool false, .ref s.heap.objs.size, rawInt 0, .none, .none] }) rfl
    rw [hz] at this; exact this
  refine ⟨⟨_, he, rfl⟩, h _ he ⟨_, Heap.get?_push_of_some _ (Heap.get?_push_size _ rfl), rfl, rfl⟩ (by rw [Heap.size_push, hz]) fun b o x => Heap.get?_push_of_some _ (Heap.get?_push_of_some _ x)⟩
end
def IteT (K : PySem.W.Frag) (a : Addr) : It :=
  ⟨fun i H => ∃ (xs : List V) (x : V), SqT K H a xs ∧ xs[i]? = some x, fun i H v H' => ∃ T x, v = .ref T ∧ H T = none ∧ H' = upd H T (.tup [.int (i : Nat), x]) ∧ ∀ xs, SqT K H a xs → xs[i]? = some x, fun i H => ∃ xs : List V, SqT K H a xs ∧ xs.length ≤ i⟩
theorem turn_enumT {P : Program} {w : World} {K : PySem.W.Frag} {elts : List Expr} {kk : Nat} {tpos : Pos} (a e it : Addr) :
    Turn P w K (.Tuple elts kk tpos) (IteT K a) [e, it] e (fun i h => (∃ old, IsEnum h e it ((i : Nat) : Int) old) ∧ h.IsTupleIter it a i ∧ e ≠ it) where
  mem := by simp
  obj := fun i h st b hb => by
    obtain ⟨⟨old, he⟩, ⟨o, ho, hc, hd⟩, _⟩ := st
    have e' : b = e ∨ b = it := by simpa using hb
    rcases e' with z | z
    · rw [z]; exact ⟨_, he, fun v q => nomatch q⟩
    · rw [z]; exact ⟨o, ho, fun v q => by rw [hd] at q; cases q⟩
  keep := fun i h h' st k => let ⟨⟨old, he⟩, hi, hne⟩ := st; ⟨⟨old, k e (by simp) _ he⟩, hi.at fun o q => k it (by simp) o q, hne⟩
  item := by
    intro X hP hw hK hc i pins s σ H E I hf st hg
    subst hP hw hK
    obtain ⟨⟨old, he⟩, hit, hne⟩ := st
    obtain ⟨xs, x, hq, hx⟩ := hg
    obtain ⟨its, rv, p, hz⟩ := I.tuple hq
    obtain ⟨u, hu, ru⟩ := rv.get hx
    have p' : s.heap.IsTuple a its.toArray := p
    have hel : e < s.heap.objs.size := Heap.lt_size he
    have hil : it < s.heap.objs.size := by obtain ⟨_, q, _⟩ := hit; exact Heap.lt_size q
    have hai : a ≠ it := fun z => by
      obtain ⟨o1, q1, c1, _⟩ := hit
      obtain ⟨o2, q2, c2, _⟩ := p'
      rw [z, q1] at q2; cases q2
      rw [c1] at c2; exact absurd (Value.type.inj c2) (by decide)
    have hea : e ≠ a := fun z => by
      obtain ⟨o2, q2, c2, _⟩ := p'
      have he' : s.heap.get? e = some _ := he
      rw [z, q2] at he'; cases he'
      exact absurd (Value.type.inj c2) (by decide)
    have hsz : i < its.toArray.size := by
      have := (List.getElem?_eq_some_iff.mp hu).1
      simpa using this
    refine wpAny_pyNext_enum_itemD (PySem.Draws.tuple (A := X.A.in1) (I.ok.hd hc) it a hai its.toArray) he ⟨hit, p'⟩ hsz hne (by simp [hne, hea]) fun x' h' tk' hPx ho hit' hT hsz' hk => ?_
    have hPx : its[i]? = some x' := by simpa using hPx
    rw [hu] at hPx
    obtain rfl := Option.some.inj hPx
    refine ⟨_, rfl, wpAny_letOwnedTupleGo_enum (s := { s with heap := h', toks := tk' + 1 }) ho fun h'' he' sb => ?_⟩
    have hT2 : h''.get? s.heap.objs.size = some { cls := .type "tuple", data := .seq #[.int i tk', u] } := (sb.2 _ (Nat.ne_of_gt hel)).trans hT
    have new : ObjOk X.prog X.w (upd H s.heap.objs.size (.tup [.int (i : Nat), x])) h'' s.heap.objs.size (.tup [.int (i : Nat), x]) :=
      ⟨by show 2 ≤ sizeLine; decide, [.int i tk', u], .cons ⟨_, rfl⟩ (.cons ru .nil), ⟨_, hT2, rfl, _, rfl⟩⟩
    have I1 : Inv X pins σ (upd H s.heap.objs.size (.tup [.int (i : Nat), x])) { s with heap := h'', toks := tk' + 1 } :=
      I.turnedNew (ch := [e, it]) (fun b ob hb q => (sb.2 b (fun z => hb (by simp [z]))).trans (hk b ob (fun z => hb (by simp [z])) (fun z => hb (by simp [z])) q)) hf (Nat.le_refl _) new
    refine ⟨.ref s.heap.objs.size, _, I1, rfl, ⟨_, x, rfl, I.hok.fresh (Nat.le_refl _), rfl, fun ys hy => by rw [I.tuple_inj hy hq]; exact hx⟩, ⟨⟨u, ?_⟩, hit'.1.at fun o q => (sb.2 it (Ne.symm hne)).trans q, hne⟩, fun b hb => ?_⟩
    · have e1 : ((i + 1 : Nat) : Int) = (i : Int) + 1 := by omega
      rw [e1]; exact he'
    · have hb' : b < s.heap.objs.size := by
        have e' : b = e ∨ b = it := by simpa using hb
        rcases e' with z | z
        · rw [z]; exact hel
        · rw [z]; exact hil
      rw [upd_ne (Nat.ne_of_lt hb')]
      exact (hf b hb).1
  done := by
    intro X hP hw hK hc i pins s σ H E I hf st hg
    subst hP hw hK
    obtain ⟨⟨old, he⟩, hit, hne⟩ := st
    obtain ⟨xs, hq, hx⟩ := hg
    obtain ⟨its, rv, p, hz⟩ := I.tuple hq
    have p' : s.heap.IsTuple a its.toArray := p
    obtain ⟨f0, f1, f2, f3, f4, f5⟩ := hf it (by simp)
    have hl := rv.length
    have hT : s.TypeIs (.ref e) "enumerate" := ⟨_, he, rfl⟩
    unfold pyNext
    refine wpAny_bind (wpAny_attempt (wpAny_callSpecial?_slot (name := Str.ofString "__next__") hT F.slot_enumerate_next
      (wpAny_call_entry F.slot_enumerate_next hT F.entry_enumerate_next ?_ (F.args_enumerate_next_1 _))))
    show wpAny _ _ (field (.ref e) 2 >>= _) _ _ _
    refine wpAny_bind (wpAny_field he rfl (x := .ref it) rfl ?_)
    refine wpAny_bind (wpAny_nextOf_tuple_end (I.ok.hd hc) hit p' (by simp; omega) fun h' x he' hx' => ?_)
    obtain ⟨o, ho, hc'⟩ := hx'
    refine wpAny_bind (wpAny_isInstance (T := "StopIteration") (b := true) ⟨o, ho, hc'⟩ isSubtype_stop ?_)
    exact wpAny_pure ⟨rfl, I.turned (t' := s.toks) (fun b o hb q => he' b o hb q) f0 f1 f3 f4 f5⟩
  self := fun A i s Q E st h => let ⟨⟨_, he⟩, _⟩ := st; wpAny_pyIter_enum he h
def iEnumT (K : PySem.W.Frag) (ta : TA) : TI := fun σ H R => ta σ H fun vs H1 => ∃ a xs, vs = [.ref a] ∧ SqT K H1 a xs ∧ R (IteT K a) H1
theorem pi_enumT {X : Cx} {e : Expr} {ta : TA} {p pos tpos : Pos} {elts : List Expr} {kk : Nat} (hg : Gl X "enumerate") (hm : X.mg "enumerate" = none) (ha : PA X [e] ta) (hs : starEach [e] X.env = [(false, eval e X.env)] := by rfl) :
    PI X (.Tuple elts kk tpos) (.Call (.Name "enumerate" p) [e] [] pos) (iEnumT X.K ta) := by
  refine ⟨fun pins s σ H R I h => ?_⟩
  refine Call_ (ld_blt I hg hm boot_enumerate (PyProof.Rows.callWith_type1 (thn (ha.run pos pins s σ H _ I h) fun us s1 ⟨vs, H1, I1, r1, q1⟩ => ?_) hs rfl))
  obtain ⟨a, xs, ex, hq, q⟩ := q1
  subst ex
  cases r1 with
  | cons r rr =>
    cases rr
    cases r
    obtain ⟨its, rv, p', hz⟩ := I1.tuple hq
    refine call_enumT (show s1.heap.IsTuple a its.toArray from p') fun h' he hit hsz hk => wpAny_pyIter_enum he ?_
    have I2 : Inv X pins σ H1 { s1 with heap := h' } := I1.kept (t' := s1.toks) hk
    refine ⟨s1.heap.objs.size + 1, [s1.heap.objs.size + 1, s1.heap.objs.size], _, _, H1, rfl, I2, turn_enumT a (s1.heap.objs.size + 1) s1.heap.objs.size, ⟨⟨.none, he⟩, hit, Nat.succ_ne_self _⟩, fun b hb => ?_, q⟩
    have e' : b = s1.heap.objs.size + 1 ∨ b = s1.heap.objs.size := by simpa using hb
    have hle : s1.heap.objs.size ≤ b := by
      rcases e' with z | z
      · rw [z]; exact Nat.le_add_right _ _
      · rw [z]; exact Nat.le_refl _
    exact I1.fpOk hle (I1.hok.fresh hle)
end L3G
namespace L3
open PySem L2
open Evl (Ex ex_rd ex_l ex_t sq_of st_of fresh_back)
/-- (0, x), (1, y), .. -/
def enumI {α : Type} : Nat → List α → List (Int × α)
  | _, [] => []
  | n, x :: xs => ((n : Int), x) :: enumI (n + 1) xs
theorem enumI_len {α : Type} : ∀ (n : Nat) (xs : List α), (enumI n xs).length = xs.length
  | _, [] => rfl
  | n, _ :: xs => congrArg (· + 1) (enumI_len (n + 1) xs)
theorem enumI_get {α : Type} : ∀ {n i : Nat} {xs : List α} {q : Int × α}, (enumI n xs)[i]? = some q → q.1 = ((n + i : Nat) : Int) ∧ xs[i]? = some q.2
  | _, _, [], _, h => by simp [enumI] at h
  | n, 0, x :: xs, q, h => by
    obtain rfl : ((n : Int), x) = q := by simpa [enumI] using h
    exact ⟨rfl, rfl⟩
  | n, i + 1, x :: xs, q, h => by
    obtain ⟨h1, h2⟩ := enumI_get (n := n + 1) (i := i) (xs := xs) (q := q) (by simpa [enumI] using h)
    refine ⟨h1.trans ?_, h2⟩
    congr 1
    omega
section
variable {K : Fg} {M : Fr} {σ : St} {B : Hp} {L L1 L2 L' : List Cell} {α β γ δ : Type} {r : Rep α} {te : TE}
theorem ei_enumT {xs : List α} (h : EV K M te σ B L (rTup r) xs L') : EI K M (L3G.iEnumT K (tCons te tNil)) σ B L (rT2 rInt r) (enumI 0 xs) L' := fun B1 H e w R q => h B1 H e w _ fun v B2 H2 e2 w2 hv => by
  obtain ⟨p, vs, rfl, hs, hp⟩ := hv
  refine ⟨p, vs, rfl, ex_t w2.b hs, q _ B2 H2 e2 w2 ⟨fun i a B' L' H' e' w' hi => ?_, fun B' L' H' e' w' => ⟨vs, ex_t (e'.trans w'.b) hs, by rw [enumI_len, paired_len hp]; exact Nat.le_refl _⟩⟩⟩
  obtain ⟨h1, h2⟩ := enumI_get hi
  obtain ⟨x, hx, hr⟩ := paired_get hp h2
  refine ⟨⟨vs, x, ex_t (e'.trans w'.b) hs, hx⟩, fun y H3 hy => ?_⟩
  obtain ⟨T, z, rfl, hT, rfl, hy⟩ := hy
  have := hy vs (ex_t (e'.trans w'.b) hs)
  rw [hx] at this
  cases this
  have eN := Ex.new (o := HO.tup [.int (i : Nat), x]) (fresh_back w'.b hT)
  exact ⟨upd B' T _, eN, w'.ext hT, ⟨T, _, _, rfl, st_of upd_same, by rw [h1]; show V.int _ = V.int _; congr 1; simp, r.mono (e'.trans eN) hr⟩⟩
theorem ei_enumL {xs : List α} (h : EV K M te σ B L (rLst r) xs L') : EI K M (iEnum K (tCons te tNil)) σ B L (rT2 rInt r) (enumI 0 xs) L' := fun B1 H e w R q => h B1 H e w _ fun v B2 H2 e2 w2 hv => by
  obtain ⟨p, vs, rfl, hs, hp⟩ := rl_sc hv
  refine ⟨p, vs, rfl, ex_l w2.b hs, q _ B2 H2 e2 w2 ⟨fun i a B' L' H' e' w' hi => ?_, fun B' L' H' e' w' => ⟨vs, ex_l (e'.trans w'.b) hs, by rw [enumI_len, paired_len hp]; exact Nat.le_refl _⟩⟩⟩
  obtain ⟨h1, h2⟩ := enumI_get hi
  obtain ⟨x, hx, hr⟩ := paired_get hp h2
  refine ⟨⟨vs, x, ex_l (e'.trans w'.b) hs, hx⟩, fun y H3 hy => ?_⟩
  obtain ⟨T, z, rfl, hT, rfl, hy⟩ := hy
  have := hy vs (ex_l (e'.trans w'.b) hs)
  rw [hx] at this
  cases this
  have eN := Ex.new (o := HO.tup [.int (i : Nat), x]) (fresh_back w'.b hT)
  exact ⟨upd B' T _, eN, w'.ext hT, ⟨T, _, _, rfl, st_of upd_same, by rw [h1]; show V.int _ = V.int _; congr 1; simp, r.mono (e'.trans eN) hr⟩⟩
end
end L3

/-! a tuple backwards -/
namespace L3G
open PySem PySem.Spec PyProof.Rows L2 HT
section
variable {prog : Program} {w : World} {A : Around} {E : Value → Shared → Prop} {s : Shared}
theorem adjust_back (n : Nat) : Builtin.Slice.sliceAdjust none none (-1) (n : Int) = ((n : Int) - 1, -1) := by
  unfold Builtin.Slice.sliceAdjust
  simp
theorem places_back (n : Nat) : Builtin.Slice.slicePlaces ((n : Int) - 1) (-1) (-1) = n := by
  unfold Builtin.Slice.slicePlaces
  simp
  omega
theorem fm_some {α β : Type} {f : α → Option β} {g : α → β} : ∀ {l : List α}, (∀ m ∈ l, f m = some (g m)) → l.filterMap f = l.map g
  | [], _ => rfl
  | x :: l, h => by
    rw [List.filterMap_cons, h x List.mem_cons_self, List.map_cons, fm_some fun m hm => h m (List.mem_cons_of_mem _ hm)]
theorem pick_back (xs : Array Value) : ((List.range xs.size).filterMap fun (m : Nat) => xs[(((xs.size : Int) - 1) + (m : Int) * (-1)).toNat]?).toArray = xs.toList.reverse.toArray := by
  congr 1
  have e : ∀ m ∈ List.range xs.size, xs[(((xs.size : Int) - 1) + (m : Int) * (-1)).toNat]? = some ((xs.toList.reverse).getD m .none) := fun m hm => by
    have hm := List.mem_range.mp hm
    have e1 : (((xs.size : Int) - 1) + (m : Int) * (-1)).toNat = xs.size - 1 - m := by omega
    rw [e1, List.getD_eq_getElem?_getD, List.getElem?_reverse (by simpa using hm), Array.length_toList, Array.getElem?_toList]
    cases q : xs[xs.size - 1 - m]? with
    | none => have := Array.getElem?_eq_none_iff.mp q; omega
    | some v => rfl
  rw [fm_some e]
  refine List.ext_getElem? fun i => ?_
  rw [List.getElem?_map]
  by_cases hi : i < xs.size
  · rw [List.getElem?_range hi]
    have hl : i < xs.toList.reverse.length := by simpa using hi
    simp only [Option.map_some]
    rw [List.getD_eq_getElem?_getD, List.getElem?_eq_getElem hl]
    rfl
  · rw [List.getElem?_eq_none (by simpa using hi), List.getElem?_eq_none (by simpa using hi)]
    rfl
theorem sliceApplied_back {sl : Addr} {n : Nat} {vs : Value} {Q : Int × Int × Nat → Shared → Prop} (hs : s.heap.IsSliceOf sl .none .none vs) (pv : IsPart vs (some (-1)))
    (h : Q ((n : Int) - 1, -1, n) s) : wpAny (model prog w) A (Builtin.Slice.sliceApplied (.ref sl) (pure (n : Int))) Q E s := by
  obtain ⟨os, hos, hcs, hds⟩ := id hs
  unfold Builtin.Slice.sliceApplied Builtin.Slice.sliceFields
  refine wpAny_bind (wpAny_bind (wpAny_field hos hds (x := .none) rfl (wpAny_bind (wpAny_field hos hds (x := .none) rfl (wpAny_bind (wpAny_field hos hds (x := vs) rfl (wpAny_pure ?_)))))))
  refine wpAny_bind (slicePart_ pv ?_)
  show wpAny _ _ (if ((-1 : Int) == 0) = true then _ else _) _ _ s
  rw [if_neg (by decide)]
  refine wpAny_bind (slicePart_ (o := none) .none (wpAny_bind (slicePart_ (o := none) .none (wpAny_bind (wpAny_pure ?_)))))
  show wpAny _ _ (match Builtin.Slice.sliceAdjust none none (-1) (n : Int) with | (lo, hi) => pure (lo, (-1 : Int), Builtin.Slice.slicePlaces lo hi (-1))) _ _ s
  rw [adjust_back]
  show wpAny _ _ (pure ((n : Int) - 1, (-1 : Int), Builtin.Slice.slicePlaces ((n : Int) - 1) (-1) (-1))) _ _ s
  rw [places_back]
  exact wpAny_pure h
theorem getItem_tuple_back {t sl : Addr} {items : Array Value} {vs : Value} {Q : Value → Shared → Prop} (ht : IsTup s.heap t items) (hs : s.heap.IsSliceOf sl .none .none vs) (pv : IsPart vs (some (-1)))
    (h : Q (.ref s.heap.objs.size) { s with heap := s.heap.push { cls := .type "tuple", data := .seq items.toList.reverse.toArray } })
    (hsz : items.size ≤ sizeLine) : wpAny (model prog w) A (getItem (.ref t) (.ref sl)) Q E s := by
  have htake : sizeOk (.seq items.toList.reverse.toArray) := by
    show items.toList.reverse.toArray.size ≤ sizeLine
    rw [List.size_toArray, List.length_reverse, Array.length_toList]
    exact hsz
  obtain ⟨os, hos, hcs, hds⟩ := id hs
  have hTs : s.TypeIs (.ref sl) "slice" := ⟨os, hos, hcs⟩
  unfold getItem
  try with_reducible refine wpAny_holding ?_
  first | refine wpAny_bind (wpAny_pure ?_) | skip
  refine wpAny_bind (wpAny_sequenceKey ht.typeIs (by decide) ?_)
  refine wpAny_bind (wpAny_callSpecial?_slot (name := Str.ofString "__getitem__") ht.typeIs PyProof.Rows.slot_tuple_getitem
    (wpAny_call_entry PyProof.Rows.slot_tuple_getitem ht.typeIs PyProof.Rows.entry_tuple_getitem ?_ (PyProof.Rows.args_tuple_getitem _ _)))
  show wpAny _ _ (Builtin.Tuple.tupleItemsOf (.ref t) >>= _) _ _ s
  refine wpAny_bind (tupleItemsOf_ ht ?_)
  refine wpAny_bind (wpAny_typeOf hTs ?_)
  rw [if_pos (by decide)]
  refine wpAny_bind (sliceApplied_back hs pv ?_)
  have hno : ¬ ((((items.size : Int) - 1) == 0 && (-1 : Int) == 1 && items.size == items.size) = true) := by
    intro q
    rw [Bool.and_eq_true, Bool.and_eq_true] at q
    exact absurd q.1.2 (by decide)
  show wpAny _ _ (if (((items.size : Int) - 1) == 0 && (-1 : Int) == 1 && items.size == items.size) = true then _ else _) _ _ s
  rw [if_neg hno, pick_back]
  first
    | exact wpAny_bind (m := Builtin.Tuple.tupleExact _) (wpAny_newObj_type (wpAny_pure ⟨_, rfl, wpAny_pure h⟩) htake)
    | exact wpAny_bind (m := Builtin.Tuple.tupleExact _) (wpAny_newObj_type (wpAny_bind (wpAny_pure (wpAny_pure ⟨_, rfl, wpAny_pure h⟩))) htake)
    | exact wpAny_bind (wpAny_bind (m := Builtin.Tuple.tupleExact _) (wpAny_newObj_type (wpAny_pure (wpAny_pure ⟨_, rfl, wpAny_pure h⟩)) htake))
    | exact wpAny_bind (wpAny_bind (m := Builtin.Tuple.tupleExact _) (wpAny_newObj_type (wpAny_pure ⟨_, rfl, wpAny_pure h⟩) htake))
end
def tRevT (K : PySem.W.Frag) (te : TE) : TE := fun σ H Q => te σ H fun x H1 => ∃ a xs, x = .ref a ∧ SqT K H1 a xs ∧ ∀ p, H1 p = none → Q (.ref p) (upd H1 p (.tup xs.reverse))
theorem pe_revT {X : Cx} {e : Expr} {te : TE} {k : Nat} {p1 p2 p3 pos : Pos} (he : PE X e te) : PE X (.Subscript e (.Slice none none (some (.UnaryOp .USub (.Constant (.int 1) k p1) p2)) p3) pos) (tRevT X.K te) := by
  refine ⟨fun pins s σ H Q I h => ?_⟩
  refine Subscript_ (thn (he.run pins s σ H _ I h) fun v s1 ⟨x, H1, I1, r1, q1⟩ => ?_)
  obtain ⟨a, xs, ex, hx, q⟩ := q1
  subst ex
  cases r1
  have hst : PO X (some (.UnaryOp .USub (.Constant (.int 1) k p1) p2)) (tPart (tUn (rU fun i => .int (-i)) (tC (.int 1)))) := po_some (pe_un un_neg pe_int)
  refine wpAny_Slice ?_
  rw [evalPart_none]
  refine wpAny_pure ?_
  refine wpAny_pure ?_
  refine thn (hst.run pins s1 σ H1 (fun o H4 => o = some (-1) ∧ H4 = H1) I1 ⟨1, rfl, -1, rfl, rfl, rfl⟩) fun vs s4 ⟨o, H4, I4, ps, eo, e4⟩ => ?_
  subst eo e4
  have I5 : Inv X pins σ H4 { s4 with heap := s4.heap.push { cls := .type "slice", data := .fields #[.none, .none, vs] } } := I4.kept (t' := s4.toks) fun b ob q => Heap.get?_push_of_some _ q
  obtain ⟨its, r, ht, hz⟩ := I5.tuple hx
  have hlen := r.length
  show wpAny (model X.prog X.w) X.A (subscriptTail e (.Slice none none (some (.UnaryOp .USub (.Constant (.int 1) k p1) p2)) p3) (.ref a) (.ref s4.heap.objs.size)) (EP X pins σ Q) X.xe { s4 with heap := s4.heap.push { cls := .type "slice", data := .fields #[.none, .none, vs] } }
  refine tail_any (ops := [.ref a, .ref s4.heap.objs.size]) ht.typeIs (PyProof.Rows.slot_tuple_getitem.lookup) ?_ (by with_unfolding_all rfl)
  refine getItem_tuple_back ht (Heap.IsSliceOf.new _ .none .none vs) ps ?_ (by rw [List.size_toArray]; omega)
  refine ⟨.ref _, _, I5.laid (t' := s4.toks) (o := .tup xs.reverse) (fun b ob q => Heap.get?_push_of_some _ q) (Nat.le_refl _) ?_, rfl, q _ (I5.hok.fresh (Nat.le_refl _))⟩
  exact ⟨by rw [List.length_reverse]; exact hz, _, r.reverse, IsTup.new _ _⟩
end L3G
namespace L3
open PySem L2
open Evl (Ex ex_rd ex_l ex_t sq_of st_of fresh_back)

/-! ### comprehensions -/
def compM {S α β : Type} (f : S → α → Option (Option β × S)) : S → List α → Option (List β × S)
  | s, [] => some ([], s)
  | s, x :: xs => match f s x with
    | some (o, s') => (match compM f s' xs with
      | some (ys, s2) => some (o.toList ++ ys, s2)
      | none => none)
    | none => none
section
variable {K : Fg} {M : Fr} {σ : St} {B : Hp} {L L1 L2 L' : List Cell} {α β γ δ : Type} {r : Rep α} {s : Rep β} {t : Rep γ} {ta tb tc te : TE} {tt tu : TT} {tA : TA} {i j k : Int} {b c : Bool} {wi : TI} {g : TG}
theorem compM_len {S : Type} {f : S → α → Option (Option β × S)} : ∀ {xs : List α} {s0 s1 : S} {ys : List β}, compM f s0 xs = some (ys, s1) → ys.length ≤ xs.length
  | [], _, _, _, h => by obtain ⟨rfl, _⟩ := Prod.mk.inj (Option.some.inj h); exact Nat.le_refl _
  | x :: xs, s0, s1, ys, h => by
    unfold compM at h
    cases e : f s0 x with
    | none => rw [e] at h; cases h
    | some q =>
      obtain ⟨o, s'⟩ := q
      rw [e] at h
      dsimp only at h
      cases e2 : compM f s' xs with
      | none => rw [e2] at h; cases h
      | some q2 =>
        obtain ⟨zs, s2⟩ := q2
        rw [e2] at h
        obtain ⟨rfl, _⟩ := Prod.mk.inj (Option.some.inj h)
        have := compM_len e2
        cases o <;> simp <;> omega
theorem lc_yes {PY : VK} {PN : Hp → Prop} {H : Hp} (h : te σ H PY) : tYes σ H fun b H3 => if b = true then te σ H3 PY else PN H3 := by
  show (if true = true then te σ H PY else PN H)
  rw [if_pos rfl]
  exact h
theorem lc_if {b : Bool} {X Y : Prop} (h1 : b = true → X) (h2 : b = false → Y) : if b = true then X else Y := by
  cases b with
  | true => rw [if_pos rfl]; exact h1 rfl
  | false => rw [if_neg Bool.false_ne_true]; exact h2 rfl
theorem el_lc {S : Type} {vs : List Nat} {σ' : St} {xs : List α} {ys : List β} {s0 s1 : S} (s : Rep β) (hi : EI K M wi σ B L r xs L1) (f : S → α → Option (Option β × S)) (Lf : S → List Cell) (hL : Lf s0 = L1) (hm : compM f s0 xs = some (ys, s1)) (hr : room xs.length = some ()) (hw : wipe σ vs = σ')
    (hs : ∀ st x o st' v D acc B' H', f st x = some (o, st') → Ex B B' → Own K B' M (⟨D, cLst s, acc⟩ :: Lf st) H' → r.is K B' v x → ∀ (PY : VK) (PN : Hp → Prop),
      (∀ y B2 H2 b, o = some b → Ex B' B2 → Own K B2 M (⟨D, cLst s, acc⟩ :: Lf st') H2 → s.is K B2 y b → PY y H2) → (∀ B2 H2, o = none → Ex B' B2 → Own K B2 M (⟨D, cLst s, acc⟩ :: Lf st') H2 → PN H2) →
      g v σ' H' fun σ2 H2 => wipe σ2 vs = σ' ∧ tt σ2 H2 fun b H3 => if b = true then te σ2 H3 PY else PN H3) :
    EVL K M (tLc wi g tt te vs) σ B L s ys (Lf s1) := fun B1 H e w Q q => by
  refine hi B1 H e w _ fun J B2 H2 e2 w2 wk => ?_
  intro D hD
  subst hL
  subst hw
  have w3 : Own K B2 M (⟨D, cLst s, []⟩ :: Lf s0) (upd H2 D (.lst [])) := w2.new hD ⟨[], rfl, .nil⟩
  refine ⟨fun i m H' => m = xs.length - i ∧ i ≤ xs.length ∧ ∃ st acc B', Ex B2 B' ∧ Own K B' M (⟨D, cLst s, acc⟩ :: Lf st) H' ∧ acc.length ≤ i ∧ ∃ zs, compM f st (xs.drop i) = some (zs, s1) ∧ acc ++ zs = ys,
    ⟨_, rfl, Nat.zero_le _, s0, [], B2, Ex.refl _, w3, Nat.zero_le _, ys, hm, rfl⟩, ?_⟩
  rintro i m H' ⟨rfl, hil, st, acc, B', eb, w', hacc, zs, hz, hzs⟩
  by_cases hl : i = xs.length
  · subst hl
    rw [List.drop_length] at hz
    obtain ⟨rfl, rfl⟩ := Prod.mk.inj (Option.some.inj hz)
    rw [List.append_nil] at hzs
    subst hzs
    exact .inl ⟨wk.stop B' _ H' eb w', q D B' H' (e2.trans eb) w'⟩
  · have hlt : i < xs.length := by omega
    rw [List.drop_eq_getElem_cons hlt] at hz
    have hx : xs[i]? = some xs[i] := List.getElem?_eq_getElem hlt
    obtain ⟨g1, g2⟩ := wk.go i xs[i] B' _ H' eb w' hx
    unfold compM at hz
    cases hf : f st xs[i] with
    | none => rw [hf] at hz; cases hz
    | some q2 =>
      obtain ⟨o, st'⟩ := q2
      rw [hf] at hz
      dsimp only at hz
      cases hc : compM f st' (xs.drop (i + 1)) with
      | none => rw [hc] at hz; cases hz
      | some q3 =>
        obtain ⟨zs', s2⟩ := q3
        rw [hc] at hz
        obtain ⟨rfl, rfl⟩ := Prod.mk.inj (Option.some.inj hz)
        refine .inr ⟨g1, fun H5 => i + 1 ≤ xs.length ∧ ∃ st acc B', Ex B2 B' ∧ Own K B' M (⟨D, cLst s, acc⟩ :: Lf st) H5 ∧ acc.length ≤ i + 1 ∧ ∃ zs, compM f st (xs.drop (i + 1)) = some (zs, s2) ∧ acc ++ zs = ys, fun H5 h5 => ⟨xs.length - (i + 1), by omega, rfl, h5⟩, fun x H4 hy => ?_⟩
        obtain ⟨B4, e4, w4, hrx⟩ := g2 x H4 hy
        have hb := (e.trans e2).trans (eb.trans e4)
        refine hs st xs[i] o st' x D acc B4 H4 hf hb w4 hrx (fun y H6 => ∃ acc', H6 D = some (.lst acc') ∧ acc'.length < sizeLine ∧ (fun H5 => i + 1 ≤ xs.length ∧ ∃ st acc B', Ex B2 B' ∧ Own K B' M (⟨D, cLst s, acc⟩ :: Lf st) H5 ∧ acc.length ≤ i + 1 ∧ ∃ zs, compM f st (xs.drop (i + 1)) = some (zs, s2) ∧ acc ++ zs = ys) (upd H6 D (.lst (acc' ++ [y])))) _ (fun y B5 H5 b' ho e5 w5 hyb => ?_) fun B5 H5 ho e5 w5 => ?_
        · subst ho
          obtain ⟨⟨o', a1, vs', a2, a3⟩, _⟩ := w5.at (i := 0) rfl
          have a1 : H5 D = some o' := a1
          refine ⟨vs', by rw [a1, a2], ?_, hlt, st', acc ++ [b'], B5, (eb.trans e4).trans e5, w5.set (i := 0) rfl (c' := cLst s) ⟨_, rfl, paired_app a3 (.cons hyb .nil)⟩, by simp; omega, zs', hc, by simpa using hzs⟩
          have hq := room_some hr
          have := paired_len a3
          have : vs'.length = acc.length := this
          omega
        · subst ho
          exact ⟨hlt, st', acc, B5, (eb.trans e4).trans e5, w5, by omega, zs', hc, by simpa using hzs⟩
/-! ### tuple(..), list(..) -/
theorem ev_tupOfL {xs : List α} (h : EV K M te σ B L (rLst r) xs L') : EV K M (tCB (fun xs H Q => ∃ p ys, xs = [.ref p] ∧ ((SqL K H p ys ∧ ∀ l, H l = none → Q (.ref l) (upd H l (.tup ys))) ∨ (SqT K H p ys ∧ Q (.ref p) H))) (tCons te tNil)) σ B L (rTup r) xs L' := fun B1 H e w Q q =>
  h B1 H e w _ fun v B2 H2 e2 w2 hv => by
    obtain ⟨p, vs, rfl, hs, hp⟩ := rl_sc hv
    refine ⟨p, vs, rfl, .inl ⟨ex_l w2.b hs, fun l hl => ?_⟩⟩
    have eN := Ex.new (o := HO.tup vs) (fresh_back w2.b hl)
    exact q _ (upd B2 l _) _ (e2.trans eN) (w2.ext hl) ⟨l, vs, rfl, st_of upd_same, paired_mono eN hp⟩
theorem ev_tupOfT {xs : List α} (h : EV K M te σ B L (rTup r) xs L') : EV K M (tCB (fun xs H Q => ∃ p ys, xs = [.ref p] ∧ ((SqL K H p ys ∧ ∀ l, H l = none → Q (.ref l) (upd H l (.tup ys))) ∨ (SqT K H p ys ∧ Q (.ref p) H))) (tCons te tNil)) σ B L (rTup r) xs L' := fun B1 H e w Q q =>
  h B1 H e w _ fun v B2 H2 e2 w2 hv => by
    obtain ⟨p, vs, rfl, hs, hp⟩ := hv
    exact ⟨p, vs, rfl, .inr ⟨ex_t w2.b hs, q _ B2 H2 e2 w2 ⟨p, vs, rfl, hs, hp⟩⟩⟩
theorem el_listOf {xs : List α} (h : EV K M te σ B L (rSeq r) xs L') : EVL K M (tCB (fun xs H Q => ∃ p ys, xs = [.ref p] ∧ (SqL K H p ys ∨ SqT K H p ys) ∧ ∀ l, H l = none → Q (.ref l) (upd H l (.lst ys))) (tCons te tNil)) σ B L r xs L' := fun B1 H e w Q q =>
  h B1 H e w _ fun v B2 H2 e2 w2 hv => by
    obtain ⟨p, vs, rfl, hs, hp⟩ := hv
    exact ⟨p, vs, rfl, hs.imp (ex_l w2.b) (ex_t w2.b), fun l hl => q l B2 _ e2 (w2.new hl ⟨vs, rfl, hp⟩)⟩
theorem el_listOfC {n : Nat} {p : Addr} {xs : List α} (h : EV K M te σ B L rRef p L') (hc : L'[n]? = some ⟨p, cLst r, xs⟩) : EVL K M (tCB (fun xs H Q => ∃ p ys, xs = [.ref p] ∧ (SqL K H p ys ∨ SqT K H p ys) ∧ ∀ l, H l = none → Q (.ref l) (upd H l (.lst ys))) (tCons te tNil)) σ B L r xs L' := fun B1 H e w Q q =>
  h B1 H e w _ fun v B2 H2 e2 w2 hv => by
    have hv : v = .ref p := hv
    subst hv
    obtain ⟨⟨o, h1, vs, h2, hp⟩, _⟩ := w2.at hc
    have h1 : H2 p = some o := h1
    exact ⟨p, vs, rfl, .inl (sq_of (by rw [h1, h2])), fun l hl => q l B2 _ e2 (w2.new hl ⟨vs, rfl, hp⟩)⟩
theorem ev_tupOfC {n : Nat} {p : Addr} {xs : List α} (h : EV K M te σ B L rRef p L') (hc : L'[n]? = some ⟨p, cLst r, xs⟩) : EV K M (tCB (fun xs H Q => ∃ p ys, xs = [.ref p] ∧ ((SqL K H p ys ∧ ∀ l, H l = none → Q (.ref l) (upd H l (.tup ys))) ∨ (SqT K H p ys ∧ Q (.ref p) H))) (tCons te tNil)) σ B L (rTup r) xs L' := fun B1 H e w Q q =>
  h B1 H e w _ fun v B2 H2 e2 w2 hv => by
    have hv : v = .ref p := hv
    subst hv
    obtain ⟨⟨o, h1, vs, h2, hp⟩, _⟩ := w2.at hc
    have h1 : H2 p = some o := h1
    refine ⟨p, vs, rfl, .inl ⟨sq_of (by rw [h1, h2]), fun l hl => ?_⟩⟩
    have eN := Ex.new (o := HO.tup vs) (fresh_back w2.b hl)
    exact q _ (upd B2 l _) _ (e2.trans eN) (w2.ext hl) ⟨l, vs, rfl, st_of upd_same, paired_mono eN hp⟩
/-! ### slices -/
def cutL (xs : List α) (lo hi : Option Int) : List α := (xs.drop (HT.sIx xs.length 0 lo)).take (HT.sIx xs.length xs.length hi - HT.sIx xs.length 0 lo)
theorem paired_cut {F : V → α → Prop} {xs : List V} {as : List α} (h : Paired F xs as) (lo hi : Option Int) : Paired F (cutV xs lo hi) (cutL as lo hi) := by
  unfold cutV cutL
  rw [paired_len h]
  exact paired_take _ (paired_drop _ h)
def EO (K : Fg) (M : Fr) (t : TO) (σ : St) (B : Hp) (L : List Cell) (o : Option Int) (L' : List Cell) : Prop :=
  ∀ B1 H, Ex B B1 → Own K B1 M L H → ∀ Q : Option Int → Hp → Prop, (∀ B2 H2, Ex B1 B2 → Own K B2 M L' H2 → Q o H2) → t σ H Q
theorem eo_none : EO K M tNoPart σ B L none L := fun B1 H e w Q q => q B1 H (Ex.refl _) w
theorem eo_some (h : EV K M te σ B L rInt i L') : EO K M (tPart te) σ B L (some i) L' := fun B1 H e w Q q => h B1 H e w _ fun v B2 H2 e2 w2 hv => ⟨i, hv, q B2 H2 e2 w2⟩
theorem cut_all {xs : List α} {lo hi : Option Int} (h1 : HT.sIx xs.length 0 lo = 0) (h2 : HT.sIx xs.length xs.length hi = xs.length) : cutL xs lo hi = xs := by
  unfold cutL
  rw [h1, h2]
  simp
theorem ev_slT {xs : List α} {tl th : TO} {lo hi : Option Int} (h : EV K M te σ B L (rTup r) xs L1) (hl : EO K M tl σ B L1 lo L2) (hh : EO K M th σ B L2 hi L') : EV K M (tSl (rSlA K) te tl th) σ B L (rTup r) (cutL xs lo hi) L' := fun B1 H e w Q q =>
  h B1 H e w _ fun v B2 H2 e2 w2 hv => hl B2 H2 (e.trans e2) w2 _ fun B3 H3 e3 w3 => hh B3 H3 ((e.trans e2).trans e3) w3 _ fun B4 H4 e4 w4 => by
    obtain ⟨p, vs, rfl, hs, hp⟩ := hv
    have e34 := e3.trans e4
    have hp4 := paired_mono e34 hp
    refine ⟨p, vs, rfl, ex_t w4.b (ex_t e34 hs), fun ⟨h1, h2⟩ => ?_, fun _ l hl => ?_⟩
    · refine q _ B4 H4 (e2.trans e34) w4 ⟨p, vs, rfl, ex_t e34 hs, ?_⟩
      rw [paired_len hp] at h1 h2
      rw [cut_all h1 h2]
      exact hp4
    · have eN := Ex.new (o := HO.tup (cutV vs lo hi)) (fresh_back w4.b hl)
      exact q _ (upd B4 l _) _ ((e2.trans e34).trans eN) (w4.ext hl) ⟨l, _, rfl, st_of upd_same, paired_mono eN (paired_cut hp4 lo hi)⟩
theorem el_slL {xs : List α} {tl th : TO} {lo hi : Option Int} (h : EV K M te σ B L (rLst r) xs L1) (hl : EO K M tl σ B L1 lo L2) (hh : EO K M th σ B L2 hi L') : EVL K M (tSl (rSlL K) te tl th) σ B L r (cutL xs lo hi) L' := fun B1 H e w Q q =>
  h B1 H e w _ fun v B2 H2 e2 w2 hv => hl B2 H2 (e.trans e2) w2 _ fun B3 H3 e3 w3 => hh B3 H3 ((e.trans e2).trans e3) w3 _ fun B4 H4 e4 w4 => by
    obtain ⟨p, vs, rfl, hs, hp⟩ := rl_sc hv
    have e34 := e3.trans e4
    exact ⟨p, vs, rfl, ex_l w4.b (ex_l e34 hs), fun l hl => q l B4 _ (e2.trans e34) (w4.new hl ⟨_, rfl, paired_cut (paired_mono e34 hp) lo hi⟩)⟩
theorem el_revL {xs : List α} (h : EV K M te σ B L (rLst r) xs L') : EVL K M (tRevL K te) σ B L r xs.reverse L' := fun B1 H e w Q q =>
  h B1 H e w _ fun v B2 H2 e2 w2 hv => by
    obtain ⟨p, vs, rfl, hs, hp⟩ := rl_sc hv
    exact ⟨p, vs, rfl, ex_l w2.b hs, fun l hl => q l B2 _ e2 (w2.new hl ⟨_, rfl, paired_rev hp⟩)⟩
theorem el_revC {n : Nat} {p : Addr} {xs : List α} (h : EV K M te σ B L rRef p L') (hc : L'[n]? = some ⟨p, cLst r, xs⟩) : EVL K M (tRevL K te) σ B L r xs.reverse L' := fun B1 H e w Q q =>
  h B1 H e w _ fun v B2 H2 e2 w2 hv => by
    have hv : v = .ref p := hv
    subst hv
    obtain ⟨⟨o, h1, vs, h2, hp⟩, _⟩ := w2.at hc
    have h1 : H2 p = some o := h1
    exact ⟨p, vs, rfl, sq_of (by rw [h1, h2]), fun l hl => q l B2 _ e2 (w2.new hl ⟨_, rfl, paired_rev hp⟩)⟩
theorem ev_revT {xs : List α} (h : EV K M te σ B L (rTup r) xs L') : EV K M (L3G.tRevT K te) σ B L (rTup r) xs.reverse L' := fun B1 H e w Q q =>
  h B1 H e w _ fun v B2 H2 e2 w2 hv => by
    obtain ⟨p, vs, rfl, hs, hp⟩ := hv
    refine ⟨p, vs, rfl, ex_t w2.b hs, fun l hl => ?_⟩
    have eN := Ex.new (o := HO.tup vs.reverse) (fresh_back w2.b hl)
    exact q _ (upd B2 l _) _ (e2.trans eN) (w2.ext hl) ⟨l, _, rfl, st_of upd_same, paired_mono eN (paired_rev hp)⟩
/-! ### tuples: +, * -/
def catT (xs ys : List α) : Option (List α) := if xs.length + ys.length ≤ 1000000 then some (xs ++ ys) else none
theorem ev_catT {xs ys zs : List α} (h : EV K M ta σ B L (rTup r) xs L1) (h' : EV K M tb σ B L1 (rTup r) ys L2) (hc : catT xs ys = some zs) : EV K M (tOp (rCatA K) ta tb) σ B L (rTup r) zs L2 := fun B1 H e w Q q =>
  h B1 H e w _ fun v B2 H2 e2 w2 hv => h' B2 H2 (e.trans e2) w2 _ fun u B3 H3 e3 w3 hu => by
    obtain ⟨p, vs, rfl, hs, hp⟩ := hv
    obtain ⟨p', us, rfl, hs', hp'⟩ := hu
    unfold catT at hc
    split at hc
    · rename_i hl
      obtain rfl := Option.some.inj hc
      have hp3 := paired_mono e3 hp
      have l1 := paired_len hp
      have l2 := paired_len hp'
      refine ⟨p, p', vs, us, rfl, rfl, ex_t w3.b (ex_t e3 hs), ex_t w3.b hs', Nat.le_trans (by omega) (show 1000000 ≤ sizeLine by decide), fun hz => ?_, fun _ hz => ?_, fun _ _ l hl => ?_⟩
      · subst hz
        have : xs = [] := List.length_eq_zero_iff.mp l1.symm
        subst this
        exact q _ B3 H3 (e2.trans e3) w3 ⟨p', us, rfl, hs', hp'⟩
      · subst hz
        have : ys = [] := List.length_eq_zero_iff.mp l2.symm
        subst this
        exact q _ B3 H3 (e2.trans e3) w3 ⟨p, vs, rfl, ex_t e3 hs, by rw [List.append_nil]; exact hp3⟩
      · have eN := Ex.new (o := HO.tup (vs ++ us)) (fresh_back w3.b hl)
        exact q _ (upd B3 l _) _ ((e2.trans e3).trans eN) (w3.ext hl) ⟨l, _, rfl, st_of upd_same, paired_mono eN (paired_app hp3 hp')⟩
    · cases hc
def repT (xs : List α) (k : Int) : Option (List α) := if xs ≠ [] ∧ 2 ≤ k ∧ k ≤ 1000 ∧ xs.length ≤ 1000 then some (List.replicate k.toNat xs).flatten else none
theorem paired_rep {F : V → α → Prop} {xs : List V} {as : List α} (h : Paired F xs as) : ∀ n : Nat, Paired F (List.replicate n xs).flatten (List.replicate n as).flatten
  | 0 => .nil
  | n + 1 => by
    rw [List.replicate_succ, List.replicate_succ, List.flatten_cons, List.flatten_cons]
    exact paired_app h (paired_rep h n)
theorem ev_repT {xs zs : List α} (h : EV K M ta σ B L (rTup r) xs L1) (h' : EV K M tb σ B L1 rInt k L2) (hc : repT xs k = some zs) : EV K M (tOp (rRepT K) ta tb) σ B L (rTup r) zs L2 := fun B1 H e w Q q =>
  h B1 H e w _ fun v B2 H2 e2 w2 hv => h' B2 H2 (e.trans e2) w2 _ fun u B3 H3 e3 w3 hu => by
    obtain ⟨p, vs, rfl, hs, hp⟩ := hv
    unfold repT at hc
    split at hc
    · rename_i hl
      obtain ⟨l0, l1, l2, l3⟩ := hl
      obtain rfl := Option.some.inj hc
      have hp3 := paired_mono e3 hp
      have ll := paired_len hp
      refine ⟨p, k, vs, rfl, hu, ex_t w3.b (ex_t e3 hs), fun hz => l0 (by subst hz; exact List.length_eq_zero_iff.mp ll.symm), l1, l2, by omega, fun l hl => ?_⟩
      have eN := Ex.new (o := HO.tup (List.replicate k.toNat vs).flatten) (fresh_back w3.b hl)
      exact q _ (upd B3 l _) _ ((e2.trans e3).trans eN) (w3.ext hl) ⟨l, _, rfl, st_of upd_same, paired_mono eN (paired_rep hp3 _)⟩
    · cases hc
/-! ### typed values as data -/
def DQ (r : Rep α) (f : α → PyData) : Prop := ∀ K B v a, r.is K B v a → Dp K B v (f a)
theorem dq_int : DQ rInt PyData.int := dr_int.dp
theorem dq_bool : DQ rBool PyData.bool := dr_bool.dp
theorem dq_non : DQ rNon dNon := dr_non.dp
theorem dq_str : DQ rStr PyData.str := fun _ _ _ a h => by have h : _ = V.str a := h; subst h; exact .str a
theorem dq_dat : DQ rDat id := fun _ _ _ _ h => h
theorem dq_tup {f : α → PyData} (d : DQ r f) : DQ (rTup r) (dTup f) := fun K B v a ⟨p, xs, h1, h2, h3⟩ => by subst h1; exact .tup h2 (dpAll_of (d K B) h3)
theorem dq_lst {f : α → PyData} (d : DQ r f) : DQ (rLst r) (dLst f) := fun K B v a ⟨p, xs, h1, h2, h3⟩ => by subst h1; exact .lst (sq_of h2) (dpAll_of (d K B) h3)
theorem dq_T2 {f : α → PyData} {g : β → PyData} (d : DQ r f) (e : DQ s g) : DQ (rT2 r s) (dT2 f g) := fun K B v a ⟨p, x, y, h1, h2, h3, h4⟩ => by subst h1; exact .tup h2 (.cons (d _ _ _ _ h3) (.cons (e _ _ _ _ h4) .nil))
theorem dq_T3 {f : α → PyData} {g : β → PyData} {h : γ → PyData} (d : DQ r f) (e : DQ s g) (c : DQ t h) : DQ (rT3 r s t) (dT3 f g h) := fun K B v a ⟨p, x, y, z, h1, h2, h3, h4, h5⟩ => by subst h1; exact .tup h2 (.cons (d _ _ _ _ h3) (.cons (e _ _ _ _ h4) (.cons (c _ _ _ _ h5) .nil)))
theorem dq_opt {f : α → PyData} (d : DQ r f) : DQ (rOpt r) (dOpt f) := fun K B v a h => by
  cases a with
  | none => have h : v = .non := h; subst h; exact .non
  | some a => exact d _ _ _ _ h
theorem ev_dq {f : α → PyData} {a : α} (h : EV K M te σ B L r a L') (D : DQ r f) : EV K M te σ B L rDat (f a) L' := ev_as h fun _ _ h => D _ _ _ _ h
theorem ev_notND {d : PyData} (ha : EV K M ta σ B L rDat d L1) : EV K M (tNotN ta) σ B L rBool (!isNoneD d) L1 := fun B1 H e w Q q =>
  ha B1 H e w _ fun x B2 H2 e2 w2 hx => q _ B2 H2 e2 w2 (by
    show V.bl _ = V.bl _
    congr 1
    have hx : Dp K B2 x d := hx
    cases hx <;> rfl)
end
/-- a slot that may not be set yet -/
def slotIs {α : Type} (r : Rep α) (K : Fg) (B : Hp) (o : Option V) (x : Option α) : Prop := match x with
  | none => True
  | some a => ∃ v, o = some v ∧ r.is K B v a
theorem slot_mono {α : Type} {r : Rep α} {K : Fg} {B B' : Hp} {o : Option V} {x : Option α} (e : Ex B B') (h : slotIs r K B o x) : slotIs r K B' o x := by
  cases x with
  | none => trivial
  | some a => obtain ⟨v, h1, h2⟩ := h; exact ⟨v, h1, r.mono e h2⟩
theorem slot_get {α : Type} {r : Rep α} {K : Fg} {B : Hp} {o : Option V} {x : Option α} {a : α} (h : slotIs r K B o x) (e : x = some a) : ∃ v, o = some v ∧ r.is K B v a := by
  subst e; exact h
end L3

/-! () * k -/
namespace L3G
open PySem PySem.Spec PyProof.Rows L2
theorem tuple_mul0 (l : Addr) (n : Nat) (dd : Option Addr) (sl : Array (Option Value)) (x : Int) (u : Tok) (c0 : (decide (x < -(2 ^ 63)) || decide (x ≥ 2 ^ 63)) = false) :
    Meets (Builtin.«tuple.__mul__» ⟨[.ref l, .int x u], []⟩) (fun _ R s => s.heap.get? l = some { cls := .type "tuple", dict := dd, data := .seq #[] n, slots := sl } ∧
      R (.ok (.ret (Value.ref l))) s) :=
  .of_wp fun prog w A R s h => by
    obtain ⟨hp, g, d, tk, os⟩ := s
    obtain ⟨hl, h⟩ := h
    have f1 := AutoSeq1.idx_int
    wp_walk using wpAny_loadPart' hl
    repeat (first
      | (refine wpAny_ite_false (decide_eq_false (by rw [c0]; exact Bool.false_ne_true)) ?_; wp_walk using wpAny_loadPart' hl)
      | (refine wpAny_ite_true (decide_eq_true (by rfl)) ?_; wp_walk using wpAny_loadPart' hl))
    exact ⟨_, rfl, h⟩
def rRepA (K : PySem.W.Frag) : R2 := fun x y H Q => rRepT K x y H Q ∨ ∃ l k, x = .ref l ∧ y = .int k ∧ SqT K H l [] ∧ 0 ≤ k ∧ k ≤ 1000 ∧ Q (.ref l) H
theorem op_repA {X : Cx} : OpR X (binaryOp .Mult) (rRepA X.K) := by
  intro pins s σ H x y v u Q I rx ry h
  rcases h with h | h
  · exact op_repT pins s σ H x y v u Q I rx ry h
  · obtain ⟨l, k, rfl, rfl, hT, h1, h2, q⟩ := h
    cases rx
    obtain ⟨t, rfl⟩ := ry
    obtain ⟨its, r, ⟨⟨cls, dd, data, sl⟩, ho, hc, n, hd⟩, hs⟩ := I.tuple hT
    simp only at hc hd
    subst hc hd
    cases r
    have c0 : (decide (k < -(2 ^ 63)) || decide (k ≥ 2 ^ 63)) = false := by
      rw [decide_eq_false (by omega), decide_eq_false (by omega)] <;> rfl
    refine wpAny_binaryOp_repeat_ref (T := "tuple") (U := "int") (by decide) ⟨_, ho, rfl⟩ (fun s' => typeIs_int s' k t) noFill_tuple_mul F.fills_int_mul F.slot_int_rmul repeat_tuple F.slot_int_index.lookup
      (call_meets F.slot_int_rmul (typeIs_int s k t) F.entry_int_rmul (F.args_int_rmul_2 _ _) (int_rmul_tuple k t l #[] n dd sl)
        ⟨ho, rfl, ⟨_, ho, rfl⟩, call_meets F.slot_tuple_mul ⟨_, ho, rfl⟩ F.entry_tuple_mul (F.args_tuple_mul_2 _ _) (tuple_mul0 l n dd sl k t c0) ⟨ho, ?_⟩⟩)
    exact ⟨.ref l, H, I, rfl, q⟩
end L3G
namespace L3
open PySem L2
open Evl (Ex ex_rd ex_l ex_t sq_of st_of fresh_back)
section
variable {K : Fg} {M : Fr} {σ : St} {B : Hp} {L L1 L2 L' : List Cell} {α : Type} {r : Rep α} {ta tb : TE} {k : Int}
def repA (xs : List α) (k : Int) : Option (List α) := if 2 ≤ k ∧ k ≤ 1000 ∧ xs.length ≤ 1000 then some (List.replicate k.toNat xs).flatten else none
theorem rep_nil : ∀ n : Nat, (List.replicate n ([] : List α)).flatten = []
  | 0 => rfl
  | n + 1 => by rw [List.replicate_succ, List.flatten_cons, rep_nil n]; rfl
theorem ev_repA {xs zs : List α} (h : EV K M ta σ B L (rTup r) xs L1) (h' : EV K M tb σ B L1 rInt k L2) (hc : repA xs k = some zs) : EV K M (tOp (L3G.rRepA K) ta tb) σ B L (rTup r) zs L2 := fun B1 H e w Q q =>
  h B1 H e w _ fun v B2 H2 e2 w2 hv => h' B2 H2 (e.trans e2) w2 _ fun u B3 H3 e3 w3 hu => by
    obtain ⟨p, vs, rfl, hs, hp⟩ := hv
    unfold repA at hc
    split at hc
    · rename_i hl
      obtain ⟨l1, l2, l3⟩ := hl
      obtain rfl := Option.some.inj hc
      have hp3 := paired_mono e3 hp
      have ll := paired_len hp
      by_cases hn : vs = []
      · subst hn
        have hx : xs = [] := List.length_eq_zero_iff.mp ll.symm
        subst hx
        refine .inr ⟨p, k, rfl, hu, ex_t w3.b (ex_t e3 hs), by omega, l2, ?_⟩
        rw [rep_nil] at q
        exact q _ B3 H3 (e2.trans e3) w3 ⟨p, [], rfl, ex_t e3 hs, .nil⟩
      · refine .inl ⟨p, k, vs, rfl, hu, ex_t w3.b (ex_t e3 hs), hn, l1, l2, by omega, fun l hl => ?_⟩
        have eN := Ex.new (o := HO.tup (List.replicate k.toNat vs).flatten) (fresh_back w3.b hl)
        exact q _ (upd B3 l _) _ ((e2.trans e3).trans eN) (w3.ext hl) ⟨l, _, rfl, st_of upd_same, paired_mono eN (paired_rep hp3 _)⟩
    · cases hc
end
end L3

/-! dicts of ints by ints; sorted(d.items()) -/
namespace L3G
open PySem PySem.Spec PyProof.Rows L2
abbrev encI (kvs : List (Int × Int)) : List (Key × V) := kvs.map fun q => (Sum.inl q.1, V.int q.2)
def rSortI : V → Hp → VK → Prop := fun x H Q => ∃ (d : Addr) (kvs : List (Int × Int)), x = .ref d ∧ H d = some (.dK (encI kvs)) ∧
  ∀ (H' : Hp) (p : Addr) (ts : List Addr) (ys : List (Int × Int)), (∀ b o, H b = some o → H' b = some o) → (∀ t ∈ ts, H t = none) → H' p = none → Paired (fun (t : Addr) (q : Int × Int) => H' t = some (.tup [.int q.1, .int q.2])) ts ys →
    ys.Perm kvs → ys.Pairwise (fun a b => SrtO.lexB b a = false) → Q (.ref p) (upd H' p (.lst (ts.map V.ref)))
def tSortI (te : TE) : TE := fun σ H Q => te σ H fun x H1 => rSortI x H1 Q
def ofH (H : Hp) (v : Value) : Int × Int := match v with
  | .ref a => (match H a with
    | some (.tup [.int x, .int y]) => (x, y)
    | _ => (0, 0))
  | _ => (0, 0)
section
variable {X : Cx} {e : Expr} {te : TE} {p apos cpos pos : Pos}
theorem tups_laid {pins : List (Addr × Obj)} {σ : L2.St} {H : Hp} {s : Shared} {h' : Heap} {tk lo : Nat} {kvs : List (Key × V)} {vs : List (Key × Value)} {as : List Addr} (I : Inv X pins σ H s) (hlo : s.heap.objs.size ≤ lo) (kv : KV kvs vs)
    (hk : ∀ b o, s.heap.get? b = some o → h'.get? b = some o) (hl : as.length = vs.length) (hG : PySem.W.KdxG (mixKind X.prog X.w) vs lo h' as) :
    ∃ H' : Hp, (∀ b o, H b = some o → H' b = some o) ∧ (∀ t ∈ as, H t = none) ∧ Paired (fun (t : Addr) (q : Key × V) => H' t = some (.tup [kV q.1, q.2])) as kvs ∧ Inv X pins σ H' { s with heap := h', toks := tk } := by
  have lk : kvs.length = vs.length := Paired.length kv
  have nd : as.Nodup := List.Pairwise.imp (fun {a b} (h : a < b) => Nat.ne_of_lt h) hG.rise
  have ge : ∀ t ∈ as, s.heap.objs.size ≤ t := fun t ht => Nat.le_trans hlo (Nat.le_of_lt (hG.above t ht))
  have new : ∀ t ∈ as, H t = none := fun t ht => I.hok.fresh (ge t ht)
  have atP := LiI.putT_at as kvs H (by omega) nd
  have off : ∀ b, b ∉ as → LiI.putT H as kvs b = H b := fun b h1 => LiI.putT_off as kvs _ h1
  have low : ∀ b o, s.heap.get? b = some o → b ∉ as := fun b o e z => absurd (Heap.lt_size e) (Nat.not_lt.mpr (ge b z))
  have kp : ∀ b u, H b = some u → (LiI.putT H as kvs) b = some u := fun b u e => by
    rw [off b (fun z => by rw [new b z] at e; cases e)]
    exact e
  refine ⟨LiI.putT H as kvs, kp, new, atP, ?_⟩
  refine I.call' (ch := []) rfl ⟨fun b o q _ _ _ => hk b o q, fun b o q _ _ _ => ⟨o.slots, hk b o q⟩, fun b o q n _ => ?_, fun b o q _ => ⟨o, hk b o q⟩, fun b xs q => kp b _ q, fun b o u q => kp b _ q, fun b ps q => ⟨#[], by rw [kp b _ q]; simp⟩⟩ (fun b u q => ?_) I.bare fun b z => by simp at z
  · rw [off b (low b o q)]
    exact n
  · by_cases hb : b ∈ as
    · obtain ⟨j, pk, e1, e2, e3⟩ := LiI.paired_ix atP hb
      rw [e3] at q
      cases q
      obtain ⟨key, k, x, f1, f2, f3⟩ := hG.pairs j b e1
      obtain ⟨qv, g1, g2, g3⟩ := LiI.paired_get kv e2
      rw [f1] at g1
      cases g1
      have rk : RelV (kV pk.1) key := by
        rw [g2]
        exact relV_key (show keyIs k key = true from f2)
      exact ⟨by show 2 ≤ sizeLine; decide, [key, x], .cons rk (.cons g3 .nil), ⟨_, f3, rfl, _, rfl⟩⟩
    · rw [off b hb] at q
      exact (I.hok b u q).stay (fun d v _ y => hk d v y) (fun d y => kp d _ y) fun d xs y => kp d _ y
theorem ofH_eq {H : Hp} {a : Addr} {q : Int × Int} (h : H a = some (.tup [.int q.1, .int q.2])) : ofH H (.ref a) = q := by
  show (match H a with | some (.tup [.int x, .int y]) => (x, y) | _ => (0, 0)) = q
  rw [h]
theorem ofH_is {H : Hp} : ∀ {as : List Addr} {kvs : List (Int × Int)}, Paired (fun (t : Addr) (q : Key × V) => H t = some (.tup [kV q.1, q.2])) as (encI kvs) → (as.map Value.ref).map (ofH H) = kvs
  | [], [], _ => rfl
  | [], _ :: _, h => by cases h
  | _ :: _, [], h => by cases h
  | a :: as, q :: kvs, h => by
    cases h with
    | cons h1 h2 =>
      rw [List.map_cons, List.map_cons, ofH_is h2]
      have h1 : H a = some (.tup [.int q.1, .int q.2]) := h1
      show ofH H (.ref a) :: kvs = _
      rw [ofH_eq h1]
theorem ofH_at {H : Hp} : ∀ {as : List Addr} {kvs : List (Int × Int)}, Paired (fun (t : Addr) (q : Key × V) => H t = some (.tup [kV q.1, q.2])) as (encI kvs) → ∀ {a}, a ∈ as → H a = some (.tup [.int (ofH H (.ref a)).1, .int (ofH H (.ref a)).2])
  | [], _, _, a, h => absurd h (by simp)
  | _ :: _, [], h, _, _ => by cases h
  | b :: as, q :: kvs, h, a, ha => by
    cases h with
    | cons h1 h2 =>
      rcases List.mem_cons.mp ha with e | ha
      · subst e
        have h1 : H a = some (.tup [.int q.1, .int q.2]) := h1
        have e : ofH H (.ref a) = q := ofH_eq h1
        rw [e]; exact h1
      · exact ofH_at h2 ha
theorem paired_self {H : Hp} : ∀ {ts : List Addr}, (∀ t ∈ ts, H t = some (.tup [.int (ofH H (.ref t)).1, .int (ofH H (.ref t)).2])) → Paired (fun (t : Addr) (q : Int × Int) => H t = some (.tup [.int q.1, .int q.2])) ts ((ts.map Value.ref).map (ofH H))
  | [], _ => .nil
  | t :: ts, h => .cons (h t List.mem_cons_self) (paired_self fun u hu => h u (List.mem_cons_of_mem _ hu))
theorem refs_of : ∀ {us : List Value}, (∀ u ∈ us, ∃ a, u = Value.ref a) → ∃ ts : List Addr, us = ts.map Value.ref
  | [], _ => ⟨[], rfl⟩
  | u :: us, h => by
    obtain ⟨a, rfl⟩ := h u List.mem_cons_self
    obtain ⟨ts, rfl⟩ := refs_of fun v hv => h v (List.mem_cons_of_mem _ hv)
    exact ⟨a :: ts, rfl⟩
/-- sorted(e.items()) -/
theorem pe_sortI (hc : X.calm = true) (he : PE X e te) (hg : Gl X "sorted") (hm : X.mg "sorted" = none) (hv : bootBuiltins "sorted" = some (.builtin "sorted")) (hbase : attributeBase e "items" X.env (eval e X.env) = eval e X.env := by rfl) (hline : (apos.endLine == cpos.line) = true := by rfl)
    (hs : starEach [.Call (.Attribute e "items" apos) [] [] cpos] X.env = (false, eval (.Call (.Attribute e "items" apos) [] [] cpos) X.env) :: starEach [] X.env := by rfl) :
    PE X (.Call (.Name "sorted" p) [.Call (.Attribute e "items" apos) [] [] cpos] [] pos) (tSortI te) := by
  refine ⟨fun pins s σ H Q I hq => ?_⟩
  refine wpAny_Call_Name_kw (ld_blt I hg hm hv ?_)
  refine PyProof.Rows.callWith_builtin1 ?_ hs (by rfl)
  rw [hs]
  show wpAny _ _ (spliced ((false, eval (.Call (.Attribute e "items" apos) [] [] cpos) X.env) :: backTo pos (starEach [] X.env))) _ _ s
  refine Calls.spliced_cons ?_
  refine wpAny_Call_method (T := "dict") (id := "dict.items") hbase rfl hline F.plainAttrs_dict F.slot_dict_items F.type_dict_items (thn (he.run pins s σ H _ I hq) fun u s1 ⟨x, H1, I1, rx, d, kvs, ex, hd, q⟩ => ?_)
  subst ex
  obtain rfl : u = Value.ref d := rx
  obtain ⟨hz, hs0, vs, kv, hdo⟩ := I1.hok d _ hd
  obtain ⟨ep, hat⟩ := hdo.dictAt
  have lk : (encI kvs).length = vs.length := Paired.length kv
  have I2 : Inv X pins σ H1 { s1 with heap := s1.heap.push { cls := .type "dict_items", data := .fields #[.ref d] } } := I1.kept (t' := s1.toks) fun b ob q => Heap.get?_push_of_some _ q
  refine ⟨hdo.typeIs, hdo.mapOf.noDict, ?_⟩
  show wpAny _ _ (callWith cpos (.builtin "dict.items") [.ref d] [] []) _ X.xe s1
  refine method_meetsIn F.slot_dict_items F.entry_dict_items rfl (PySem.evalArgs_none ⟨rfl, hdo.typeIs, F.args_dict_items_1 _, _, meets_dict_items (mixKind X.prog X.w) d hs0, ⟨vs, hdo⟩, ?_⟩)
  refine Calls.spliced_nil ?_
  refine Calls.call_function_entry kind_sorted plain_sorted entry_sorted (args_sorted1 _) ?_
  unfold Builtin.«sorted»
  refine wpAny_bind (m := checkCount "sorted" 1 1 _) (wpAny_pure ?_)
  have hh : X.A.in1.handled = none := I1.ok.hd hc
  refine wpAny_bind (PySem.W.kdx_collect (A := X.A.in1) (knd := mixKind X.prog X.w) (kvs := vs) (ep := ep) hh ⟨_, Heap.get?_push_size _ rfl, rfl, rfl⟩ (hat.push _) (by omega) fun h' tk as hk hl hG => ?_)
  obtain ⟨H', k1, k3, k6, J⟩ := tups_laid (tk := tk) I2 (Nat.le_refl _) kv hk hl hG
  have hz2 : (as.map Value.ref).length ≤ sizeLine := by rw [List.length_map, hl]; omega
  refine wpAny_bind (wpAny_newList ?_ hz2)
  have hoL : (h'.push (seqObj "list" (as.map Value.ref).toArray 0)).get? h'.objs.size = some (seqObj "list" (as.map Value.ref).toArray 0) := Heap.get?_push_size _ rfl
  have isP : ∀ v ∈ as.map Value.ref, Srt.IsPair h' v (ofH H' v).1 (ofH H' v).2 := fun v hv => by
    obtain ⟨t, ht, rfl⟩ := List.mem_map.mp hv
    have ha := ofH_at k6 ht
    obtain ⟨_, its2, r2, o, ho, hc, n, hd⟩ := J.hok _ _ ha
    obtain ⟨u1, u2, rfl, ri, rj⟩ := vals2 r2
    obtain ⟨t1, rfl⟩ := ri
    obtain ⟨t2, rfl⟩ := rj
    exact ⟨t, o, t1, t2, n, rfl, ho, hc, hd⟩
  refine wpAny_bind (wpAny_holding (wpAny_call_entry slot_list_sort ⟨_, hoL, rfl⟩ entry_list_sort (SrtO.list_sort_ord (n := 0) (SrtO.swo_lex (ofH H')) hoL hz2 (fun h2 => SrtO.pairs_sortableO (by omega) (fun v hm => (isP v hm).keeps fun b o e _ => Heap.get?_push_of_some _ e) fun o e => ?_) fun out hs hb => ⟨_, rfl, ?_⟩) (args_list_sort _)))
  · have e' : some o = some (seqObj "list" (as.map Value.ref).toArray 0) := e.symm.trans hoL
    cases e'
    intro c
    exact absurd (Value.type.inj c) (by decide)
  · refine wpAny_pure ⟨_, rfl, ?_⟩
    obtain ⟨ts, rfl⟩ := refs_of (us := out) fun u hu => by
      obtain ⟨t, _, e⟩ := List.mem_map.mp (hb.perm.mem_iff.mp hu)
      exact ⟨t, e.symm⟩
    have mem : ∀ t ∈ ts, t ∈ as := fun t ht => by
      obtain ⟨t', h1, h2⟩ := List.mem_map.mp (hb.perm.mem_iff.mp (List.mem_map.mpr ⟨t, ht, rfl⟩))
      cases h2
      exact h1
    have hl2 := hb.perm.length_eq
    have e1 := ofH_is k6
    obtain ⟨n, hn⟩ := sortedHeap_at (out := (ts.map Value.ref).toArray) hoL
    have old : ∀ b o, h'.get? b = some o → (sortedHeap (h'.push (seqObj "list" (as.map Value.ref).toArray 0)) h'.objs.size (as.map Value.ref) (ts.map Value.ref).toArray).get? b = some o := fun b o e => by
      have := Heap.lt_size e
      rw [sortedHeap_old (Nat.ne_of_lt this) (by rw [size_push']; exact Nat.lt_succ_of_lt this)]
      exact Heap.get?_push_of_some _ e
    refine ⟨.ref h'.objs.size, _, J.laid (a := h'.objs.size) (o := .lst (ts.map V.ref)) (t' := tk) old (Nat.le_refl _) ?_, rfl, q H' h'.objs.size ts ((ts.map Value.ref).map (ofH H')) k1 (fun t ht => k3 t (mem t ht)) (J.hok.fresh (Nat.le_refl _)) (paired_self fun t ht => ofH_at k6 (mem t ht)) ?_ ?_⟩
    · refine ⟨by rw [List.length_map]; rw [List.length_map] at hl2; rw [hl2]; exact hz2, ts.map Value.ref, n, LiI.vals_refs ts, hn⟩
    · rw [← e1]
      exact hb.perm.map _
    · exact SrtO.srtd_map (lt := SrtO.lexB) hs
end
end L3G
namespace L3
open PySem L2
open Evl (Ex ex_rd ex_l ex_t sq_of st_of fresh_back)

/-! ### dicts of ints by ints -/
def putI : List (Int × Int) → Int → Int → List (Int × Int)
  | [], k, v => [(k, v)]
  | q :: kvs, k, v => if q.1 = k then (q.1, v) :: kvs.map (fun q => if q.1 = k then (q.1, v) else q) else q :: putI kvs k v
def leI (a b : Int × Int) : Bool := !SrtO.lexB b a
def sortI (l : List (Int × Int)) : List (Int × Int) := l.mergeSort leI
def cDk : CRep (List (Int × Int)) := ⟨fun _ _ o a => o = .dK (L3G.encI a), fun _ h => h⟩
theorem putI_cons_ne {q : Int × Int} {kvs : List (Int × Int)} {k v : Int} (h : q.1 ≠ k) : putI (q :: kvs) k v = q :: putI kvs k v := by
  show (if q.1 = k then _ else _) = _
  rw [if_neg h]
theorem enc_map (k v : Int) : ∀ kvs : List (Int × Int), (L3G.encI kvs).map (fun kv => if kv.1 = (Sum.inl k : Key) then (kv.1, V.int v) else kv) = L3G.encI (kvs.map fun q => if q.1 = k then (q.1, v) else q)
  | [] => rfl
  | q :: kvs => by
    have ih := enc_map k v kvs
    by_cases h : q.1 = k
    · show (if (Sum.inl q.1 : Key) = Sum.inl k then _ else _) :: (L3G.encI kvs).map _ = L3G.encI ((if q.1 = k then (q.1, v) else q) :: _)
      rw [ih, if_pos (by rw [h]), if_pos h]; rfl
    · show (if (Sum.inl q.1 : Key) = Sum.inl k then _ else _) :: (L3G.encI kvs).map _ = L3G.encI ((if q.1 = k then (q.1, v) else q) :: _)
      rw [ih, if_neg (fun z => h (Sum.inl.inj z)), if_neg h]; rfl
theorem enc_put (k v : Int) : ∀ kvs : List (Int × Int), putK (L3G.encI kvs) (Sum.inl k) (V.int v) = L3G.encI (putI kvs k v)
  | [] => rfl
  | q :: kvs => by
    by_cases h : q.1 = k
    · have e1 : ((L3G.encI (q :: kvs)).any fun kv => decide (kv.1 = (Sum.inl k : Key))) = true := by
        show (decide ((Sum.inl q.1 : Key) = Sum.inl k) || _) = true
        rw [h, decide_eq_true rfl, Bool.true_or]
      unfold putK
      rw [if_pos e1, enc_map]
      unfold putI
      rw [if_pos h, List.map_cons, if_pos h]
    · have ne : ¬ (Sum.inl q.1 : Key) = Sum.inl k := fun z => h (Sum.inl.inj z)
      have ih := enc_put k v kvs
      rw [putI_cons_ne h]
      unfold putK at ih ⊢
      have e0 : ((L3G.encI (q :: kvs)).any fun kv => decide (kv.1 = (Sum.inl k : Key))) = ((L3G.encI kvs).any fun kv => decide (kv.1 = (Sum.inl k : Key))) := by
        show (decide ((Sum.inl q.1 : Key) = Sum.inl k) || _) = _
        rw [decide_eq_false ne, Bool.false_or]
      rw [e0]
      by_cases ha : ((L3G.encI kvs).any fun kv => decide (kv.1 = (Sum.inl k : Key))) = true
      · rw [if_pos ha] at ih ⊢
        show (if (Sum.inl q.1 : Key) = Sum.inl k then _ else _) :: (L3G.encI kvs).map _ = _
        rw [if_neg ne, ih]
        rfl
      · rw [if_neg ha] at ih ⊢
        show _ :: (L3G.encI kvs ++ _) = _
        rw [ih]
        rfl
theorem sortI_eq {ys l : List (Int × Int)} (hp : ys.Perm l) (hs : ys.Pairwise (fun a b => SrtO.lexB b a = false)) : ys = sortI l := by
  refine List.Perm.eq_of_pairwise (le := fun a b => SrtO.lexB b a = false) (fun a b _ _ h1 h2 => ?_) hs ?_ (hp.trans (List.mergeSort_perm l leI).symm)
  · have a1 := SrtO.lexB_no.mp h1
    have a2 := SrtO.lexB_no.mp h2
    exact Prod.ext (by omega) (by omega)
  · refine (List.pairwise_mergeSort (le := leI) (fun a b c h1 h2 => ?_) (fun a b => ?_) l).imp fun {a b} h => ?_
    · unfold leI at *
      rw [Bool.not_eq_true'] at *
      have a1 := SrtO.lexB_no.mp h1
      have a2 := SrtO.lexB_no.mp h2
      refine SrtO.lexB_no.mpr ?_
      omega
    · unfold leI
      cases e : SrtO.lexB b a with
      | false => rfl
      | true =>
        have a1 := SrtO.lexB_iff.mp e
        have a2 : SrtO.lexB a b = false := SrtO.lexB_no.mpr (by omega)
        rw [a2]; rfl
    · unfold leI at h
      rwa [Bool.not_eq_true'] at h
theorem sortI_perm (l : List (Int × Int)) : (sortI l).Perm l := List.mergeSort_perm l leI
def rSetD : V → V → V → Hp → (Hp → Prop) → Prop := fun o i v H Q => ∃ a H4, o = .ref a ∧ DPut H a i v H4 ∧ Q H4
theorem set_dict {X : Cx} (hu : X.A.units + 1 < cLine) : PSet X rSetD := by
  intro pins s σ H o i v ov iv u Q I ro ri rv h
  obtain ⟨a, H4, rfl, g, q⟩ := h
  cases ro
  exact d_setItem hu I g ri rv fun s4 I4 => ⟨H4, I4, q⟩
section
variable {K : Fg} {M : Fr} {σ : St} {B H H' : Hp} {L L1 L2 L' : List Cell} {α β γ δ : Type} {r : Rep α} {s : Rep β} {ta tb tc te : TE} {tt tu : TT} {tA : TA} {i j k : Int} {D : Ends} {tz : TS}
theorem Own.grow (w : Own K B M L H) (k : ∀ b o, H b = some o → H' b = some o) : Own K B M L H' :=
  ⟨fun b u e => k b u (w.b b u e), fun b u e => k b u (w.m b u e), w.bm, fun x hx => by
    obtain ⟨⟨o, h1, h2⟩, h3⟩ := w.l x hx
    exact ⟨⟨o, k _ _ h1, h2⟩, h3⟩, w.nd, fun P hP => by
    obtain ⟨⟨ps, h1, h2⟩, h3⟩ := w.t P hP
    exact ⟨⟨ps, k _ _ h1, h2⟩, h3⟩⟩
/-- new things that stay -/
theorem Own.join {ts : List Addr} (w : Own K B M L H) (k : ∀ b o, H b = some o → H' b = some o) (new : ∀ t ∈ ts, H t = none) : Ex B (fun a => if a ∈ ts then H' a else B a) ∧ Own K (fun a => if a ∈ ts then H' a else B a) M L H' := by
  have off : ∀ {b u}, B b = some u → b ∉ ts := fun {b u} e z => by
    have := w.b b u e
    rw [new b z] at this
    cases this
  have e0 : Ex B (fun a => if a ∈ ts then H' a else B a) := fun b u e => by
    show (if b ∈ ts then H' b else B b) = some u
    rw [if_neg (off e)]; exact e
  refine ⟨e0, fun b u e => ?_, fun b u e => k b u (w.m b u e), fun b => ?_, fun x hx => ?_, w.nd, fun P hP => ?_⟩
  · have e : (if b ∈ ts then H' b else B b) = some u := e
    by_cases hb : b ∈ ts
    · rw [if_pos hb] at e; exact e
    · rw [if_neg hb] at e; exact k b u (w.b b u e)
  · by_cases hb : b ∈ ts
    · right
      exact fresh_back w.m (new b hb)
    · rcases w.bm b with h | h
      · left
        show (if b ∈ ts then H' b else B b) = none
        rw [if_neg hb]; exact h
      · exact .inr h
  · obtain ⟨⟨o, h1, h2⟩, h3, h4⟩ := w.l x hx
    refine ⟨⟨o, k _ _ h1, x.c.mono e0 h2⟩, ?_, h4⟩
    show (if x.p ∈ ts then H' x.p else B x.p) = none
    rw [if_neg (fun z => by rw [new _ z] at h1; cases h1)]; exact h3
  · obtain ⟨⟨ps, h1, h2⟩, h3, h4⟩ := w.t P hP
    refine ⟨⟨ps, k _ _ h1, h2⟩, ?_, h4⟩
    show (if P ∈ ts then H' P else B P) = none
    rw [if_neg (fun z => by rw [new _ z] at h1; cases h1)]; exact h3
theorem q_asgD {n : Nat} (w : Own K B M L H) (q : ∀ p H', Own K B M (⟨p, cDk, []⟩ :: L) H' → tz D (σ.set n (some (.ref p))) H') : tSeq (tAsg tDNewK (gName n)) tz D σ H :=
  fun p hp => q p _ (w.new hp rfl)
theorem q_setD {n m : Nat} {p : Addr} {as : List (Int × Int)} (w : Own K B M L H) (h : EV K M te σ B L rInt j L1) (hs : σ[m]? = some (some (.ref p))) (hb : EV K M tb σ B L1 rInt i L2) (hc : L2[n]? = some ⟨p, cDk, as⟩) (hr : room as.length = some ())
    (q : ∀ B' H', Ex B B' → Own K B' M (L2.set n ⟨p, cDk, putI as i j⟩) H' → tz D σ H') : tSeq (tAsg te (gSub (tVar m) tb rSetD)) tz D σ H :=
  h B H (Ex.refl _) w _ fun v B1 H1 e1 w1 hv => ⟨_, hs, hb B1 H1 e1 w1 _ fun y B2 H2 e2 w2 hy => by
    obtain ⟨⟨o', g1, g2⟩, _⟩ := w2.at hc
    have g1 : H2 p = some o' := g1
    have g2 : o' = .dK (L3G.encI as) := g2
    have hv : v = .int j := hv
    have hy : y = kV (Sum.inl i) := hy
    subst hv hy
    refine ⟨p, _, rfl, DPut.k (kvs := L3G.encI as) (by rw [g1, g2]) (by rw [List.length_map]; exact room_some hr), q B2 _ (e1.trans e2) (w2.set hc ?_)⟩
    show _ = HO.dK (L3G.encI (putI as i j))
    rw [← enc_put]⟩
theorem el_sortI {n m : Nat} {p : Addr} {as : List (Int × Int)} (hs : σ[m]? = some (some (.ref p))) (hc : L[n]? = some ⟨p, cDk, as⟩) : EVL K M (L3G.tSortI (tVar m)) σ B L (rT2 rInt rInt) (sortI as) L := fun B1 H e w Q q => by
  obtain ⟨⟨o', g1, g2⟩, _⟩ := w.at hc
  have g1 : H p = some o' := g1
  have g2 : o' = .dK (L3G.encI as) := g2
  refine ⟨_, hs, p, as, rfl, by rw [g1, g2], fun H' l ts ys k new hl hp pm st => ?_⟩
  obtain ⟨e2, w2⟩ := w.join k new
  have ey := sortI_eq pm st
  subst ey
  refine q l _ _ e2 (w2.new hl ⟨ts.map V.ref, rfl, ?_⟩)
  have go : ∀ (ts' : List Addr) (ys : List (Int × Int)), (∀ t ∈ ts', t ∈ ts) → Paired (fun (t : Addr) (q : Int × Int) => H' t = some (.tup [.int q.1, .int q.2])) ts' ys → Paired ((rT2 rInt rInt).is K fun a => if a ∈ ts then H' a else B1 a) (ts'.map V.ref) ys := fun ts' => by
    induction ts' with
    | nil => intro ys _ h; cases h; exact .nil
    | cons t ts' ih =>
      intro ys hm h
      cases h with
      | cons h1 h2 =>
        refine .cons ⟨t, _, _, rfl, st_of ?_, rfl, rfl⟩ (ih _ (fun u hu => hm u (List.mem_cons_of_mem _ hu)) h2)
        show (if t ∈ ts then H' t else B1 t) = _
        rw [if_pos (hm t List.mem_cons_self)]
        exact h1
  exact go ts _ (fun _ h => h) hp
theorem ints_of {K : Fg} {B : Hp} : ∀ {vs : List V} {xs : List Int}, Paired (rInt.is K B) vs xs → vs = xs.map V.int
  | _, _, .nil => rfl
  | _, _, .cons h t => by
    have h : _ = V.int _ := h
    rw [h, ints_of t]; rfl
theorem ev_sumL {xs : List Int} (h : EV K M te σ B L (rLst rInt) xs L') : EV K M (tCB (rSum K) (tCons te tNil)) σ B L rInt xs.sum L' := fun B1 H e w Q q =>
  h B1 H e w _ fun v B2 H2 e2 w2 hv => by
    obtain ⟨p, vs, rfl, hs, hp⟩ := rl_sc hv
    exact ⟨p, xs, rfl, by rw [← ints_of hp]; exact ex_l w2.b hs, q _ B2 H2 e2 w2 rfl⟩
end
end L3

namespace L3
open PySem L2
open Evl (Ex ex_rd ex_l ex_t sq_of st_of fresh_back)
/-! ### [..] * k -/
section
variable {K : Fg} {M : Fr} {σ : St} {B H H' : Hp} {L L1 L2 L' : List Cell} {α β γ δ : Type} {r : Rep α} {s : Rep β} {ta tb tc te : TE} {i j k : Int}
def repL (xs : List α) (k : Int) : Option (List α) := if -(2 ^ 62) ≤ k ∧ k < 2 ^ 62 ∧ xs.length * k.toNat ≤ sizeLine then some (List.replicate k.toNat xs).flatten else none
theorem el_rep {xs zs : List α} (h : EVL K M ta σ B L r xs L1) (h' : ∀ p, EV K M tb σ B (⟨p, cLst r, xs⟩ :: L1) rInt k (⟨p, cLst r, xs⟩ :: L2)) (hc : repL xs k = some zs) : EVL K M (tOp rRep ta tb) σ B L r zs L2 := fun B1 H e w Q q =>
  h B1 H e w _ fun p B2 H2 e2 w2 => h' p B2 H2 (e.trans e2) w2 _ fun u B3 H3 e3 w3 hu => by
    unfold repL at hc
    split at hc
    · rename_i hl
      obtain ⟨l1, l2, l3⟩ := hl
      obtain rfl := Option.some.inj hc
      obtain ⟨⟨o, g1, vs, g2, hp⟩, _⟩ := w3.at (i := 0) rfl
      have g1 : H3 p = some o := g1
      have ll := paired_len hp
      have ll : vs.length = xs.length := ll
      refine ⟨p, k, vs, rfl, hu, by rw [g1, g2], by omega, by omega, by rw [ll]; exact l3, fun l hl => ?_⟩
      exact q l B3 _ (e2.trans e3) (w3.tail.new hl ⟨_, rfl, paired_rep hp _⟩)
    · cases hc
theorem nn_rT2 {B : Hp} (v : V) (x : α × β) (h : (rT2 r s).is K B v x) : v ≠ .non := by
  obtain ⟨p, _, _, rfl, _⟩ := h
  exact fun z => by cases z
theorem nn_rTup {B : Hp} (v : V) (x : List α) (h : (rTup r).is K B v x) : v ≠ .non := by
  obtain ⟨p, _, rfl, _⟩ := h
  exact fun z => by cases z
theorem nn_rLst {B : Hp} (v : V) (x : List α) (h : (rLst r).is K B v x) : v ≠ .non := by
  obtain ⟨p, _, rfl, _⟩ := h
  exact fun z => by cases z
abbrev rTupOf (K : Fg) : List V → Hp → VK → Prop := fun xs H Q => ∃ p ys, xs = [.ref p] ∧ ((SqL K H p ys ∧ ∀ l, H l = none → Q (.ref l) (upd H l (.tup ys))) ∨ (SqT K H p ys ∧ Q (.ref p) H))
abbrev rListOf (K : Fg) : List V → Hp → VK → Prop := fun xs H Q => ∃ p ys, xs = [.ref p] ∧ (SqL K H p ys ∨ SqT K H p ys) ∧ ∀ l, H l = none → Q (.ref l) (upd H l (.lst ys))
/-! ### a def at an address -/
structure ClA (P : Program) (w : World) (K : Fg) (mg : Str → Option Value) (base : Heap) (k : Nat) (f : Addr) (sp : Sp) (dvs : List V) : Prop where
  ex : ∃ (fd : FuncData) (ps : List Str) (ds : List Value), FnOk P w K mg base CX0 k f fd ps sp ∧ PySem.W.keepIn K (.ref f) = true ∧ Binds K fd ps ds ∧ Vals dvs ds
theorem Cl.at {P : Program} {w : World} {mg : Str → Option Value} {base : Heap} {k : Nat} {x : Str} {sp : Sp} {dvs : List V} (c : Cl P w K mg base k x sp dvs) : ∃ f, mg x = some (.ref f) ∧ PySem.W.keepIn K (.ref f) = true ∧ ClA P w K mg base k f sp dvs := by
  obtain ⟨f, fd, ps, ds, F, hm, kp, b, d⟩ := c.ex
  exact ⟨f, hm, kp, fd, ps, ds, F, kp, b, d⟩
theorem pe_cL {X : Cx} {k j i : Nat} {f : Addr} {x : Str} {sp : Sp} {dvs : List V} {p pos : Pos} {e : Expr} {es : List Expr} {t : TA} (c : ClA X.prog X.w X.K X.mg X.base k f sp dvs) (hr : Room j X.A) (hk : k ≤ j) (hN : X.N[i]? = some x) (hv : Vis X.env.scope x) (ha : PA X (e :: es) t)
    (hdb : (x == ("__debug__" : Str)) = false := by decide) (hcd : (x == ("__classdict__" : Str)) = false := by decide) (he : starEach (e :: es) X.env = (false, eval e X.env) :: starEach es X.env := by rfl) (hpl : (backTo pos (starEach es X.env)).any (·.1) = false := by rfl) :
    PE X (.Call (.Name x p) (e :: es) [] pos) (tCallL i f sp dvs E0 t) := by
  obtain ⟨fd, ps, ds, F, kp, b, d⟩ := c.ex
  exact pe_callL F (hr.mono hk) hN hv kp b d pass0 ha hdb hcd he hpl
theorem ev_callL {i : Nat} {f : Addr} {sp : Sp} {dvs : List V} {E : XK} {tA : TA} {a : α} (hs : σ[i]? = some (some (.ref f))) (h : EV K M (tCall sp dvs E tA) σ B L r a L') : EV K M (tCallL i f sp dvs E tA) σ B L r a L' :=
  fun B1 H e w Q q => ⟨hs, h B1 H e w Q q⟩
/-- list(range(..)) -/
def rgO (a b : Int) : Option (List Int) := if -(2 ^ 62) ≤ a ∧ a < 2 ^ 62 ∧ -(2 ^ 62) ≤ b ∧ b < 2 ^ 62 ∧ (b - a).toNat ≤ 2 ^ 24 then some (rng a b) else none
theorem rg_paired {K : Fg} {B : Hp} (a b : Int) : Paired (rInt.is K B) (rgV a b) (rng a b) := by
  unfold rgV rng
  exact paired_map (F := rInt.is K B) (f := fun (i : Nat) => V.int (a + (i : Int))) (g := fun (k : Nat) => a + (k : Int)) (fun _ => rfl) _
theorem el_listRg1 {xs : List Int} (h : EV K M ta σ B L rInt k L') (hc : rgO 0 k = some xs) : EVL K M (tLstRg (tRg1 ta)) σ B L rInt xs L' := fun B1 H e w Q q =>
  h B1 H e w _ fun v B2 H2 e2 w2 hv => by
    unfold rgO at hc
    split at hc
    · rename_i ok
      obtain rfl := Option.some.inj hc
      exact ⟨k, hv, ok, fun l hl => q l B2 _ e2 (w2.new hl ⟨_, rfl, rg_paired 0 k⟩)⟩
    · cases hc
theorem el_listRg2 {xs : List Int} (h : EV K M ta σ B L rInt j L1) (h' : EV K M tb σ B L1 rInt k L') (hc : rgO j k = some xs) : EVL K M (tLstRg (tRg2 ta tb)) σ B L rInt xs L' := fun B1 H e w Q q =>
  h B1 H e w _ fun v B2 H2 e2 w2 hv => h' B2 H2 (e.trans e2) w2 _ fun u B3 H3 e3 w3 hu => by
    unfold rgO at hc
    split at hc
    · rename_i ok
      obtain rfl := Option.some.inj hc
      exact ⟨j, k, hv, hu, ok, fun l hl => q l B3 _ (e2.trans e3) (w3.new hl ⟨_, rfl, rg_paired j k⟩)⟩
    · cases hc
/-- a store as a part of a target -/
theorem g_setC {n m l : Nat} {p : Addr} {as : List α} {a : α} {v : V} {G : St → Hp → Prop} (w : Own K B M L H) (hv : r.is K B v a) (hs : σ[m]? = some (some (.ref p))) (hb : EV K M tb σ B L rInt i L2) (hc : L2[n]? = some ⟨p, cLst r, as⟩) (hi : ixO as.length i = some l)
    (q : ∀ B' H', Ex B B' → Own K B' M (L2.set n ⟨p, cLst r, as.set l a⟩) H' → G σ H') : gSub (tVar m) tb rSetL v σ H G :=
  ⟨_, hs, hb B H (Ex.refl _) w _ fun y B2 H2 e2 w2 hy => by
    obtain ⟨⟨o', g1, xs, g2, g3⟩, _⟩ := w2.at hc
    have g1 : H2 p = some o' := g1
    exact ⟨p, xs, i, l, rfl, hy, by rw [g1, g2], by rw [paired_len g3]; exact hi, q B2 _ e2 (w2.set hc ⟨_, rfl, paired_set (r.mono e2 hv) l g3⟩)⟩⟩
/-! ### k in xs, of ints -/
theorem flat_ints : ∀ xs : List Int, (xs.map V.int).all flatV = true
  | [] => rfl
  | x :: xs => by rw [List.map_cons, List.all_cons, flat_ints xs]; rfl
theorem inV_ints (k : Int) : ∀ xs : List Int, inV (.int k) (xs.map V.int) = decide (k ∈ xs)
  | [] => rfl
  | x :: xs => by
    have ih := inV_ints k xs
    unfold inV at ih ⊢
    rw [List.map_cons, List.any_cons, ih]
    have e : eqV (.int x) (.int k) = decide (x = k) := rfl
    rw [e]
    clear ih e
    by_cases h : x = k
    · subst h
      rw [decide_eq_true rfl, Bool.true_or, decide_eq_true (List.mem_cons_self)]
    · rw [decide_eq_false h, Bool.false_or]
      by_cases h2 : k ∈ xs
      · rw [decide_eq_true h2, decide_eq_true (List.mem_cons_of_mem _ h2)]
      · rw [decide_eq_false h2, decide_eq_false fun z => (List.mem_cons.mp z).elim (fun q => h q.symm) h2]
theorem sq_ints {B H : Hp} {v : V} {xs : List Int} (e : Ex B H) (h : (rSeq rInt).is K B v xs) : ∃ p, v = .ref p ∧ (SqL K H p (xs.map V.int) ∨ SqT K H p (xs.map V.int)) := by
  obtain ⟨p, vs, h1, h2, h3⟩ := h
  have ev := ints_of h3
  subst ev
  exact ⟨p, h1, h2.imp (ex_l e) (ex_t e)⟩
theorem ev_inI {xs : List Int} (h : EV K M ta σ B L rInt k L1) (h' : EV K M tb σ B L1 (rSeq rInt) xs L2) : EV K M (tOp (rIn K false) ta tb) σ B L rBool (decide (k ∈ xs)) L2 := fun B1 H e w Q q =>
  h B1 H e w _ fun v B2 H2 e2 w2 hv => h' B2 H2 (e.trans e2) w2 _ fun u B3 H3 e3 w3 hu => by
    have hv : v = .int k := hv
    subst hv
    obtain ⟨p, rfl, hs⟩ := sq_ints w3.b hu
    refine ⟨p, _, rfl, hs, rfl, flat_ints xs, ?_⟩
    rw [inV_ints]
    exact q _ B3 H3 (e2.trans e3) w3 rfl
theorem ev_niI {xs : List Int} (h : EV K M ta σ B L rInt k L1) (h' : EV K M tb σ B L1 (rSeq rInt) xs L2) : EV K M (tOp (rIn K true) ta tb) σ B L rBool (!decide (k ∈ xs)) L2 := fun B1 H e w Q q =>
  h B1 H e w _ fun v B2 H2 e2 w2 hv => h' B2 H2 (e.trans e2) w2 _ fun u B3 H3 e3 w3 hu => by
    have hv : v = .int k := hv
    subst hv
    obtain ⟨p, rfl, hs⟩ := sq_ints w3.b hu
    refine ⟨p, _, rfl, hs, rfl, flat_ints xs, ?_⟩
    rw [inV_ints]
    exact q _ B3 H3 (e2.trans e3) w3 rfl
theorem cell_ints {n : Nat} {p : Addr} {xs : List Int} (w : Own K B M L H) (hc : L[n]? = some ⟨p, cLst rInt, xs⟩) : SqL K H p (xs.map V.int) := by
  obtain ⟨⟨o, h1, vs, h2, h3⟩, _⟩ := w.at hc
  have h1 : H p = some o := h1
  have ev := ints_of h3
  subst ev
  exact sq_of (by rw [h1, h2])
theorem ev_inC {n : Nat} {p : Addr} {xs : List Int} (h : EV K M ta σ B L rInt k L1) (h' : EV K M tb σ B L1 rRef p L2) (hc : L2[n]? = some ⟨p, cLst rInt, xs⟩) : EV K M (tOp (rIn K false) ta tb) σ B L rBool (decide (k ∈ xs)) L2 := fun B1 H e w Q q =>
  h B1 H e w _ fun v B2 H2 e2 w2 hv => h' B2 H2 (e.trans e2) w2 _ fun u B3 H3 e3 w3 hu => by
    have hv : v = .int k := hv
    have hu : u = .ref p := hu
    subst hv hu
    refine ⟨p, _, rfl, .inl (cell_ints w3 hc), rfl, flat_ints xs, ?_⟩
    rw [inV_ints]
    exact q _ B3 H3 (e2.trans e3) w3 rfl
theorem ev_niC {n : Nat} {p : Addr} {xs : List Int} (h : EV K M ta σ B L rInt k L1) (h' : EV K M tb σ B L1 rRef p L2) (hc : L2[n]? = some ⟨p, cLst rInt, xs⟩) : EV K M (tOp (rIn K true) ta tb) σ B L rBool (!decide (k ∈ xs)) L2 := fun B1 H e w Q q =>
  h B1 H e w _ fun v B2 H2 e2 w2 hv => h' B2 H2 (e.trans e2) w2 _ fun u B3 H3 e3 w3 hu => by
    have hv : v = .int k := hv
    have hu : u = .ref p := hu
    subst hv hu
    refine ⟨p, _, rfl, .inl (cell_ints w3 hc), rfl, flat_ints xs, ?_⟩
    rw [inV_ints]
    exact q _ B3 H3 (e2.trans e3) w3 rfl
/-- a list of ours that stays from now on -/
theorem ev_frzC {te : TE} {n : Nat} {p : Addr} {xs : List α} (h : EV K M te σ B L rRef p L') (hc : L'[n]? = some ⟨p, cLst r, xs⟩) : EV K M te σ B L (rLst r) xs (L'.eraseIdx n) := fun B1 H e w Q q =>
  h B1 H e w _ fun v B2 H2 e2 w2 hv => by
    have hv : v = .ref p := hv
    subst hv
    obtain ⟨o, h1, ⟨vs, h2, hp⟩, hB, w3⟩ := w2.freeze hc
    have h1 : H2 p = some o := h1
    have eN := Ex.new (o := o) hB
    refine q _ _ H2 (e2.trans eN) w3 ⟨p, vs, rfl, upd_same.trans (congrArg some h2), paired_mono eN hp⟩
/-- a value that may be None, where it is none -/
theorem ev_get {te : TE} {o : Option α} {a : α} (h : EV K M te σ B L (rOpt r) o L') (e : o = some a) : EV K M te σ B L r a L' := by
  subst e
  exact h
end
/-! ### a global that is a pair of ints -/
def pairAt (K : Fg) (a : Addr) (i j : Int) : Bool := match K.lookup a with
  | some o => decide (o.cls = .type "tuple") && (match o.data with
    | .seq its _ => (match its.toList with
      | [.int x _, .int y _] => decide (x = i) && decide (y = j)
      | _ => false)
    | _ => false)
  | none => false
theorem pairAt_ok {K : Fg} {a : Addr} {i j : Int} (h : pairAt K a i j = true) (B : Hp) : (rT2 rInt rInt).is K B (.ref a) (i, j) := by
  unfold pairAt at h
  split at h
  · rename_i o ho
    rw [Bool.and_eq_true] at h
    obtain ⟨hc, h⟩ := h
    split at h
    · rename_i its n hd
      split at h
      · rename_i x tx y ty hi
        rw [Bool.and_eq_true] at h
        have e1 := of_decide_eq_true h.1
        have e2 := of_decide_eq_true h.2
        subst e1 e2
        refine ⟨a, .int x, .int y, rfl, .inr ⟨o, its, n, ho, of_decide_eq_true hc, hd, ?_, ?_⟩, rfl, rfl⟩
        · rw [← Array.length_toList, hi]; show 2 ≤ sizeLine; decide
        · rw [hi]; exact .cons ⟨_, rfl⟩ (.cons ⟨_, rfl⟩ .nil)
      · cases h
    · cases h
  · cases h
def pairG (K : Fg) (x : Str) (i j : Int) : Bool := match PySem.W.nsIn K mainGlobals x with
  | some (some (.ref a)) => pairAt K a i j
  | _ => false
theorem pairG_ok {K : Fg} {h : Heap} {mg : Str → Option Value} {x : Str} {i j : Int} (X : K.In h) (G : h.Ns mainGlobals mg) (e : pairG K x i j = true) : GV K mg x (rT2 rInt rInt) (i, j) := by
  unfold pairG at e
  split at e
  · rename_i a ha
    exact ⟨.ref a, .ref a, PySem.W.mg_of X G ha, rfl, pairAt_ok e⟩
  · cases e
end L3

namespace L3
open PySem L2
open Evl (Ex ex_rd ex_l ex_t sq_of st_of fresh_back)
/-! ### while -/
def iterM {S R : Type} (f : S → Option (Stp S R)) : Nat → S → Option (S ⊕ R)
  | 0, _ => none
  | n + 1, s => match f s with
    | some (.nx s') => iterM f n s'
    | some (.bk s') => some (.inl s')
    | some (.rt r) => some (.inr r)
    | none => none
open Classical in
noncomputable def whileR {S R : Type} (f : S → Option (Stp S R)) (s : S) : Option (S ⊕ R) :=
  if h : ∃ n o, iterM f n s = some o then some (choose (choose_spec h)) else none
theorem whileR_some {S R : Type} {f : S → Option (Stp S R)} {s : S} {o : S ⊕ R} (h : whileR f s = some o) : ∃ n, iterM f n s = some o := by
  unfold whileR at h
  split at h
  · rename_i h'
    rw [← h]
    exact ⟨_, Classical.choose_spec (Classical.choose_spec h')⟩
  · cases h
theorem iterM_up {S R : Type} {f : S → Option (Stp S R)} : ∀ {n m : Nat} {s : S} {o : S ⊕ R}, iterM f n s = some o → n ≤ m → iterM f m s = some o
  | 0, _, _, _, h, _ => by cases h
  | n + 1, 0, _, _, _, h => by omega
  | n + 1, m + 1, s, o, h, l => by
    unfold iterM at h ⊢
    cases hf : f s with
    | none => rw [hf] at h; cases h
    | some t =>
      rw [hf] at h
      cases t with
      | nx s' => exact iterM_up (n := n) h (by omega)
      | bk s' => exact h
      | rt r => exact h
theorem whileR_of {S R : Type} {f : S → Option (Stp S R)} {s : S} {o : S ⊕ R} {n : Nat} (h : iterM f n s = some o) : whileR f s = some o := by
  unfold whileR
  have e : ∃ n o, iterM f n s = some o := ⟨n, o, h⟩
  rw [dif_pos e]
  obtain ⟨m, hm⟩ : ∃ m, iterM f m s = some (Classical.choose (Classical.choose_spec e)) := ⟨_, Classical.choose_spec (Classical.choose_spec e)⟩
  have h1 := iterM_up h (Nat.le_max_left n m)
  have h2 := iterM_up hm (Nat.le_max_right n m)
  rw [h1] at h2
  exact h2.symm
noncomputable def whileB {S : Type} (f : S → Option (Stp S Empty)) (s : S) : Option S := (whileR f s).map fun o => match o with
  | .inl s => s
  | .inr r => nomatch r
section
variable {K : Fg} {M : Fr} {σ : St} {B B' H H' : Hp} {L L1 L2 L' : List Cell} {α β γ δ : Type} {r : Rep α} {s : Rep β} {t : Rep γ} {ta tb tc te : TE} {tt tu : TT} {tA : TA} {i j k : Int} {b c : Bool} {D : Ends} {tz t1 t2 : TS}
theorem q_wt {Q : Bool → Hp → Prop} (w : Own K B M L H) (h : ET K M tt σ B L b L') (h1 : b = true → ∀ B' H', Ex B B' → Own K B' M L' H' → Q true H') (h2 : b = false → ∀ B' H', Ex B B' → Own K B' M L' H' → Q false H') : tt σ H Q :=
  h B H (Ex.refl _) w _ fun B' H' e w' => by
    cases b with
    | true => exact h1 rfl B' H' e w'
    | false => exact h2 rfl B' H' e w'
theorem q_whileR {S R : Type} {tb : TS} (w : Own K B M L H) (f : S → Option (Stp S R)) (P : S → Hp → St → Prop) (Lf : S → List Cell) (s0 : S) {o : S ⊕ R} (hm : whileR f s0 = some o)
    (h0 : ∀ B', Ex B B' → P s0 B' σ) (hL : Lf s0 = L)
    (hs : ∀ s st B0 B' H' σ', f s = some st → Ex B B0 → P s B0 σ' → Ex B0 B' → Own K B' M (Lf s) H' → (∀ q, st = .rt q → o = .inr q) → ∀ (N : St → Hp → Prop) (BK : St → Hp → Prop),
      (∀ s3 B3 H3 σ3, st = .nx s3 → Ex B' B3 → Own K B3 M (Lf s3) H3 → P s3 B3 σ3 → N σ3 H3) → (∀ s3 B3 H3 σ3, st = .bk s3 → Ex B' B3 → Own K B3 M (Lf s3) H3 → P s3 B3 σ3 → BK σ3 H3) →
      ∀ Q : Bool → Hp → Prop, (∀ H1, tb { D with nx := N, ct := N, bk := BK } σ' H1 → Q true H1) → (∀ H1, BK σ' H1 → Q false H1) → tt σ' H' Q)
    (hd : ∀ s B' H' σ', o = .inl s → Ex B B' → Own K B' M (Lf s) H' → P s B' σ' → tz D σ' H') : tSeq (tWhile tt tb) tz D σ H := by
  obtain ⟨n, hn⟩ := whileR_some hm
  refine ⟨fun m σ' H' => ∃ s B', Ex B B' ∧ Own K B' M (Lf s) H' ∧ P s B' σ' ∧ iterM f m s = some o, ⟨n, s0, B, Ex.refl _, by rw [hL]; exact w, h0 B (Ex.refl _), hn⟩, ?_⟩
  rintro m σ' H' ⟨s, B', e', w', hP, hl⟩
  cases m with
  | zero => cases hl
  | succ m =>
    unfold iterM at hl
    cases hst : f s with
    | none => rw [hst] at hl; cases hl
    | some st =>
      rw [hst] at hl
      refine hs s st B' B' H' σ' hst e' hP (Ex.refl _) w' (fun q e => by rw [e] at hl; exact (Option.some.inj hl).symm) (fun σ3 H3 => ∃ s3 B3, st = .nx s3 ∧ Ex B B3 ∧ Own K B3 M (Lf s3) H3 ∧ P s3 B3 σ3) (tz D)
        (fun s3 B3 H3 σ3 e3 e4 w3 p3 => ⟨s3, B3, e3, e'.trans e4, w3, p3⟩) (fun s3 B3 H3 σ3 e3 e4 w3 p3 => by
          rw [e3] at hl
          exact hd s3 B3 H3 σ3 (Option.some.inj hl).symm (e'.trans e4) w3 p3) _ (fun H1 hb => ?_) (fun H1 hb => ?_)
      · refine (if_pos rfl).mpr ⟨_, ?_, hb⟩
        rintro σ3 H3 ⟨s3, B3, e3, a1, a2, a3⟩
        subst e3
        exact ⟨m, Nat.lt_succ_self m, s3, B3, a1, a2, a3, hl⟩
      · exact (if_neg Bool.false_ne_true).mpr hb
theorem q_whileB {S : Type} {tb : TS} (w : Own K B M L H) (f : S → Option (Stp S Empty)) (P : S → Hp → St → Prop) (Lf : S → List Cell) (s0 : S) {s1 : S} (hm : whileB f s0 = some s1)
    (h0 : ∀ B', Ex B B' → P s0 B' σ) (hL : Lf s0 = L)
    (hs : ∀ s st B0 B' H' σ', f s = some st → Ex B B0 → P s B0 σ' → Ex B0 B' → Own K B' M (Lf s) H' → ∀ (N : St → Hp → Prop) (BK : St → Hp → Prop),
      (∀ s3 B3 H3 σ3, st = .nx s3 → Ex B' B3 → Own K B3 M (Lf s3) H3 → P s3 B3 σ3 → N σ3 H3) → (∀ s3 B3 H3 σ3, st = .bk s3 → Ex B' B3 → Own K B3 M (Lf s3) H3 → P s3 B3 σ3 → BK σ3 H3) →
      ∀ Q : Bool → Hp → Prop, (∀ H1, tb { D with nx := N, ct := N, bk := BK } σ' H1 → Q true H1) → (∀ H1, BK σ' H1 → Q false H1) → tt σ' H' Q)
    (hd : ∀ B' H' σ', Ex B B' → Own K B' M (Lf s1) H' → P s1 B' σ' → tz D σ' H') : tSeq (tWhile tt tb) tz D σ H := by
  unfold whileB at hm
  cases h : whileR f s0 with
  | none => rw [h] at hm; cases hm
  | some o =>
    rw [h] at hm
    refine q_whileR w f P Lf s0 h h0 hL (fun s st B0 B' H' σ' a1 a2 a3 a4 a5 _ => hs s st B0 B' H' σ' a1 a2 a3 a4 a5) fun s B' H' σ' a1 => ?_
    subst a1
    have e : s = s1 := Option.some.inj hm
    subst e
    exact hd B' H' σ'
/-! ### calls that read lists of ours -/
def nTup : HO → Prop
  | .lst _ => True
  | .dK _ => True
  | _ => False
structure NT {α : Type} (c : CRep α) : Prop where
  nt : ∀ {K : Fg} {B : Hp} {o : HO} {a : α}, c.is K B o a → nTup o
theorem nt_lst {r : Rep α} : NT (cLst r) := ⟨fun ⟨xs, h, _⟩ => by subst h; trivial⟩
theorem nt_l2 {r : Rep α} {s : Rep β} : NT (cL2 r s) := ⟨fun ⟨x, y, h, _⟩ => by subst h; trivial⟩
theorem nt_dk : NT cDk := ⟨fun h => by
  have h : _ = HO.dK _ := h
  subst h; trivial⟩
def NTs (L : List Cell) : Prop := ∀ x ∈ L, NT x.c
theorem nts_nil : NTs [] := fun _ h => absurd h (by simp)
theorem nts_cons {x : Cell} (h : NT x.c) (h' : NTs L) : NTs (x :: L) := fun y hy => (List.mem_cons.mp hy).elim (fun e => e ▸ h) (h' y)
/-- without some addresses -/
def era (B : Hp) (ps : List Addr) : Hp := fun a => if a ∈ ps then none else B a
/-- with lists of ours -/
def frz (B : Hp) (L : List Cell) (H : Hp) : Hp := fun a => if a ∈ L.map (·.p) then H a else B a
structure TO {α : Type} (r : Rep α) : Prop where
  to : ∀ {K : Fg} {B : Hp} {ps : List Addr} {v : V} {a : α}, (∀ p ∈ ps, ∃ o, B p = some o ∧ nTup o) → r.is K B v a → r.is K (era B ps) v a
theorem era_t {ps : List Addr} {p : Addr} {xs : List V} (h : ∀ p ∈ ps, ∃ o, B p = some o ∧ nTup o) (hs : SqT K B p xs) : SqT K (era B ps) p xs := by
  have out : ∀ o, B p = some o → ¬ nTup o → era B ps p = some o := fun o e n => by
    unfold era
    rw [if_neg fun hp => ?_]
    · exact e
    · obtain ⟨u, e1, e2⟩ := h p hp
      rw [e] at e1
      cases e1
      exact n e2
  rcases hs with (e | ⟨o, e⟩) | e
  · exact .inl (.inl (out _ e id))
  · exact .inl (.inr ⟨o, out _ e id⟩)
  · exact .inr e
theorem to_int : TO rInt := ⟨fun _ h => h⟩
theorem to_bool : TO rBool := ⟨fun _ h => h⟩
theorem to_str : TO rStr := ⟨fun _ h => h⟩
theorem to_non : TO rNon := ⟨fun _ h => h⟩
theorem to_opt {r : Rep α} (h : TO r) : TO (rOpt r) := ⟨fun {K B ps v a} q e => by
  cases a with
  | none => exact e
  | some a => exact h.to q e⟩
theorem to_T2 {r : Rep α} {s : Rep β} (h : TO r) (g : TO s) : TO (rT2 r s) := ⟨fun q ⟨p, x, y, e1, e2, e3, e4⟩ => ⟨p, x, y, e1, era_t q e2, h.to q e3, g.to q e4⟩⟩
theorem to_T3 {r : Rep α} {s : Rep β} {t : Rep γ} (h : TO r) (g : TO s) (f : TO t) : TO (rT3 r s t) := ⟨fun q ⟨p, x, y, z, e1, e2, e3, e4, e5⟩ => ⟨p, x, y, z, e1, era_t q e2, h.to q e3, g.to q e4, f.to q e5⟩⟩
theorem paired_to {F G : V → α → Prop} (h : ∀ v a, F v a → G v a) {xs : List V} {as : List α} (e : Paired F xs as) : Paired G xs as := paired_imp h e
theorem to_tup {r : Rep α} (h : TO r) : TO (rTup r) := ⟨fun q ⟨p, xs, e1, e2, e3⟩ => ⟨p, xs, e1, era_t q e2, paired_to (fun _ _ => h.to q) e3⟩⟩
def AF (K : Fg) (M : Fr) (L : List Cell) (as as' : List Arg) : Prop := ∀ B H vs, Own K B M L H → ArgsIs K B vs as → ArgsIs K (frz B L H) vs as'
theorem ex_frz (w : Own K B M L H) : Ex B (frz B L H) := fun a u e => by
  unfold frz
  split
  · exact w.b a u e
  · exact e
theorem af_nil : AF K M L [] [] := fun B H vs w h => by
  match vs, h with
  | [], _ => trivial
theorem af_same {a : Arg} {as as' : List Arg} (h : AF K M L as as') : AF K M L (a :: as) (a :: as') := fun B H vs w g => by
  match vs, g with
  | _ :: _, ⟨g1, g2⟩ => exact ⟨a.r.mono (ex_frz w) g1, h B H _ w g2⟩
theorem af_cell {n : Nat} {p : Addr} {r : Rep α} {xs : List α} {as as' : List Arg} (hc : L[n]? = some ⟨p, cLst r, xs⟩) (h : AF K M L as as') : AF K M L (⟨rRef, p⟩ :: as) (⟨rLst r, xs⟩ :: as') := fun B H vs w g => by
  match vs, g with
  | v :: _, ⟨g1, g2⟩ =>
    obtain ⟨⟨o, h1, ys, h2, h3⟩, _⟩ := w.at hc
    have h1 : H p = some o := h1
    have g1 : v = .ref p := g1
    refine ⟨⟨p, ys, g1, ?_, paired_mono (ex_frz w) h3⟩, h B H _ w g2⟩
    unfold frz
    rw [if_pos (List.mem_map.mpr ⟨_, List.mem_of_getElem? hc, rfl⟩), h1, h2]
theorem Own.frzAll (w : Own K B M L H) : Own K (frz B L H) M [] H := by
  refine ⟨fun a u e => ?_, w.m, fun a => ?_, fun _ h => absurd h (by simp), by simp, fun P hP => ?_⟩
  · unfold frz at e
    split at e
    · exact e
    · exact w.b a u e
  · unfold frz
    split
    · rename_i h
      obtain ⟨x, hx, rfl⟩ := List.mem_map.mp h
      exact .inr (w.l x hx).2.2
    · exact w.bm a
  · obtain ⟨t1, t2, t3, t4⟩ := w.t P hP
    exact ⟨t1, by unfold frz; rw [if_neg t4]; exact t2, t3, by simp⟩
theorem Own.unfrz {B3 H3 : Hp} (w : Own K B M L H) (e : Ex (frz B L H) B3) (w3 : Own K B3 M [] H3) : Ex B (era B3 (L.map (·.p))) ∧ Own K (era B3 (L.map (·.p))) M L H3 := by
  have hex : Ex B (era B3 (L.map (·.p))) := fun a u h => by
    have hn : a ∉ L.map (·.p) := fun hm => by
      obtain ⟨x, hx, rfl⟩ := List.mem_map.mp hm
      rw [(w.l x hx).2.1] at h
      cases h
    unfold era
    rw [if_neg hn]
    exact e a u (ex_frz w a u h)
  refine ⟨hex, fun a u h => ?_, w3.m, fun a => ?_, fun x hx => ?_, w.nd, fun P hP => ?_⟩
  · unfold era at h
    split at h
    · cases h
    · exact w3.b a u h
  · unfold era
    split
    · exact .inl rfl
    · exact w3.bm a
  · obtain ⟨⟨o, h1, h2⟩, h3, h4⟩ := w.l x hx
    have hm : x.p ∈ L.map (·.p) := List.mem_map.mpr ⟨x, hx, rfl⟩
    refine ⟨⟨o, w3.b _ _ (e _ _ ?_), x.c.mono hex h2⟩, by unfold era; rw [if_pos hm], h4⟩
    unfold frz
    rw [if_pos hm, h1]
  · obtain ⟨t1, t2, t3, _⟩ := w3.t P hP
    obtain ⟨_, _, _, t4⟩ := w.t P hP
    exact ⟨t1, by unfold era; rw [if_neg t4]; exact t2, t3, t4⟩
theorem ev_callF {C : List Arg → List Cell → Arg → List Cell → Prop} {E : XK} {as as' : List Arg} {a : α} (ha : EA K M tA σ B L as L1) (hf : AF K M L1 as as') (hn : NTs L1) (hr : TO r) (h : C as' [] ⟨r, a⟩ []) : EV K M (tCall (spV K M.T C) [] E tA) σ B L r a L1 := fun B1 H e w Q q =>
  ha B1 H e w _ fun vs B2 H2 e2 w2 hv => by
    show spV K M.T C (vs ++ []) H2 Q E
    rw [List.append_nil]
    refine ⟨frz B2 L1 H2, M, [], as', ⟨r, a⟩, [], rfl, w2.frzAll, hf B2 H2 vs w2 hv, h, fun v B' H' e3 w3 hr3 => ?_⟩
    obtain ⟨e4, w4⟩ := w2.unfrz e3 w3
    refine q v _ H' (e2.trans e4) w4 (hr.to (fun p hp => ?_) hr3)
    obtain ⟨x, hx, rfl⟩ := List.mem_map.mp hp
    obtain ⟨⟨o, h1, h2⟩, _⟩ := w2.l x hx
    refine ⟨o, e3 _ _ ?_, (hn x hx).nt h2⟩
    unfold frz
    rw [if_pos hp, h1]
/-- a list of ours stays from now on -/
theorem frz_step {n : Nat} {p : Addr} {xs : List α} (w : Own K B M L H) (hc : L[n]? = some ⟨p, cLst r, xs⟩) : ∃ B', Ex B B' ∧ Own K B' M (L.eraseIdx n) H ∧ (rLst r).is K B' (.ref p) xs := by
  obtain ⟨o, h1, ⟨vs, h2, h3⟩, h4, w'⟩ := w.freeze hc
  have h4 : B p = none := h4
  refine ⟨_, Ex.new h4, w', p, vs, rfl, ?_, paired_mono (Ex.new h4) h3⟩
  show upd B p o p = _
  rw [upd_same, h2]
end
/-! ### defs that return a new list -/
def spN (K : Fg) (T : List Addr) {α : Type} (r : Rep α) (C : List Arg → List Cell → List α → List Cell → Prop) : Sp := fun vs H Q _ => ∃ B M L as xs L', M.T = T ∧ Own K B M L H ∧ ArgsIs K B vs as ∧ C as L xs L' ∧
  ∀ p B' H', Ex B B' → Own K B' M (⟨p, cLst r, xs⟩ :: L') H' → Q (.ref p) H'
section
variable {K : Fg} {M : Fr} {σ : St} {B B' H H' : Hp} {L L1 L2 L' : List Cell} {α β γ δ : Type} {r : Rep α} {s : Rep β} {t : Rep γ} {ta tb tc te : TE} {tt tu : TT} {tA : TA} {i j k : Int} {b c : Bool} {D : Ends} {tz t1 t2 : TS}
theorem Own.pick {n d : Nat} {x : Cell} (w : Own K B M L H) (hc : L[n]? = some x) (h : n < d) : Own K B M (x :: L.drop d) H := by
  have hx : x ∈ L.take d := by
    refine List.mem_of_getElem? (i := n) ?_
    rw [List.getElem?_take, if_pos h]; exact hc
  have sub : (x :: L.drop d).Sublist L := by
    have := (List.singleton_sublist.mpr hx).append (List.Sublist.refl (L.drop d))
    rwa [List.take_append_drop] at this
  exact w.perm (fun y hy => sub.subset hy) (w.nd.sublist (sub.map _))
theorem back_new {L2 : List Cell} {B1 B3 H1 H3 : Hp} {x : Cell} (w : Own K B1 M L2 H1) (e : Ex B1 B3) (w3 : Own K B3 (absorb M L2 H1) [x] H3) : Own K B3 M (x :: L2) H3 := by
  have hx := w3.l x (List.mem_singleton.mpr rfl)
  refine w.back (L := L2) (L1' := [x]) (L2 := L2) (fun _ h => h) w.nd e w3 fun y hy => ?_
  rw [List.mem_singleton.mp hy]
  intro hm
  obtain ⟨z, hz, ez⟩ := List.mem_map.mp hm
  have h1 := hx.2.2
  obtain ⟨⟨o, g1, _⟩, _⟩ := w.l z hz
  have e2 : absorb M L2 H1 z.p = H1 z.p := absorb_in hz
  rw [ez] at e2
  rw [e2] at h1
  rw [← ez, g1] at h1
  cases h1
theorem el_call {C : List Arg → List Cell → List α → List Cell → Prop} {E : XK} {as : List Arg} {xs : List α} (ha : EA K M tA σ B L as L1) (h : C as [] xs []) : EVL K M (tCall (spN K M.T r C) [] E tA) σ B L r xs L1 := fun B1 H e w Q q =>
  ha B1 H e w _ fun vs B2 H2 e2 w2 hv => by
    show spN K M.T r C (vs ++ []) H2 Q E
    rw [List.append_nil]
    refine ⟨B2, absorb M L1 H2, [], as, xs, [], rfl, w2.lend (L1 := []) (L2 := L1) (fun _ h => absurd h (by simp)) (fun _ h => h) (by simp) (fun _ h => absurd h (by simp)), hv, h, fun p B' H' e3 w3 => ?_⟩
    exact q p B' H' (e2.trans e3) (back_new w2 e3 w3)
theorem el_callF {C : List Arg → List Cell → List α → List Cell → Prop} {E : XK} {as as' : List Arg} {xs : List α} (ha : EA K M tA σ B L as L1) (hf : AF K M L1 as as') (hn : NTs L1) (hr : TO r) (h : C as' [] xs []) : EVL K M (tCall (spN K M.T r C) [] E tA) σ B L r xs L1 := fun B1 H e w Q q =>
  ha B1 H e w _ fun vs B2 H2 e2 w2 hv => by
    show spN K M.T r C (vs ++ []) H2 Q E
    rw [List.append_nil]
    refine ⟨frz B2 L1 H2, M, [], as', xs, [], rfl, w2.frzAll, hf B2 H2 vs w2 hv, h, fun p B' H' e3 w3 => ?_⟩
    have hx := w3.l _ (List.mem_singleton.mpr rfl)
    obtain ⟨e4, w4⟩ := w2.unfrz e3 w3.tail
    have nt : ∀ q ∈ L1.map (·.p), ∃ o, B' q = some o ∧ nTup o := fun q hq => by
      obtain ⟨x, hx, rfl⟩ := List.mem_map.mp hq
      obtain ⟨⟨o, h1, h2⟩, _⟩ := w2.l x hx
      refine ⟨o, e3 _ _ ?_, (hn x hx).nt h2⟩
      unfold frz
      rw [if_pos hq, h1]
    obtain ⟨⟨o, g1, ys, g2, g3⟩, gB, gM⟩ := hx
    have pn : p ∉ L1.map (·.p) := fun hp => by
      obtain ⟨o, e5, _⟩ := nt p hp
      have gB : B' p = none := gB
      rw [e5] at gB
      cases gB
    refine q p _ H' (e2.trans e4) ⟨w4.b, w4.m, w4.bm, fun x hx => ?_, ?_, fun P hP => ?_⟩
    · rcases List.mem_cons.mp hx with rfl | hx
      · refine ⟨⟨o, g1, ys, g2, paired_imp (fun v a => hr.to nt) g3⟩, ?_, gM⟩
        show era B' _ p = none
        unfold era
        rw [if_neg pn]
        exact gB
      · exact w4.l x hx
    · rw [List.map_cons, List.nodup_cons]
      exact ⟨pn, w4.nd⟩
    · obtain ⟨t1, t2, t3, t4⟩ := w4.t P hP
      obtain ⟨_, _, _, t5⟩ := w3.t P hP
      refine ⟨t1, t2, t3, fun z => ?_⟩
      rcases List.mem_cons.mp z with e | z
      · exact t5 (by rw [e]; simp)
      · exact t4 z
theorem q_retCN {n m : Nat} {p : Addr} {as : List α} (w : Own K B M L H) (hs : σ[m]? = some (some (.ref p))) (hc : L[n]? = some ⟨p, cLst r, as⟩) (q : D.rt (.ref p) H) : tSeq (tRet (tVar m)) tz D σ H := ⟨_, hs, q⟩
theorem q_retL {as : List α} (w : Own K B M L H) (h : EVL K M te σ B L r as L') (q : ∀ p B' H', Ex B B' → Own K B' M (⟨p, cLst r, as⟩ :: L') H' → D.rt (.ref p) H') : tSeq (tRet te) tz D σ H := h B H (Ex.refl _) w _ q
end
/-! ### lists: + -/
section
variable {K : Fg} {M : Fr} {σ : St} {B B' H H' : Hp} {L L1 L2 L' : List Cell} {α β γ δ : Type} {r : Rep α} {s : Rep β} {t : Rep γ} {ta tb tc te : TE} {tt tu : TT} {tA : TA} {i j k : Int} {b c : Bool} {D : Ends} {tz t1 t2 : TS}
theorem el_cat {xs ys zs : List α} (h : EV K M ta σ B L (rLst r) xs L1) (h' : EV K M tb σ B L1 (rLst r) ys L2) (hc : catT xs ys = some zs) : EVL K M (tOp rCat ta tb) σ B L r zs L2 := fun B1 H e w Q q =>
  h B1 H e w _ fun v B2 H2 e2 w2 hv => h' B2 H2 (e.trans e2) w2 _ fun u B3 H3 e3 w3 hu => by
    obtain ⟨p, vs, rfl, hs, hp⟩ := hv
    obtain ⟨p', us, rfl, hs', hp'⟩ := hu
    unfold catT at hc
    split at hc
    · rename_i hl
      obtain rfl := Option.some.inj hc
      have hp3 := paired_mono e3 hp
      have l1 := paired_len hp
      have l2 := paired_len hp'
      exact ⟨p, p', vs, us, rfl, rfl, w3.b _ _ (e3 _ _ hs), w3.b _ _ hs', Nat.le_trans (by omega) (show 1000000 ≤ sizeLine by decide), fun l hl => q l B3 _ (e2.trans e3) (w3.new hl ⟨_, rfl, paired_app hp3 hp'⟩)⟩
    · cases hc
end
/-! ### while: it ends -/
section
variable {S R : Type}
theorem y_while (f : S → Option (Stp S R)) (I : S → Prop) (μ : S → Nat) (E : S ⊕ R → Prop) {s : S} (h0 : I s)
    (hs : ∀ s, I s → Yes (f s) fun t => match t with | .nx s' => I s' ∧ μ s' < μ s | .bk s' => E (.inl s') | .rt r => E (.inr r)) : Yes (whileR f s) E := by
  have key : ∀ (n : Nat) (s : S), μ s < n → I s → ∃ o, iterM f n s = some o ∧ E o := by
    intro n
    induction n with
    | zero => intro s h; omega
    | succ n ih =>
      intro s h hI
      obtain ⟨t, h1, h2⟩ := hs s hI
      unfold iterM
      rw [h1]
      cases t with
      | nx s' => exact ih s' (by have := h2.2; omega) h2.1
      | bk s' => exact ⟨_, rfl, h2⟩
      | rt r => exact ⟨_, rfl, h2⟩
  obtain ⟨o, h1, h2⟩ := key _ s (Nat.lt_succ_self _) h0
  exact ⟨o, whileR_of h1, h2⟩
theorem y_whileB (f : S → Option (Stp S Empty)) (I : S → Prop) (μ : S → Nat) (E : S → Prop) {s : S} (h0 : I s)
    (hs : ∀ s, I s → Yes (f s) fun t => match t with | .nx s' => I s' ∧ μ s' < μ s | .bk s' => E s' | .rt r => False) : Yes (whileB f s) E := by
  obtain ⟨o, h1, h2⟩ := y_while f I μ (fun o => match o with | .inl s => E s | .inr r => False) h0 fun s hI => (hs s hI).mono fun t ht => by cases t <;> exact ht
  unfold whileB
  rw [h1]
  cases o with
  | inl s => exact ⟨s, rfl, h2⟩
  | inr r => exact h2.elim
end
end L3

namespace L3
open PySem L2
open Evl (Ex ex_rd ex_l ex_t sq_of st_of fresh_back)
/-! ### sorted ints -/
def sortL (xs : List Int) : List Int := xs.mergeSort fun a b => decide (a ≤ b)
theorem sortL_perm (xs : List Int) : (sortL xs).Perm xs := List.mergeSort_perm xs _
theorem sortL_le (xs : List Int) : (sortL xs).Pairwise (· ≤ ·) := by
  refine (List.pairwise_mergeSort (le := fun a b : Int => decide (a ≤ b)) (fun a b c h1 h2 => ?_) (fun a b => ?_) xs).imp fun {a b} h => of_decide_eq_true h
  · simp at *; omega
  · simp; omega
theorem sortL_eq {ys xs : List Int} (hp : ys.Perm xs) (hs : ys.Pairwise (· ≤ ·)) : ys = sortL xs :=
  List.Perm.eq_of_pairwise (le := fun a b : Int => a ≤ b) (fun a b _ _ h1 h2 => Int.le_antisymm h1 h2) hs (sortL_le xs) (hp.trans (sortL_perm xs).symm)
theorem paired_intsY {K : Fg} {B : Hp} : ∀ ns : List Int, Paired (rInt.is K B) (ns.map V.int) ns
  | [] => .nil
  | _ :: l => .cons rfl (paired_intsY l)
section
variable {K : Fg} {M : Fr} {σ : St} {B B' H H' : Hp} {L L1 L2 L' : List Cell} {α β γ δ : Type} {r : Rep α} {s : Rep β} {t : Rep γ} {ta tb tc te : TE} {tt tu : TT} {tA : TA} {i j k : Int} {b c : Bool} {D : Ends} {tz t1 t2 : TS}
theorem el_sorted {xs : List Int} (h : EV K M te σ B L (rScr rInt) xs L') : EVL K M (tCB (rSortedI K) (tCons te tNil)) σ B L rInt (sortL xs) L' := fun B1 H e w Q q =>
  h B1 H e w _ fun v B2 H2 e2 w2 hv => by
    obtain ⟨p, vs, rfl, hs, hp⟩ := hv
    have ev := ints_of hp
    subst ev
    refine ⟨p, xs, rfl, ex_l w2.b hs, fun ns l hp2 hs2 hl => ?_⟩
    rw [sortL_eq hp2 hs2]
    exact q l B2 _ e2 (w2.new hl ⟨_, rfl, paired_intsY _⟩)
/-! ### a, b, .. = a list -/
def un2 : List α → Option (α × α)
  | [a, b] => some (a, b)
  | _ => none
def un3 : List α → Option (α × α × α)
  | [a, b, c] => some (a, b, c)
  | _ => none
def un4 : List α → Option (α × α × α × α)
  | [a, b, c, d] => some (a, b, c, d)
  | _ => none
variable {Qs : St → Hp → Prop}
theorem g_U2 {as : List α} {a : α × α} {v : V} {gs : TGs} (h : (rLst r).is K B v as) (w : Own K B M L H) (e : un2 as = some a) (q : ∀ x y, r.is K B x a.1 → r.is K B y a.2 → gs [x, y] σ H Qs) : gUnl K 2 gs v σ H Qs := by
  obtain ⟨p, vs, rfl, hs, hp⟩ := h
  match as, e, vs, hp, hs with
  | [a, b], e, [x, y], .cons h1 (.cons h2 .nil), hs =>
    cases e
    exact ⟨p, _, rfl, sq_of (w.b _ _ hs), rfl, q x y h1 h2⟩
theorem g_U3 {as : List α} {a : α × α × α} {v : V} {gs : TGs} (h : (rLst r).is K B v as) (w : Own K B M L H) (e : un3 as = some a) (q : ∀ x y z, r.is K B x a.1 → r.is K B y a.2.1 → r.is K B z a.2.2 → gs [x, y, z] σ H Qs) : gUnl K 3 gs v σ H Qs := by
  obtain ⟨p, vs, rfl, hs, hp⟩ := h
  match as, e, vs, hp, hs with
  | [a, b, c], e, [x, y, z], .cons h1 (.cons h2 (.cons h3 .nil)), hs =>
    cases e
    exact ⟨p, _, rfl, sq_of (w.b _ _ hs), rfl, q x y z h1 h2 h3⟩
theorem g_U4 {as : List α} {a : α × α × α × α} {v : V} {gs : TGs} (h : (rLst r).is K B v as) (w : Own K B M L H) (e : un4 as = some a) (q : ∀ x y z u, r.is K B x a.1 → r.is K B y a.2.1 → r.is K B z a.2.2.1 → r.is K B u a.2.2.2 → gs [x, y, z, u] σ H Qs) : gUnl K 4 gs v σ H Qs := by
  obtain ⟨p, vs, rfl, hs, hp⟩ := h
  match as, e, vs, hp, hs with
  | [a, b, c, d], e, [x, y, z, u], .cons h1 (.cons h2 (.cons h3 (.cons h4 .nil))), hs =>
    cases e
    exact ⟨p, _, rfl, sq_of (w.b _ _ hs), rfl, q x y z u h1 h2 h3 h4⟩
end
end L3

namespace L3G
open PySem L2
variable {X : Cx}
/-! ### is True, is False -/
def rIsB : R2 := fun x y H Q => ∃ a b, x = .bl a ∧ y = .bl b ∧ Q (.bl (decide (a = b))) H
def rNotB : R2 := fun x y H Q => ∃ a b, x = .bl a ∧ y = .bl b ∧ Q (.bl (!decide (a = b))) H
theorem op_isB : OpR X (compareOp .Is) rIsB := by
  intro pins s σ H x y v u Q I rx ry h
  obtain ⟨a, b, rfl, rfl, q⟩ := h
  cases (show v = Value.bool a from rx)
  cases (show u = Value.bool b from ry)
  exact wpAny_is_plain rfl (fin_bl I q (by cases a <;> cases b <;> rfl))
theorem op_isnB : OpR X (compareOp .IsNot) rNotB := by
  intro pins s σ H x y v u Q I rx ry h
  obtain ⟨a, b, rfl, rfl, q⟩ := h
  cases (show v = Value.bool a from rx)
  cases (show u = Value.bool b from ry)
  exact wpAny_isNot_plain rfl (fin_bl I q (by cases a <;> cases b <;> rfl))
end L3G
namespace L3
open PySem L2
open Evl (Ex ex_rd ex_l ex_t sq_of st_of fresh_back)
/-! ### any new thing that may change -/
def ENC (K : Fg) (M : Fr) {α : Type} (te : TE) (σ : St) (B : Hp) (L : List Cell) (c : CRep α) (a : α) (L' : List Cell) : Prop :=
  ∀ B1 H, Ex B B1 → Own K B1 M L H → ∀ Q : VK, (∀ p B2 H2, Ex B1 B2 → Own K B2 M (⟨p, c, a⟩ :: L') H2 → Q (.ref p) H2) → te σ H Q
def spC (K : Fg) (T : List Addr) {α : Type} (c : CRep α) (C : List Arg → List Cell → α → List Cell → Prop) : Sp := fun vs H Q _ => ∃ B M L as x L', M.T = T ∧ Own K B M L H ∧ ArgsIs K B vs as ∧ C as L x L' ∧
  ∀ p B' H', Ex B B' → Own K B' M (⟨p, c, x⟩ :: L') H' → Q (.ref p) H'
/-- a dict of a list and an int -/
def cBox : CRep (List Int × Int) := ⟨fun K B o a => ∃ q, o = .dK [(Sum.inr "row", .ref q), (Sum.inr "at", .int a.2)] ∧ (rLst rInt).is K B (.ref q) a.1, fun e ⟨q, h1, h2⟩ => ⟨q, h1, (rLst rInt).mono e h2⟩⟩
section
variable {K : Fg} {M : Fr} {σ : St} {B B' H H' : Hp} {L L1 L2 L' : List Cell} {α β γ δ : Type} {r : Rep α} {s : Rep β} {t : Rep γ} {ta tb tc te : TE} {tt tu : TT} {tA : TA} {i j k : Int} {b c : Bool} {D : Ends} {tz t1 t2 : TS}
theorem nt_box : NT cBox := ⟨fun ⟨q, h, _⟩ => by subst h; trivial⟩
theorem ec_call {cr : CRep α} {C : List Arg → List Cell → α → List Cell → Prop} {E : XK} {as : List Arg} {x : α} (ha : EA K M tA σ B L as L1) (h : C as [] x []) : ENC K M (tCall (spC K M.T cr C) [] E tA) σ B L cr x L1 := fun B1 H e w Q q =>
  ha B1 H e w _ fun vs B2 H2 e2 w2 hv => by
    show spC K M.T cr C (vs ++ []) H2 Q E
    rw [List.append_nil]
    refine ⟨B2, absorb M L1 H2, [], as, x, [], rfl, w2.lend (L1 := []) (L2 := L1) (fun _ h => absurd h (by simp)) (fun _ h => h) (by simp) (fun _ h => absurd h (by simp)), hv, h, fun p B' H' e3 w3 => ?_⟩
    exact q p B' H' (e2.trans e3) (back_new w2 e3 w3)
theorem q_asgC {n : Nat} {cr : CRep α} {a : α} (w : Own K B M L H) (h : ENC K M te σ B L cr a L') (q : ∀ p B' H', Ex B B' → Own K B' M (⟨p, cr, a⟩ :: L') H' → tz D (σ.set n (some (.ref p))) H') : tSeq (tAsg te (gName n)) tz D σ H := h B H (Ex.refl _) w _ q
theorem q_retNC {cr : CRep α} {a : α} (w : Own K B M L H) (h : ENC K M te σ B L cr a L') (q : ∀ p B' H', Ex B B' → Own K B' M (⟨p, cr, a⟩ :: L') H' → D.rt (.ref p) H') : tSeq (tRet te) tz D σ H := h B H (Ex.refl _) w _ q
theorem ec_box {tx ty : TE} {xs : List Int} (hx : ∀ p, EV K M tx σ B (⟨p, cDk, []⟩ :: L) (rLst rInt) xs (⟨p, cDk, []⟩ :: L1)) (hy : ∀ p, EV K M ty σ B (⟨p, cDk, []⟩ :: L1) rInt i (⟨p, cDk, []⟩ :: L')) : ENC K M (tDisp [(tC (.str "row"), tx), (tC (.str "at"), ty)]) σ B L cBox (xs, i) L' := fun B1 H e w Q q p hp => by
  have w1 : Own K B1 M (⟨p, cDk, []⟩ :: L) (upd H p (.dK [])) := w.new hp rfl
  refine hx p B1 _ e w1 _ fun u B2 H2 e2 w2 hu => hy p B2 H2 (e.trans e2) w2 _ fun v B3 H3 e3 w3 hv => ?_
  have hv : v = .int i := hv
  obtain ⟨l, vs, rfl, hl⟩ := (rLst rInt).mono e3 hu
  obtain ⟨⟨o, h1, h2⟩, _⟩ := w3.at (i := 0) rfl
  have h1 : H3 p = some o := h1
  have h2 : o = .dK [] := h2
  refine ⟨by rw [h1, h2], [(Sum.inr "row", .ref l), (Sum.inr "at", v)], rfl, by show 2 ≤ 15; decide, ?_⟩
  refine q p B3 _ (e2.trans e3) ?_
  have := w3.set (i := 0) (o := .dK (mergeK [] [(Sum.inr "row", V.ref l), (Sum.inr "at", v)])) rfl (c' := cBox) (a' := (xs, i)) ⟨l, by rw [hv]; rfl, l, vs, rfl, hl⟩
  exact this
theorem ev_boxAt {n m : Nat} {p : Addr} {x : List Int × Int} (hs : σ[m]? = some (some (.ref p))) (hc : L[n]? = some ⟨p, cBox, x⟩) : EV K M (tDGet (tVar m) (tC (.str "at"))) σ B L rInt x.2 L := fun B1 H e w Q q => by
  obtain ⟨⟨o, h1, l, h2, h3⟩, _⟩ := w.at hc
  have h1 : H p = some o := h1
  subst h2
  exact ⟨_, hs, p, .int x.2, rfl, DGet.k (k := Sum.inr "at") h1, q _ B1 H (Ex.refl _) w rfl⟩
theorem ev_boxRow {n m : Nat} {p : Addr} {x : List Int × Int} (hs : σ[m]? = some (some (.ref p))) (hc : L[n]? = some ⟨p, cBox, x⟩) : EV K M (tDGet (tVar m) (tC (.str "row"))) σ B L (rLst rInt) x.1 L := fun B1 H e w Q q => by
  obtain ⟨⟨o, h1, l, h2, h3⟩, _⟩ := w.at hc
  have h1 : H p = some o := h1
  subst h2
  exact ⟨_, hs, p, .ref l, rfl, DGet.k (k := Sum.inr "row") h1, q _ B1 H (Ex.refl _) w h3⟩
theorem q_boxAt {n m : Nat} {p : Addr} {x : List Int × Int} (w : Own K B M L H) (h : EV K M te σ B L rInt i L1) (hs : σ[m]? = some (some (.ref p))) (hc : L1[n]? = some ⟨p, cBox, x⟩)
    (q : ∀ B' H', Ex B B' → Own K B' M (L1.set n ⟨p, cBox, (x.1, i)⟩) H' → tz D σ H') : tSeq (tAsg te (gSub (tVar m) (tC (.str "at")) rSetD)) tz D σ H :=
  h B H (Ex.refl _) w _ fun v B1 H1 e1 w1 hv => ⟨_, hs, by
    obtain ⟨⟨o, h1, l, h2, h3⟩, _⟩ := w1.at hc
    have h1 : H1 p = some o := h1
    have hv : v = .int i := hv
    subst h2 hv
    refine ⟨p, _, rfl, DPut.k (k := Sum.inr "at") h1 (by show 2 < sizeLine; decide), q B1 _ e1 ?_⟩
    exact w1.set (c' := cBox) (a' := (x.1, i)) hc ⟨l, rfl, h3⟩⟩
/-! ### is True; texts in a tuple -/
theorem ev_isB {x y : Bool} (ha : EV K M ta σ B L rBool x L1) (hb : EV K M tb σ B L1 rBool y L2) : EV K M (tOp L3G.rIsB ta tb) σ B L rBool (decide (x = y)) L2 :=
  ev_op ha hb fun _ _ _ _ _ _ hx hy q => ⟨x, y, hx, hy, q _ rfl⟩
theorem ev_isnB {x y : Bool} (ha : EV K M ta σ B L rBool x L1) (hb : EV K M tb σ B L1 rBool y L2) : EV K M (tOp L3G.rNotB ta tb) σ B L rBool (!decide (x = y)) L2 :=
  ev_op ha hb fun _ _ _ _ _ _ hx hy q => ⟨x, y, hx, hy, q _ rfl⟩
theorem strs_of : ∀ {vs : List V} {xs : List Str}, Paired (rStr.is K B) vs xs → vs = xs.map V.str
  | _, _, .nil => rfl
  | _, _, .cons h t => by
    have h : _ = V.str _ := h
    rw [h, strs_of t]; rfl
theorem flat_strs : ∀ xs : List Str, (xs.map V.str).all flatV = true
  | [] => rfl
  | x :: xs => by rw [List.map_cons, List.all_cons, flat_strs xs]; rfl
theorem inV_strs (k : Str) : ∀ xs : List Str, inV (.str k) (xs.map V.str) = decide (k ∈ xs)
  | [] => rfl
  | x :: xs => by
    have ih := inV_strs k xs
    unfold inV at ih ⊢
    rw [List.map_cons, List.any_cons, ih]
    have e : eqV (.str x) (.str k) = decide (x = k) := by
      show (x == k) = _
      rw [Bool.eq_iff_iff, beq_iff_eq, decide_eq_true_iff]
    rw [e]
    clear ih e
    by_cases h : x = k
    · subst h
      rw [decide_eq_true rfl, Bool.true_or, decide_eq_true (List.mem_cons_self)]
    · rw [decide_eq_false h, Bool.false_or]
      by_cases h2 : k ∈ xs
      · rw [decide_eq_true h2, decide_eq_true (List.mem_cons_of_mem _ h2)]
      · rw [decide_eq_false h2, decide_eq_false fun z => (List.mem_cons.mp z).elim (fun q => h q.symm) h2]
theorem sq_strs {v : V} {xs : List Str} (e : Ex B H) (h : (rSeq rStr).is K B v xs) : ∃ p, v = .ref p ∧ (SqL K H p (xs.map V.str) ∨ SqT K H p (xs.map V.str)) := by
  obtain ⟨p, vs, h1, h2, h3⟩ := h
  have ev := strs_of h3
  subst ev
  exact ⟨p, h1, h2.imp (ex_l e) (ex_t e)⟩
theorem ev_inS {z : Str} {xs : List Str} (h : EV K M ta σ B L rStr z L1) (h' : EV K M tb σ B L1 (rSeq rStr) xs L2) : EV K M (tOp (rIn K false) ta tb) σ B L rBool (decide (z ∈ xs)) L2 := fun B1 H e w Q q =>
  h B1 H e w _ fun v B2 H2 e2 w2 hv => h' B2 H2 (e.trans e2) w2 _ fun u B3 H3 e3 w3 hu => by
    have hv : v = .str z := hv
    subst hv
    obtain ⟨p, rfl, hs⟩ := sq_strs w3.b hu
    refine ⟨p, _, rfl, hs, rfl, flat_strs xs, ?_⟩
    rw [inV_strs]
    exact q _ B3 H3 (e2.trans e3) w3 rfl
theorem ev_niS {z : Str} {xs : List Str} (h : EV K M ta σ B L rStr z L1) (h' : EV K M tb σ B L1 (rSeq rStr) xs L2) : EV K M (tOp (rIn K true) ta tb) σ B L rBool (!decide (z ∈ xs)) L2 := fun B1 H e w Q q =>
  h B1 H e w _ fun v B2 H2 e2 w2 hv => h' B2 H2 (e.trans e2) w2 _ fun u B3 H3 e3 w3 hu => by
    have hv : v = .str z := hv
    subst hv
    obtain ⟨p, rfl, hs⟩ := sq_strs w3.b hu
    refine ⟨p, _, rfl, hs, rfl, flat_strs xs, ?_⟩
    rw [inV_strs]
    exact q _ B3 H3 (e2.trans e3) w3 rfl
/-! ### data that is known to be of a kind -/
def asS : PyData → Option Str
  | .str x => some x
  | _ => none
def asI : PyData → Option Int
  | .int i => some i
  | _ => none
def asB : PyData → Option Bool
  | .bool b => some b
  | _ => none
def asT : PyData → Option (List PyData)
  | .tuple ds => some ds
  | _ => none
def asIs : List PyData → Option (List Int)
  | [] => some []
  | .int i :: ds => (asIs ds).map (i :: ·)
  | _ :: _ => none
def asQ : PyData → Option (Int × Int)
  | .tuple [.int i, .int j] => some (i, j)
  | _ => none
variable {d : PyData}
theorem ev_asS {z : Str} (h : EV K M te σ B L rDat d L') (e : asS d = some z) : EV K M te σ B L rStr z L' := ev_as h fun _ _ h => by
  have h : Dp _ _ _ d := h
  cases h <;> cases e
  rfl
theorem ev_asI (h : EV K M te σ B L rDat d L') (e : asI d = some i) : EV K M te σ B L rInt i L' := ev_as h fun _ _ h => by
  have h : Dp _ _ _ d := h
  cases h <;> cases e
  rfl
theorem ev_asB (h : EV K M te σ B L rDat d L') (e : asB d = some b) : EV K M te σ B L rBool b L' := ev_as h fun _ _ h => by
  have h : Dp _ _ _ d := h
  cases h <;> cases e
  rfl
theorem ev_asT {ds : List PyData} (h : EV K M te σ B L rDat d L') (e : asT d = some ds) : EV K M te σ B L (rTup rDat) ds L' := ev_as h fun _ _ h => by
  have h : Dp _ _ _ d := h
  cases h with
  | tup hs hd => cases e; exact ⟨_, _, rfl, hs, dpAll_paired hd⟩
  | _ => cases e
theorem asIs_paired : ∀ {vs : List V} {ds : List PyData} {is : List Int}, Paired (rDat.is K B) vs ds → asIs ds = some is → Paired (rInt.is K B) vs is
  | _, _, _, .nil, e => by cases e; exact .nil
  | v :: vs, d :: ds, is, .cons h t, e => by
    have h : Dp K B v d := h
    cases d <;> try (cases e)
    rename_i i
    unfold asIs at e
    cases hi : asIs ds with
    | none => rw [hi] at e; cases e
    | some js =>
      rw [hi] at e
      cases e
      cases h
      exact .cons rfl (asIs_paired t hi)
theorem ev_asIs {ds : List PyData} {is : List Int} (h : EV K M te σ B L (rTup rDat) ds L') (e : asIs ds = some is) : EV K M te σ B L (rTup rInt) is L' := ev_as h fun _ _ ⟨p, vs, h1, h2, h3⟩ => ⟨p, vs, h1, h2, asIs_paired h3 e⟩
theorem dpQ {v : V} {q : Int × Int} (h : Dp K B v d) (e : asQ d = some q) : (rT2 rInt rInt).is K B v q := by
  unfold asQ at e
  split at e
  · cases e
    cases h with
    | tup hs hd =>
      cases hd with
      | cons h1 h2 =>
        cases h2 with
        | cons h2 h3 =>
          cases h3
          cases h1
          cases h2
          exact ⟨_, _, _, rfl, hs, rfl, rfl⟩
  · cases e
theorem ev_asQ {q : Int × Int} (h : EV K M te σ B L rDat d L') (e : asQ d = some q) : EV K M te σ B L (rT2 rInt rInt) q L' := ev_as h fun _ _ h => dpQ h e
/-- len of a pair -/
theorem ev_lenT2 {a : α × β} (ha : EV K M ta σ B L (rT2 r s) a L1) : EV K M (tCB (rLen K) (tCons ta tNil)) σ B L rInt 2 L1 :=
  ev_cb1 ha fun B1 H1 x Q w hx q => by
    obtain ⟨p, u, v, rfl, hs, h1, h2⟩ := hx
    exact ⟨p, _, rfl, .inr (ex_t w.b hs), q _ rfl⟩
end
/-! ### a list of two kinds -/
def rL2 {α β : Type} (r : Rep α) (s : Rep β) : Rep (α × β) := ⟨fun K B v a => ∃ p x y, v = .ref p ∧ B p = some (.lst [x, y]) ∧ r.is K B x a.1 ∧ s.is K B y a.2,
  fun e ⟨p, x, y, h1, h2, h3, h4⟩ => ⟨p, x, y, h1, e _ _ h2, r.mono e h3, s.mono e h4⟩⟩
def dL2 {α β : Type} (f : α → PyData) (g : β → PyData) (a : α × β) : PyData := .list [f a.1, g a.2]
section
variable {K : Fg} {M : Fr} {σ : St} {B B' H H' : Hp} {L L1 L2 L' : List Cell} {α β γ δ : Type} {r : Rep α} {s : Rep β} {t : Rep γ} {ta tb tc te : TE} {tA : TA} {f : α → PyData} {g : β → PyData} {n m : Nat}
theorem ev_L2 {a : α} {b : β} (h : EA K M tA σ B L [⟨r, a⟩, ⟨s, b⟩] L') : EV K M (tLst tA) σ B L (rL2 r s) (a, b) L' := fun B1 H e w Q q =>
  h B1 H e w _ fun vs B2 H2 e2 w2 hv => by
    match vs, hv with
    | [x0, x1], ⟨h1, h2, _⟩ =>
      refine ⟨by show 2 ≤ sizeLine; decide, fun p hp => ?_⟩
      have eN := Ex.new (o := HO.lst [x0, x1]) (fresh_back w2.b hp)
      exact q _ (upd B2 p _) _ (e2.trans eN) (w2.ext hp) ⟨p, _, _, rfl, upd_same, r.mono eN h1, s.mono eN h2⟩
theorem ev_L2fst {a : α × β} (ha : EV K M ta σ B L (rL2 r s) a L1) : EV K M (tOp (rIx K) ta (tC (.int 0))) σ B L r a.1 L1 := fun B1 H e w Q q =>
  ha B1 H e w _ fun x B2 H2 e2 w2 hx => by
    obtain ⟨p, x0, x1, rfl, hs, h0, h1⟩ := hx
    exact .inl ⟨p, _, 0, x0, rfl, rfl, sq_of (w2.b _ _ hs), rfl, q _ B2 H2 e2 w2 h0⟩
theorem ev_L2snd {a : α × β} (ha : EV K M ta σ B L (rL2 r s) a L1) : EV K M (tOp (rIx K) ta (tC (.int 1))) σ B L s a.2 L1 := fun B1 H e w Q q =>
  ha B1 H e w _ fun x B2 H2 e2 w2 hx => by
    obtain ⟨p, x0, x1, rfl, hs, h0, h1⟩ := hx
    exact .inl ⟨p, _, 1, x1, rfl, rfl, sq_of (w2.b _ _ hs), rfl, q _ B2 H2 e2 w2 h1⟩
theorem dr_L2 (d : DR r f n) (e : DR s g m) : DR (rL2 r s) (dL2 f g) (max n m + 1) := ⟨fun K B v a ⟨p, x, y, h1, h2, h3, h4⟩ => by subst h1; exact .lst (sq_of h2) (.cons (d.dp _ _ _ _ h3) (.cons (e.dp _ _ _ _ h4) .nil)),
  fun a => by simp [dL2, PyData.canLay0, PyData.canLayAll0, d.lay, e.lay], fun a => by have := d.dep a.1; have := e.dep a.2; simp only [dL2, PyData.depth, PyData.depthAll]; omega,
  fun a b => by simp only [dL2, PyData.eqv, PyData.eqvAll, Bool.and_true, Bool.and_eq_true, d.eqv, e.eqv]; exact ⟨fun ⟨x, y⟩ => Prod.ext x y, fun e => by rw [e]; exact ⟨rfl, rfl⟩⟩,
  fun a b q => by unfold dL2 at q; injection q with q; injection q with q1 q2; injection q2 with q2 _; exact Prod.ext (d.inj _ _ q1) (e.inj _ _ q2)⟩
theorem dq_L2 (d : DQ r f) (e : DQ s g) : DQ (rL2 r s) (dL2 f g) := fun K B v a ⟨p, x, y, h1, h2, h3, h4⟩ => by subst h1; exact .lst (sq_of h2) (.cons (d _ _ _ _ h3) (.cons (e _ _ _ _ h4) .nil))
end
/-! ### a global dict of texts -/
def lookI : List (Str × Int) → Str → Option Int
  | [], _ => none
  | q :: l, z => if q.1 = z then some q.2 else lookI l z
def entB : List DictEntry → List (Str × Int) → Bool
  | [], [] => true
  | e :: es, q :: qs => (match e.key, e.val with
    | .str k _, .int i _ => decide (k = q.1) && decide (i = q.2)
    | _, _ => false) && entB es qs
  | _, _ => false
def tabG (K : Fg) (x : Str) (l : List (Str × Int)) : Bool := match PySem.W.nsIn K mainGlobals x with
  | some (some (.ref a)) => decide (a = He.ga K x) && (match K.lookup a with
    | some ⟨_, _, .dict es _, _⟩ => entB es.toList l
    | _ => false)
  | _ => false
structure GD (K : Fg) (w : World) (mg : Str → Option Value) (x : Str) (l : List (Str × Int)) : Prop where
  ex : ∃ a es n, mg x = some (.ref a) ∧ KDict K w a es n ∧ (∀ z, lookI l z = none → PySem.W.nsIn K a z = some none) ∧ ∀ z i, lookI l z = some i → ∃ t, PySem.W.nsIn K a z = some (some (.int i t))
theorem ent_find : ∀ {es : List DictEntry} {l : List (Str × Int)} (z : Str), entB es l = true → (lookI l z = none → es.find? (·.key.isStr z) = none ∧ es.any (·.refKey) = false) ∧ ∀ i, lookI l z = some i → ∃ e t, es.find? (·.key.isStr z) = some e ∧ e.val = .int i t
  | [], [], z, _ => ⟨fun _ => ⟨rfl, rfl⟩, fun i h => by cases h⟩
  | e :: es, q :: l, z, h => by
    unfold entB at h
    rw [Bool.and_eq_true] at h
    obtain ⟨h1, h2⟩ := h
    have ih := ent_find z h2
    obtain ⟨hh, ek, ev⟩ := e
    cases ek <;> try (cases h1)
    cases ev <;> try (cases h1)
    rename_i k tk i ti
    have h1 : (decide (k = q.1) && decide (i = q.2)) = true := h1
    rw [Bool.and_eq_true, decide_eq_true_iff, decide_eq_true_iff] at h1
    obtain ⟨rfl, rfl⟩ := h1
    unfold lookI
    have is : (Value.str q.1 tk).isStr z = decide (q.1 = z) := by
      rw [Bool.eq_iff_iff, decide_eq_true_iff]
      show (q.1 == z) = true ↔ _
      exact beq_iff_eq
    by_cases e : q.1 = z
    · rw [if_pos e]
      refine ⟨fun h => (by cases h), fun i h => ?_⟩
      cases h
      refine ⟨⟨hh, .str q.1 tk, .int q.2 ti⟩, ti, ?_, rfl⟩
      rw [List.find?_cons, is, decide_eq_true e]
    · rw [if_neg e]
      refine ⟨fun h => ?_, fun i h => ?_⟩
      · obtain ⟨a, b⟩ := ih.1 h
        refine ⟨?_, ?_⟩
        · rw [List.find?_cons, is, decide_eq_false e]; exact a
        · rw [List.any_cons, b]; rfl
      · obtain ⟨e', t, a, b⟩ := ih.2 i h
        refine ⟨e', t, ?_, b⟩
        rw [List.find?_cons, is, decide_eq_false e]; exact a
theorem tabG_ok {K : Fg} {w : World} {h : Heap} {mg : Str → Option Value} {x : Str} {l : List (Str × Int)} (X : K.In h) (G : h.Ns mainGlobals mg) (e : tabG K x l = true) (D : ∃ es n, KDict K w (He.ga K x) es n) : GD K w mg x l := by
  unfold tabG at e
  split at e
  · rename_i a ha
    rw [Bool.and_eq_true, decide_eq_true_iff] at e
    obtain ⟨ea, e⟩ := e
    obtain ⟨es, n, D⟩ := D
    rw [← ea] at D
    rw [D.at_] at e
    have e : entB es.toList l = true := e
    refine ⟨a, es, n, PySem.W.mg_of X G ha, D, fun z hz => ?_, fun z i hz => ?_⟩
    · obtain ⟨h1, h2⟩ := (ent_find z e).1 hz
      unfold PySem.W.nsIn
      rw [D.at_]
      show (match es.toList.find? (·.key.isStr z) with | some e => some (some e.val) | none => if es.toList.any (·.refKey) then none else some none) = _
      rw [h1, h2]; rfl
    · obtain ⟨e', t, h1, h2⟩ := (ent_find z e).2 i hz
      refine ⟨t, ?_⟩
      unfold PySem.W.nsIn
      rw [D.at_]
      show (match es.toList.find? (·.key.isStr z) with | some e => some (some e.val) | none => if es.toList.any (·.refKey) then none else some none) = _
      rw [h1, ← h2]
  · cases e
section
variable {K : Fg} {M : Fr} {σ : St} {B B' H H' : Hp} {L L1 L2 L' : List Cell} {α β γ δ : Type} {r : Rep α} {s : Rep β} {t : Rep γ} {ta tb tc te : TE} {tt tu : TT} {tA : TA} {i j k : Int} {b c : Bool} {D : Ends} {tz t1 t2 : TS}
abbrev rInG (K : Fg) (d : Addr) : R2 := fun x y H Q => ∃ (z : Str) (r : Option Value), x = .str z ∧ y = .ref d ∧ PySem.W.nsIn K d z = some r ∧ Q (.bl r.isSome) H
abbrev rNiG (K : Fg) (d : Addr) : R2 := fun x y H Q => ∃ (z : Str) (r : Option Value), x = .str z ∧ y = .ref d ∧ PySem.W.nsIn K d z = some r ∧ Q (.bl (!r.isSome)) H
theorem ev_inG {d : Addr} {z : Str} {l : List (Str × Int)} (h0 : ∀ z, lookI l z = none → PySem.W.nsIn K d z = some none) (h1 : ∀ z i, lookI l z = some i → ∃ t, PySem.W.nsIn K d z = some (some (.int i t))) (h : EV K M ta σ B L rStr z L1) (h' : EV K M tb σ B L1 rRef d L2) : EV K M (tOp (rInG K d) ta tb) σ B L rBool (lookI l z).isSome L2 :=
  ev_op h h' fun _ _ _ _ _ _ hx hy q => by
    cases e : lookI l z with
    | none => exact ⟨z, none, hx, hy, h0 z e, q _ (by rw [e]; rfl)⟩
    | some i =>
      obtain ⟨t, ht⟩ := h1 z i e
      exact ⟨z, _, hx, hy, ht, q _ (by rw [e]; rfl)⟩
theorem ev_niG {d : Addr} {z : Str} {l : List (Str × Int)} (h0 : ∀ z, lookI l z = none → PySem.W.nsIn K d z = some none) (h1 : ∀ z i, lookI l z = some i → ∃ t, PySem.W.nsIn K d z = some (some (.int i t))) (h : EV K M ta σ B L rStr z L1) (h' : EV K M tb σ B L1 rRef d L2) : EV K M (tOp (rNiG K d) ta tb) σ B L rBool (!(lookI l z).isSome) L2 :=
  ev_op h h' fun _ _ _ _ _ _ hx hy q => by
    cases e : lookI l z with
    | none => exact ⟨z, none, hx, hy, h0 z e, q _ (by rw [e]; rfl)⟩
    | some i =>
      obtain ⟨t, ht⟩ := h1 z i e
      exact ⟨z, _, hx, hy, ht, q _ (by rw [e]; rfl)⟩
theorem ev_ixG {w0 : World} {d : Addr} {es : Array DictEntry} {n : Nat} {z : Str} {l : List (Str × Int)} (D : KDict K w0 d es n) (h1 : ∀ z i, lookI l z = some i → ∃ t, PySem.W.nsIn K d z = some (some (.int i t))) (h : EV K M ta σ B L rRef d L1) (h' : EV K M tb σ B L1 rStr z L2) (e : lookI l z = some i) : EV K M (tOp (rIxD K w0) ta tb) σ B L rInt i L2 :=
  ev_op h h' fun _ _ _ _ _ _ hx hy q => by
    obtain ⟨t, ht⟩ := h1 z i e
    exact ⟨d, z, .int i, hx, hy, ⟨es, n, .int i t, D.at_, D.lit, ht, ⟨t, rfl⟩⟩, q _ rfl⟩
end
end L3

namespace L3
open PySem L2
open Evl (Ex ex_rd ex_l ex_t sq_of st_of fresh_back)
def top (i : Nat) : Stmt := PySem.Challenge.pw_bestodds_k10_linear_equations.main.body.getD i (.Pass ⟨0, 0, 0, 0⟩)
abbrev s_ratio : Stmt := top 3
abbrev s_minus : Stmt := top 4
abbrev s_times : Stmt := top 5
abbrev s_over : Stmt := top 6
abbrev s_pivot_of : Stmt := top 8
abbrev s_cleared : Stmt := top 9
abbrev s_solve : Stmt := top 10
abbrev s__law_tape : Stmt := top 12
abbrev s__law_draw : Stmt := top 13
abbrev s__law_take : Stmt := top 15
abbrev s__law_equal : Stmt := top 14
abbrev s__law_ratio : Stmt := top 16
abbrev s__law_plus : Stmt := top 17
abbrev s__law_times : Stmt := top 18
abbrev s__law_value : Stmt := top 20
abbrev s__law_determinant : Stmt := top 21
abbrev s__law_spoilt : Stmt := top 22
abbrev s_law : Stmt := top 23
section
variable {P : Program} {w : World} {K : PySem.W.Frag} {mg : Str → Option Value} {base : Heap} {f : Addr} {fd : FuncData} {T : List Addr} {cc : Addr}
noncomputable def m_ratio (a0 : Int) (a1 : Int) : Option (Int × Int) :=
  Option.bind (if (decide (a1 < (0 : Int))) = true then
    some (((-a0), (-a1)))
  else
    some ((a0, a1))
  ) fun (s11 : (Int × Int)) =>
  Option.bind (divI s11.1 ((gcdI s11.1 s11.2))) fun t29 =>
  Option.bind (divI s11.2 ((gcdI s11.1 s11.2))) fun t31 =>
  some (t29, t31)
def C_ratio : List Arg → List Cell → Arg → List Cell → Prop := fun as L r L' => ∃ a0 a1 c, as = [⟨rInt, a0⟩, ⟨rInt, a1⟩] ∧ L = [] ∧ m_ratio a0 a1 = some c ∧ r = ⟨(rT2 rInt rInt), c⟩ ∧ L' = []
theorem sc_ratio : FnScope ["n", "d", "common"] ["n", "d"] (defScope s_ratio) := ⟨rfl, rfl, rfl, by decide +kernel, rfl, by decide +kernel, by decide +kernel⟩
set_option maxHeartbeats 0 in
theorem ok_ratio (F : FunC K "ratio" s_ratio f fd cc) (z_gcd : mg "gcd" = some (.builtin "math.gcd")) : FnOk P w K mg base CX0 1 f fd ["n", "d"] (spV K T C_ratio) := by
  refine F.ok sc_ratio (fun vs H Q E h => ?_) (fun A outer s H vs Q E hr h => ?_)
  · obtain ⟨B, M, L, as, r, L', hT, w, ha, ⟨_, _, _, rfl, _⟩, k⟩ := h
    exact args_len ha
  · skip
    obtain ⟨B, M, L, as, r, L', rfl, w, ha, ⟨a0, a1, c, rfl, rfl, hm, rfl, rfl⟩, k⟩ := h
    obtain ⟨u0, u1, rfl, f0, f1⟩ := args2 ha
    replace f0 : (rInt).is K B u0 a0 := f0
    replace f1 : (rInt).is K B u1 a1 := f1
    unfold m_ratio at hm
    refine ⟨_, (Evl.pss_cut (ps_if (pt_cmpR op_lt (pv 1) pe_int (nomark _)) (pss_cons (ps_par (i := 0) (j := 1) rfl sc_ratio.nd rfl rfl (by decide) rfl rfl (pa_cons (pe_un un_neg (pv 0)) (pa_cons (pe_un un_neg (pv 1)) pa_nil)) rfl) pss_nil) pss_nil) (pss_cons (ps_set (i := 2) sc_ratio.nd rfl (by first | exact Or.inl rfl | exact Or.inr rfl) (pe_callBfun cr_gcd rfl z_gcd (pa_cons (pv 0) (pa_cons (pv 1) pa_nil)))) (pss_cons (ps_ret (pe_tup (pa_cons (pe_op op_fdivW (pv 0) (pv 2)) (pa_cons (pe_op op_fdivW (pv 1) (pv 2)) pa_nil)))) pss_nil))), ?_⟩
    rw [show start ["n", "d", "common"] [u0, u1] = ([some u0, some u1, none] : L2.St) from rfl]
    obtain ⟨s11, e12, hm⟩ := bindS hm
    refine q_cut (fun σ25 H20 => ∃ v21 v23 B20, Ex B B20 ∧ Own K B20 M [] H20 ∧ σ25 = [some v21, some v23, none] ∧ (rInt).is K B20 v21 s11.1 ∧ (rInt).is K B20 v23 s11.2) ?_ ?_
    · skip
      refine q_ifc w (et_test (ev_lt (ev_varI rfl f1) (ev_int (i := 0)))) (fun hb10 B13 H13 x13 (w13 : Own K B13 M [] H13) => ?_) (fun hb10 B19 H19 x19 (w19 : Own K B19 M [] H19) => ?_)
      · skip
        rw [if_pos hb10] at e12
        refine q_par (n := 0) (m := 1) w13 (ea_cons (ev_neg (ev_varI rfl f0)) (ea_cons (ev_neg (ev_varI rfl f1)) ea_nil)) fun v15 v17 B14 H14 x14 (w14 : Own K B14 M [] H14) h16 h18 => ?_
        replace e12 : some _ = some _ := e12
        cases e12
        exact ⟨v15, v17, _, (x13.trans x14), w14, rfl, h16, h18⟩
      rw [if_neg (by rw [hb10]; exact Bool.false_ne_true)] at e12
      replace e12 : some _ = some _ := e12
      cases e12
      exact ⟨u0, u1, _, x19, w19, rfl, ((rInt).mono x19 f0), ((rInt).mono x19 f1)⟩
    rintro σ25' H20 ⟨v21, v23, B20, x20, w20, rfl, h22, h24⟩
    refine q_asg (n := 2) w20 (ev_gcd (ev_varI rfl h22) (ev_varI rfl h24)) fun v27 B26 H26 x26 (w26 : Own K B26 M [] H26) h28 => ?_
    obtain ⟨t29, e30, hm⟩ := bindS hm
    obtain ⟨t31, e32, hm⟩ := bindS hm
    replace hm : some _ = some _ := hm
    obtain rfl := Option.some.inj hm
    exact q_ret w26 (ev_T2 (ea_cons (ev_div (ev_varI rfl h22) (ev_varI rfl h28) e30) (ea_cons (ev_div (ev_varI rfl h24) (ev_varI rfl h28) e32) ea_nil))) fun v9 B9 H9 x9 w9 h9 => k _ _ _ ((x20.trans x26).trans x9) w9 h9
noncomputable def m_minus (a0 : (Int × Int)) (a1 : (Int × Int)) : Option (Int × Int) :=
  Option.bind (mulI a0.1 a1.2) fun t10 =>
  Option.bind (mulI a1.1 a0.2) fun t12 =>
  Option.bind (mulI a0.2 a1.2) fun t14 =>
  Option.bind (m_ratio ((t10 - t12)) t14) fun t16 =>
  some t16
def C_minus : List Arg → List Cell → Arg → List Cell → Prop := fun as L r L' => ∃ a0 a1 c, as = [⟨(rT2 rInt rInt), a0⟩, ⟨(rT2 rInt rInt), a1⟩] ∧ L = [] ∧ m_minus a0 a1 = some c ∧ r = ⟨(rT2 rInt rInt), c⟩ ∧ L' = []
theorem sc_minus : FnScope ["a", "b"] ["a", "b"] (defScope s_minus) := ⟨rfl, rfl, rfl, by decide +kernel, rfl, by decide +kernel, by decide +kernel⟩
set_option maxHeartbeats 0 in
theorem ok_minus (F : FunC K "minus" s_minus f fd cc) (c_ratio : Cl P w K mg base 1 "ratio" (spV K T C_ratio) []) : FnOk P w K mg base CX0 2 f fd ["a", "b"] (spV K T C_minus) := by
  refine F.ok sc_minus (fun vs H Q E h => ?_) (fun A outer s H vs Q E hr h => ?_)
  · obtain ⟨B, M, L, as, r, L', hT, w, ha, ⟨_, _, _, rfl, _⟩, k⟩ := h
    exact args_len ha
  · skip
    obtain ⟨B, M, L, as, r, L', rfl, w, ha, ⟨a0, a1, c, rfl, rfl, hm, rfl, rfl⟩, k⟩ := h
    obtain ⟨u0, u1, rfl, f0, f1⟩ := args2 ha
    replace f0 : ((rT2 rInt rInt)).is K B u0 a0 := f0
    replace f1 : ((rT2 rInt rInt)).is K B u1 a1 := f1
    unfold m_minus at hm
    refine ⟨_, (pss_cons (ps_ret (pe_c c_ratio hr (by omega) rfl (pa_cons (pe_op op_sub (pe_op op_mulX (pe_ix ix_seq (pv 0) pe_int (fun _ _ => rfl)) (pe_ix ix_seq (pv 1) pe_int (fun _ _ => rfl))) (pe_op op_mulX (pe_ix ix_seq (pv 1) pe_int (fun _ _ => rfl)) (pe_ix ix_seq (pv 0) pe_int (fun _ _ => rfl)))) (pa_cons (pe_op op_mulX (pe_ix ix_seq (pv 0) pe_int (fun _ _ => rfl)) (pe_ix ix_seq (pv 1) pe_int (fun _ _ => rfl))) pa_nil)))) pss_nil), ?_⟩
    rw [show start ["a", "b"] [u0, u1] = ([some u0, some u1] : L2.St) from rfl]
    obtain ⟨t10, e11, hm⟩ := bindS hm
    obtain ⟨t12, e13, hm⟩ := bindS hm
    obtain ⟨t14, e15, hm⟩ := bindS hm
    obtain ⟨t16, e17, hm⟩ := bindS hm
    replace hm : some _ = some _ := hm
    obtain rfl := Option.some.inj hm
    exact q_ret w (ev_call (ea_cons (ev_sub (ev_mul (ev_fst (ev_var rfl f0)) (ev_snd (ev_var rfl f1)) e11) (ev_mul (ev_fst (ev_var rfl f1)) (ev_snd (ev_var rfl f0)) e13)) (ea_cons (ev_mul (ev_snd (ev_var rfl f0)) (ev_snd (ev_var rfl f1)) e15) ea_nil)) ⟨_, _, _, rfl, rfl, e17, rfl, rfl⟩) fun v9 B9 H9 x9 w9 h9 => k _ _ _ ((Ex.refl _).trans x9) w9 h9
noncomputable def m_times (a0 : (Int × Int)) (a1 : (Int × Int)) : Option (Int × Int) :=
  Option.bind (mulI a0.1 a1.1) fun t10 =>
  Option.bind (mulI a0.2 a1.2) fun t12 =>
  Option.bind (m_ratio t10 t12) fun t14 =>
  some t14
def C_times : List Arg → List Cell → Arg → List Cell → Prop := fun as L r L' => ∃ a0 a1 c, as = [⟨(rT2 rInt rInt), a0⟩, ⟨(rT2 rInt rInt), a1⟩] ∧ L = [] ∧ m_times a0 a1 = some c ∧ r = ⟨(rT2 rInt rInt), c⟩ ∧ L' = []
theorem sc_times : FnScope ["a", "b"] ["a", "b"] (defScope s_times) := ⟨rfl, rfl, rfl, by decide +kernel, rfl, by decide +kernel, by decide +kernel⟩
set_option maxHeartbeats 0 in
theorem ok_times (F : FunC K "times" s_times f fd cc) (c_ratio : Cl P w K mg base 1 "ratio" (spV K T C_ratio) []) : FnOk P w K mg base CX0 2 f fd ["a", "b"] (spV K T C_times) := by
  refine F.ok sc_times (fun vs H Q E h => ?_) (fun A outer s H vs Q E hr h => ?_)
  · obtain ⟨B, M, L, as, r, L', hT, w, ha, ⟨_, _, _, rfl, _⟩, k⟩ := h
    exact args_len ha
  · skip
    obtain ⟨B, M, L, as, r, L', rfl, w, ha, ⟨a0, a1, c, rfl, rfl, hm, rfl, rfl⟩, k⟩ := h
    obtain ⟨u0, u1, rfl, f0, f1⟩ := args2 ha
    replace f0 : ((rT2 rInt rInt)).is K B u0 a0 := f0
    replace f1 : ((rT2 rInt rInt)).is K B u1 a1 := f1
    unfold m_times at hm
    refine ⟨_, (pss_cons (ps_ret (pe_c c_ratio hr (by omega) rfl (pa_cons (pe_op op_mulX (pe_ix ix_seq (pv 0) pe_int (fun _ _ => rfl)) (pe_ix ix_seq (pv 1) pe_int (fun _ _ => rfl))) (pa_cons (pe_op op_mulX (pe_ix ix_seq (pv 0) pe_int (fun _ _ => rfl)) (pe_ix ix_seq (pv 1) pe_int (fun _ _ => rfl))) pa_nil)))) pss_nil), ?_⟩
    rw [show start ["a", "b"] [u0, u1] = ([some u0, some u1] : L2.St) from rfl]
    obtain ⟨t10, e11, hm⟩ := bindS hm
    obtain ⟨t12, e13, hm⟩ := bindS hm
    obtain ⟨t14, e15, hm⟩ := bindS hm
    replace hm : some _ = some _ := hm
    obtain rfl := Option.some.inj hm
    exact q_ret w (ev_call (ea_cons (ev_mul (ev_fst (ev_var rfl f0)) (ev_fst (ev_var rfl f1)) e11) (ea_cons (ev_mul (ev_snd (ev_var rfl f0)) (ev_snd (ev_var rfl f1)) e13) ea_nil)) ⟨_, _, _, rfl, rfl, e15, rfl, rfl⟩) fun v9 B9 H9 x9 w9 h9 => k _ _ _ ((Ex.refl _).trans x9) w9 h9
noncomputable def m_over (a0 : (Int × Int)) (a1 : (Int × Int)) : Option (Int × Int) :=
  Option.bind (mulI a0.1 a1.2) fun t10 =>
  Option.bind (mulI a0.2 a1.1) fun t12 =>
  Option.bind (m_ratio t10 t12) fun t14 =>
  some t14
def C_over : List Arg → List Cell → Arg → List Cell → Prop := fun as L r L' => ∃ a0 a1 c, as = [⟨(rT2 rInt rInt), a0⟩, ⟨(rT2 rInt rInt), a1⟩] ∧ L = [] ∧ m_over a0 a1 = some c ∧ r = ⟨(rT2 rInt rInt), c⟩ ∧ L' = []
theorem sc_over : FnScope ["a", "b"] ["a", "b"] (defScope s_over) := ⟨rfl, rfl, rfl, by decide +kernel, rfl, by decide +kernel, by decide +kernel⟩
set_option maxHeartbeats 0 in
theorem ok_over (F : FunC K "over" s_over f fd cc) (c_ratio : Cl P w K mg base 1 "ratio" (spV K T C_ratio) []) : FnOk P w K mg base CX0 2 f fd ["a", "b"] (spV K T C_over) := by
  refine F.ok sc_over (fun vs H Q E h => ?_) (fun A outer s H vs Q E hr h => ?_)
  · obtain ⟨B, M, L, as, r, L', hT, w, ha, ⟨_, _, _, rfl, _⟩, k⟩ := h
    exact args_len ha
  · skip
    obtain ⟨B, M, L, as, r, L', rfl, w, ha, ⟨a0, a1, c, rfl, rfl, hm, rfl, rfl⟩, k⟩ := h
    obtain ⟨u0, u1, rfl, f0, f1⟩ := args2 ha
    replace f0 : ((rT2 rInt rInt)).is K B u0 a0 := f0
    replace f1 : ((rT2 rInt rInt)).is K B u1 a1 := f1
    unfold m_over at hm
    refine ⟨_, (pss_cons (ps_ret (pe_c c_ratio hr (by omega) rfl (pa_cons (pe_op op_mulX (pe_ix ix_seq (pv 0) pe_int (fun _ _ => rfl)) (pe_ix ix_seq (pv 1) pe_int (fun _ _ => rfl))) (pa_cons (pe_op op_mulX (pe_ix ix_seq (pv 0) pe_int (fun _ _ => rfl)) (pe_ix ix_seq (pv 1) pe_int (fun _ _ => rfl))) pa_nil)))) pss_nil), ?_⟩
    rw [show start ["a", "b"] [u0, u1] = ([some u0, some u1] : L2.St) from rfl]
    obtain ⟨t10, e11, hm⟩ := bindS hm
    obtain ⟨t12, e13, hm⟩ := bindS hm
    obtain ⟨t14, e15, hm⟩ := bindS hm
    replace hm : some _ = some _ := hm
    obtain rfl := Option.some.inj hm
    exact q_ret w (ev_call (ea_cons (ev_mul (ev_fst (ev_var rfl f0)) (ev_snd (ev_var rfl f1)) e11) (ea_cons (ev_mul (ev_snd (ev_var rfl f0)) (ev_fst (ev_var rfl f1)) e13) ea_nil)) ⟨_, _, _, rfl, rfl, e15, rfl, rfl⟩) fun v9 B9 H9 x9 w9 h9 => k _ _ _ ((Ex.refl _).trans x9) w9 h9
noncomputable def m_pivot_of (a0 : (List (List (Int × Int)))) (a1 : Int) : Option (Option Int) :=
  Option.bind (small62 a1) fun t10 =>
  Option.bind (small62 ((a0.length : Int))) fun t12 =>
  Option.bind (loopR (S := Unit) (R := (Option Int)) (α := Int) (fun (s14 : Unit) (x15 : Int) => (
    Option.bind (ixL a0 x15) fun t34 =>
    Option.bind (ixL t34 a1) fun t36 =>
    if (!decide (t36 = ((0 : Int), (1 : Int)))) = true then
      some (Stp.rt ((some x15)))
    else
      some (Stp.nx (()))
  )) (()) ((rng a1 ((a0.length : Int))))) fun o17 =>
  match o17 with
  | .inl s41 =>
    some none
  | .inr q9 => some q9
def C_pivot_of : List Arg → List Cell → Arg → List Cell → Prop := fun as L r L' => ∃ a0 a1 c, as = [⟨(rLst (rLst (rT2 rInt rInt))), a0⟩, ⟨rInt, a1⟩] ∧ L = [] ∧ m_pivot_of a0 a1 = some c ∧ r = ⟨(rOpt rInt), c⟩ ∧ L' = []
theorem sc_pivot_of : FnScope ["table", "column", "number"] ["table", "column"] (defScope s_pivot_of) := ⟨rfl, rfl, rfl, by decide +kernel, rfl, by decide +kernel, by decide +kernel⟩
set_option maxHeartbeats 0 in
theorem ok_pivot_of (F : FunC K "pivot_of" s_pivot_of f fd cc) (g_ZERO : GV K mg "ZERO" (rT2 rInt rInt) (((0 : Int), (1 : Int)))) (z_range : mg "range" = none) (z_len : mg "len" = none) : FnOk P w K mg base CX0 1 f fd ["table", "column"] (spV K T C_pivot_of) := by
  obtain ⟨u_ZERO, v_ZERO, m_ZERO, rv_ZERO, i_ZERO⟩ := g_ZERO
  refine F.ok sc_pivot_of (fun vs H Q E h => ?_) (fun A outer s H vs Q E hr h => ?_)
  · obtain ⟨B, M, L, as, r, L', hT, w, ha, ⟨_, _, _, rfl, _⟩, k⟩ := h
    exact args_len ha
  · skip
    obtain ⟨B, M, L, as, r, L', rfl, w, ha, ⟨a0, a1, c, rfl, rfl, hm, rfl, rfl⟩, k⟩ := h
    obtain ⟨u0, u1, rfl, f0, f1⟩ := args2 ha
    replace f0 : ((rLst (rLst (rT2 rInt rInt)))).is K B u0 a0 := f0
    replace f1 : (rInt).is K B u1 a1 := f1
    have hu := room_hu hr
    unfold m_pivot_of at hm
    refine ⟨_, (pss_cons (ps_for PassesOwn.never rfl (pi_range2 rfl z_range (pa_cons (pv 1) (pa_cons (pe_callB call_len_seq rfl z_len bt_len (pa_cons (pv 0) pa_nil)) pa_nil))) (pg_name (i := 2) sc_pivot_of.nd rfl (by first | exact Or.inl rfl | exact Or.inr rfl)) (pss_cons (ps_if (pt_cmpR (op_neD hu) (pe_ix ix_seq (pe_ix ix_seq (pv 0) (pv 2) (fun _ _ => rfl)) (pv 1) (fun _ _ => rfl)) (pe_glob rfl m_ZERO rv_ZERO) (nomark _)) (pss_cons (ps_ret (pv 2)) pss_nil) pss_nil) pss_nil)) (pss_cons (ps_ret pe_non) pss_nil)), ?_⟩
    rw [show start ["table", "column", "number"] [u0, u1] = ([some u0, some u1, none] : L2.St) from rfl]
    obtain ⟨t10, e11, hm⟩ := bindS hm
    obtain ⟨t12, e13, hm⟩ := bindS hm
    obtain ⟨o17, e18, hm⟩ := bindS hm
    refine q_forR w (ei_rng2 (ea_cons (ev_varI rfl f1) (ea_cons (ev_len (ev_seqL (ev_var rfl f0))) ea_nil)) e11 e13) _ (fun s14 B19 σ32 => ∃ o33, σ32 = [some u0, some u1, o33]) (fun s14 => []) (()) e18 (fun B9 x9 => ⟨_, rfl⟩) rfl ?_ ?_
    · skip
      rintro s14 x15 s48 v25 B19 B20 H21 σ32 hb16 x22 ⟨o33, rfl⟩ x23 w24 h26 ho31 N27 K28 hN29 hB30
      replace w24 : Own K B20 M [] H21 := w24
      refine g_name ?_
      obtain ⟨t34, e35, hb16⟩ := bindS hb16
      obtain ⟨t36, e37, hb16⟩ := bindS hb16
      refine q_if w24 (et_test (ev_neT (dr_T2 dr_int dr_int) (by decide) (ev_ix (ev_seqL (ev_ix (ev_seqL (ev_var rfl (((rLst (rLst (rT2 rInt rInt)))).mono (x22.trans x23) f0))) (ev_varI rfl h26) e35)) (ev_varI rfl f1) e37) (ev_k i_ZERO))) (fun hb38 B39 H39 x39 (w39 : Own K B39 M [] H39) => ?_) (fun hb38 B40 H40 x40 (w40 : Own K B40 M [] H40) => ?_)
      · skip
        rw [if_pos hb38] at hb16
        replace hb16 : some _ = some _ := hb16
        obtain rfl := Option.some.inj hb16
        obtain rfl := ho31 _ rfl
        replace hm : some _ = some _ := hm
        obtain rfl := Option.some.inj hm
        exact q_ret w39 (ev_sm (ev_varI rfl h26)) fun v9 B9 H9 x9 w9 h9 => k _ _ _ (((x22.trans x23).trans x39).trans x9) w9 h9
      rw [if_neg (by rw [hb38]; exact Bool.false_ne_true)] at hb16
      replace hb16 : some _ = some _ := hb16
      cases hb16
      exact hN29 _ _ _ _ rfl x40 w40 ⟨_, rfl⟩
    rintro s41 B42 H43 σ46 rfl x44 w45 ⟨o47, rfl⟩
    dsimp only at hm
    replace w45 : Own K B42 M [] H43 := w45
    replace hm : some _ = some _ := hm
    obtain rfl := Option.some.inj hm
    exact q_ret w45 (ev_non (r := rInt)) fun v9 B9 H9 x9 w9 h9 => k _ _ _ (x44.trans x9) w9 h9
noncomputable def m_cleared (a0 : (List (Int × Int))) (a1 : (List (Int × Int))) (a2 : Int) : Option (List (Int × Int)) :=
  Option.bind (ixL a0 a2) fun t10 =>
  if (decide (t10 = ((0 : Int), (1 : Int)))) = true then
    some a0
  else
    Option.bind (room ((enumI 0 a0)).length) fun t52 =>
    Option.bind (compM (S := Unit) (β := (Int × Int)) (fun (s18 : Unit) (x25 : (Int × (Int × Int))) => (Option.bind (ixL a1 x25.1) fun t46 => Option.bind (m_times t10 t46) fun t48 => Option.bind (m_minus x25.2 t48) fun t50 => some (some t50, ()))) (()) ((enumI 0 a0))) fun t54 =>
    some t54.1
def C_cleared : List Arg → List Cell → Arg → List Cell → Prop := fun as L r L' => ∃ a0 a1 a2 c, as = [⟨(rLst (rT2 rInt rInt)), a0⟩, ⟨(rLst (rT2 rInt rInt)), a1⟩, ⟨rInt, a2⟩] ∧ L = [] ∧ m_cleared a0 a1 a2 = some c ∧ r = ⟨(rLst (rT2 rInt rInt)), c⟩ ∧ L' = []
theorem sc_cleared : FnScope ["row", "other", "column", "factor", "place", "item"] ["row", "other", "column"] (defScope s_cleared) := ⟨rfl, rfl, rfl, by decide +kernel, rfl, by decide +kernel, by decide +kernel⟩
set_option maxHeartbeats 0 in
theorem ok_cleared (F : FunC K "cleared" s_cleared f fd cc) (c_minus : Cl P w K mg base 2 "minus" (spV K T C_minus) []) (c_times : Cl P w K mg base 2 "times" (spV K T C_times) []) (g_ZERO : GV K mg "ZERO" (rT2 rInt rInt) (((0 : Int), (1 : Int)))) (z_enumerate : mg "enumerate" = none) : FnOk P w K mg base CX0 3 f fd ["row", "other", "column"] (spV K T C_cleared) := by
  obtain ⟨u_ZERO, v_ZERO, m_ZERO, rv_ZERO, i_ZERO⟩ := g_ZERO
  refine F.ok sc_cleared (fun vs H Q E h => ?_) (fun A outer s H vs Q E hr h => ?_)
  · obtain ⟨B, M, L, as, r, L', hT, w, ha, ⟨_, _, _, _, rfl, _⟩, k⟩ := h
    exact args_len ha
  · skip
    obtain ⟨B, M, L, as, r, L', rfl, w, ha, ⟨a0, a1, a2, c, rfl, rfl, hm, rfl, rfl⟩, k⟩ := h
    obtain ⟨u0, u1, u2, rfl, f0, f1, f2⟩ := args3 ha
    replace f0 : ((rLst (rT2 rInt rInt))).is K B u0 a0 := f0
    replace f1 : ((rLst (rT2 rInt rInt))).is K B u1 a1 := f1
    replace f2 : (rInt).is K B u2 a2 := f2
    have hu := room_hu hr
    unfold m_cleared at hm
    refine ⟨_, (pss_cons (ps_set (i := 3) sc_cleared.nd rfl (by first | exact Or.inl rfl | exact Or.inr rfl) (pe_ix ix_seq (pv 0) (pv 2) (fun _ _ => rfl))) (pss_cons (ps_if (pt_cmpR (op_eqD hu) (pv 3) (pe_glob rfl m_ZERO rv_ZERO) (nomark _)) (pss_cons (ps_ret (pv 0)) pss_nil) pss_nil) (pss_cons (ps_ret (pe_lc rfl sc_cleared.nd (pi_enum rfl z_enumerate (pa_cons (pv 0) pa_nil)) (blkOk_by (own := [("place", 4), ("item", 5)]) (show blkC ["row", "other", "column", "factor", "place", "item"] (defScope s_cleared) _ _ = true by decide +kernel)) (fun _ _ _ _ _ => (show PG _ _ (gTup K 2 (gCons (gName 4) (gCons (gName 5) gNil))) from (pg_tup rfl (pgs_cons (pg_name (i := 4) sc_cleared.nd rfl (by first | exact Or.inl rfl | exact Or.inr rfl)) (pgs_cons (pg_name (i := 5) sc_cleared.nd rfl (by first | exact Or.inl rfl | exact Or.inr rfl)) pgs_nil))))) (fun _ _ _ _ _ => pts_nil) (fun _ _ _ _ _ => (pe_c c_minus hr (by omega) rfl (pa_cons (pv 5) (pa_cons (pe_c c_times hr (by omega) rfl (pa_cons (pv 3) (pa_cons (pe_ix (show IxR _ (rIx K) from ix_seq) (pv 1) (pv 4) (fun _ _ => rfl)) pa_nil))) pa_nil)))))) pss_nil))), ?_⟩
    rw [show start ["row", "other", "column", "factor", "place", "item"] [u0, u1, u2] = ([some u0, some u1, some u2, none, none, none] : L2.St) from rfl]
    obtain ⟨t10, e11, hm⟩ := bindS hm
    refine q_asg (n := 3) w (ev_ix (ev_seqL (ev_var rfl f0)) (ev_varI rfl f2) e11) fun v13 B12 H12 x12 (w12 : Own K B12 M [] H12) h14 => ?_
    refine q_if w12 (et_test (ev_eqT (dr_T2 dr_int dr_int) (by decide) (ev_var rfl h14) (ev_k i_ZERO))) (fun hb15 B16 H16 x16 (w16 : Own K B16 M [] H16) => ?_) (fun hb15 B17 H17 x17 (w17 : Own K B17 M [] H17) => ?_)
    · skip
      rw [if_pos hb15] at hm
      replace hm : some _ = some _ := hm
      obtain rfl := Option.some.inj hm
      exact q_ret w16 (ev_var rfl (((rLst (rT2 rInt rInt))).mono (x12.trans x16) f0)) fun v9 B9 H9 x9 w9 h9 => k _ _ _ ((x12.trans x16).trans x9) w9 h9
    rw [if_neg (by rw [hb15]; exact Bool.false_ne_true)] at hm
    obtain ⟨t52, e53, hm⟩ := bindS hm
    obtain ⟨t54, e55, hm⟩ := bindS hm
    replace hm : some _ = some _ := hm
    obtain rfl := Option.some.inj hm
    exact q_ret w17 (ev_frz (el_lc (S := Unit) (ys := t54.1) (s1 := t54.2) (s0 := ()) (σ' := [some u0, some u1, some u2, some v13, none, none]) (rT2 rInt rInt) (ei_enumL (ev_var rfl (((rLst (rT2 rInt rInt))).mono (x12.trans x17) f0))) _ (fun (s18 : Unit) => []) rfl e55 e53 rfl (by rintro s18 x25 o30 s31 v23 D28 a29 B19 H20 hb27 x21 w22 h24 PY32 PN33 qY34 qN35; replace w22 : Own K B19 M [⟨D28, (cLst (rT2 rInt rInt)), a29⟩] H20 := w22; refine g_T2 h24 w22 fun v36 v37 h38 h39 => ?_; refine g_cons ?_; refine g_name ?_; refine g_cons ?_; refine g_name ?_; refine g_nil ?_; refine ⟨rfl, ?_⟩; obtain ⟨t46, e47, hb27⟩ := bindS hb27; obtain ⟨t48, e49, hb27⟩ := bindS hb27; obtain ⟨t50, e51, hb27⟩ := bindS hb27; obtain ⟨rfl, rfl⟩ := Prod.mk.inj (Option.some.inj hb27); refine lc_yes ?_; exact (ev_call (ea_cons (ev_var rfl h39) (ea_cons (ev_call (ea_cons (ev_var rfl (((rT2 rInt rInt)).mono (x17.trans x21) h14)) (ea_cons (ev_ix (ev_seqL (ev_var rfl (((rLst (rT2 rInt rInt))).mono ((x12.trans x17).trans x21) f1))) (ev_varI rfl h38) e47) ea_nil)) ⟨_, _, _, rfl, rfl, e49, rfl, rfl⟩) ea_nil)) ⟨_, _, _, rfl, rfl, e51, rfl, rfl⟩) B19 H20 (Ex.refl _) w22 _ fun v40 B41 H42 x43 w44 h45 => qY34 v40 B41 H42 _ rfl x43 w44 h45))) fun v9 B9 H9 x9 w9 h9 => k _ _ _ ((x12.trans x17).trans x9) w9 h9
noncomputable def m_solve (a0 : (List (List (Int × Int)))) (a1 : (List (Int × Int))) : Option (Option (List (Int × Int))) :=
  Option.bind (room ((enumI 0 a0)).length) fun t42 =>
  Option.bind (compM (S := Unit) (β := (List (Int × Int))) (fun (s10 : Unit) (x17 : (Int × (List (Int × Int)))) => (Option.bind (ixL a1 x17.1) fun t38 => Option.bind (catT x17.2 ([t38])) fun t40 => some (some t40, ()))) (()) ((enumI 0 a0))) fun t44 =>
  Option.bind (small62 ((t44.1.length : Int))) fun t48 =>
  Option.bind (loopR (S := (List (List (Int × Int)))) (R := (Option (List (Int × Int)))) (α := Int) (fun (s50 : (List (List (Int × Int)))) (x51 : Int) => (
    Option.bind (m_pivot_of s50 x51) fun t73 =>
    if t73.isNone = true then
      some (Stp.rt none)
    else
      Option.bind (t73) fun t81 =>
      Option.bind (ixL s50 t81) fun t83 =>
      Option.bind (ixL s50 x51) fun t85 =>
      Option.bind (ixO s50.length x51) fun t94 =>
      Option.bind (t73) fun t97 =>
      Option.bind (ixO ((s50.set t94 (((t83, t85)).1))).length t97) fun t99 =>
      Option.bind (ixL ((((s50.set t94 (((t83, t85)).1))).set t99 (((t83, t85)).2))) x51) fun t102 =>
      Option.bind (ixL t102 x51) fun t104 =>
      Option.bind (ixL ((((s50.set t94 (((t83, t85)).1))).set t99 (((t83, t85)).2))) x51) fun t109 =>
      Option.bind (room t109.length) fun t137 =>
      Option.bind (compM (S := Unit) (β := (Int × Int)) (fun (s111 : Unit) (x118 : (Int × Int)) => (Option.bind (m_over x118 t104) fun t135 => some (some t135, ()))) (()) t109) fun t139 =>
      Option.bind (ixO ((((s50.set t94 (((t83, t85)).1))).set t99 (((t83, t85)).2))).length x51) fun t141 =>
      Option.bind (small62 ((((((((s50.set t94 (((t83, t85)).1))).set t99 (((t83, t85)).2))).set t141 t139.1)).length : Int))) fun t144 =>
      Option.bind (foldO (S := (List (List (Int × Int)))) (α := Int) (fun (s146 : (List (List (Int × Int)))) (x147 : Int) => (
        Option.bind (if (!decide (x147 = x51)) = true then
          Option.bind (ixL s146 x147) fun t170 =>
          Option.bind (ixL s146 x51) fun t172 =>
          Option.bind (m_cleared t170 t172 x51) fun t174 =>
          Option.bind (ixO s146.length x147) fun t176 =>
          some ((s146.set t176 t174))
        else
          some s146
        ) fun (s167 : (List (List (Int × Int)))) =>
        some s167
      )) ((((((s50.set t94 (((t83, t85)).1))).set t99 (((t83, t85)).2))).set t141 t139.1)) ((rng 0 ((((((((s50.set t94 (((t83, t85)).1))).set t99 (((t83, t85)).2))).set t141 t139.1)).length : Int))))) fun s182 =>
      some (Stp.nx s182)
  )) t44.1 ((rng 0 ((t44.1.length : Int))))) fun o53 =>
  match o53 with
  | .inl s190 =>
    Option.bind (room s190.length) fun t230 =>
    Option.bind (compM (S := Unit) (β := (Int × Int)) (fun (s204 : Unit) (x211 : (List (Int × Int))) => (Option.bind (ixL x211 ((-(1 : Int)))) fun t228 => some (some t228, ()))) (()) s190) fun t232 =>
    some (some t232.1)
  | .inr q9 => some q9
def C_solve : List Arg → List Cell → Arg → List Cell → Prop := fun as L r L' => ∃ a0 a1 c, as = [⟨(rLst (rLst (rT2 rInt rInt))), a0⟩, ⟨(rLst (rT2 rInt rInt)), a1⟩] ∧ L = [] ∧ m_solve a0 a1 = some c ∧ r = ⟨(rOpt (rLst (rT2 rInt rInt))), c⟩ ∧ L' = []
theorem sc_solve : FnScope ["rows", "right", "table", "column", "number", "head", "other", "row", "item"] ["rows", "right"] (defScope s_solve) := ⟨rfl, rfl, rfl, by decide +kernel, rfl, by decide +kernel, by decide +kernel⟩
set_option maxHeartbeats 0 in
theorem ok_solve (F : FunC K "solve" s_solve f fd cc) (c_pivot_of : Cl P w K mg base 1 "pivot_of" (spV K T C_pivot_of) []) (c_over : Cl P w K mg base 2 "over" (spV K T C_over) []) (c_cleared : Cl P w K mg base 3 "cleared" (spV K T C_cleared) []) (z_enumerate : mg "enumerate" = none) (z_list : mg "list" = none) (z_range : mg "range" = none) (z_len : mg "len" = none) : FnOk P w K mg base CX0 4 f fd ["rows", "right"] (spV K T C_solve) := by
  refine F.ok sc_solve (fun vs H Q E h => ?_) (fun A outer s H vs Q E hr h => ?_)
  · obtain ⟨B, M, L, as, r, L', hT, w, ha, ⟨_, _, _, rfl, _⟩, k⟩ := h
    exact args_len ha
  · skip
    obtain ⟨B, M, L, as, r, L', rfl, w, ha, ⟨a0, a1, c, rfl, rfl, hm, rfl, rfl⟩, k⟩ := h
    obtain ⟨u0, u1, rfl, f0, f1⟩ := args2 ha
    replace f0 : ((rLst (rLst (rT2 rInt rInt)))).is K B u0 a0 := f0
    replace f1 : ((rLst (rT2 rInt rInt))).is K B u1 a1 := f1
    unfold m_solve at hm
    refine ⟨_, (pss_cons (ps_setLc (i := 2) rfl sc_solve.nd rfl rfl rfl (pi_enum rfl z_enumerate (pa_cons (pv 0) pa_nil)) (blkOk_by (own := [("number", 4), ("row", 7)]) (show blkC ["rows", "right", "table", "column", "number", "head", "other", "row", "item"] (defScope s_solve) _ _ = true by decide +kernel)) (fun _ _ _ _ _ => (show PG _ _ (gTup K 2 (gCons (gName 4) (gCons (gName 7) gNil))) from (pg_tup rfl (pgs_cons (pg_name (i := 4) sc_solve.nd rfl (by first | exact Or.inl rfl | exact Or.inr rfl)) (pgs_cons (pg_name (i := 7) sc_solve.nd rfl (by first | exact Or.inl rfl | exact Or.inr rfl)) pgs_nil))))) (fun _ _ _ _ _ => pts_nil) (fun _ _ _ _ _ => (pe_op op_cat (pe_callTy (show CallR _ _ (rListOf K) from call_list_of) rfl z_list bt_list (pa_cons (pv 7) pa_nil)) (pe_lst (pa_cons (pe_ix (show IxR _ (rIx K) from ix_seq) (pv 1) (pv 4) (fun _ _ => rfl)) pa_nil))))) (pss_cons (ps_for PassesOwn.never rfl (pi_range1 rfl z_range (pa_cons (pe_callB call_len_seq rfl z_len bt_len (pa_cons (pv 2) pa_nil)) pa_nil)) (pg_name (i := 3) sc_solve.nd rfl (by first | exact Or.inl rfl | exact Or.inr rfl)) (pss_cons (ps_set (i := 4) sc_solve.nd rfl (by first | exact Or.inl rfl | exact Or.inr rfl) (pe_c c_pivot_of hr (by omega) rfl (pa_cons (pv 2) (pa_cons (pv 3) pa_nil)))) (pss_cons (ps_if (pt_cmp (pc_isN (pv 4))) (pss_cons (ps_ret pe_non) pss_nil) pss_nil) (pss_cons (ps_asg (pe_tup (pa_cons (pe_ix ix_seq (pv 2) (pv 4) (fun _ _ => rfl)) (pa_cons (pe_ix ix_seq (pv 2) (pv 3) (fun _ _ => rfl)) pa_nil))) (pg_tup rfl (pgs_cons (pg_sub (pv 2) (pv 3) set_list) (pgs_cons (pg_sub (pv 2) (pv 4) set_list) pgs_nil)))) (pss_cons (ps_set (i := 5) sc_solve.nd rfl (by first | exact Or.inl rfl | exact Or.inr rfl) (pe_ix ix_seq (pe_ix ix_seq (pv 2) (pv 3) (fun _ _ => rfl)) (pv 3) (fun _ _ => rfl))) (pss_cons (ps_asg (pe_lc rfl sc_solve.nd (pi_list (pe_ix ix_seq (pv 2) (pv 3) (fun _ _ => rfl))) (blkOk_by (own := [("item", 8)]) (show blkC ["rows", "right", "table", "column", "number", "head", "other", "row", "item"] (defScope s_solve) _ _ = true by decide +kernel)) (fun _ _ _ _ _ => (pg_name (i := 8) sc_solve.nd rfl (by first | exact Or.inl rfl | exact Or.inr rfl))) (fun _ _ _ _ _ => pts_nil) (fun _ _ _ _ _ => (pe_c c_over hr (by omega) rfl (pa_cons (pv 8) (pa_cons (pv 5) pa_nil))))) (pg_sub (pv 2) (pv 3) set_list)) (pss_cons (ps_for PassesOwn.never rfl (pi_range1 rfl z_range (pa_cons (pe_callB call_len_seq rfl z_len bt_len (pa_cons (pv 2) pa_nil)) pa_nil)) (pg_name (i := 6) sc_solve.nd rfl (by first | exact Or.inl rfl | exact Or.inr rfl)) (Evl.pss_cut (ps_if (pt_cmpR op_ne (pv 6) (pv 3) (nomark _)) (pss_cons (ps_asg (pe_c c_cleared hr (by omega) rfl (pa_cons (pe_ix ix_seq (pv 2) (pv 6) (fun _ _ => rfl)) (pa_cons (pe_ix ix_seq (pv 2) (pv 3) (fun _ _ => rfl)) (pa_cons (pv 3) pa_nil)))) (pg_sub (pv 2) (pv 6) set_list)) pss_nil) pss_nil) pss_nil)) pss_nil))))))) (pss_cons (ps_ret (pe_lc rfl sc_solve.nd (pi_list (pv 2)) (blkOk_by (own := [("row", 7)]) (show blkC ["rows", "right", "table", "column", "number", "head", "other", "row", "item"] (defScope s_solve) _ _ = true by decide +kernel)) (fun _ _ _ _ _ => (pg_name (i := 7) sc_solve.nd rfl (by first | exact Or.inl rfl | exact Or.inr rfl))) (fun _ _ _ _ _ => pts_nil) (fun _ _ _ _ _ => (pe_ix (show IxR _ (rIx K) from ix_seq) (pv 7) (pe_un un_neg pe_int) (fun _ _ => rfl))))) pss_nil))), ?_⟩
    rw [show start ["rows", "right", "table", "column", "number", "head", "other", "row", "item"] [u0, u1] = ([some u0, some u1, none, none, none, none, none, none, none] : L2.St) from rfl]
    obtain ⟨t42, e43, hm⟩ := bindS hm
    obtain ⟨t44, e45, hm⟩ := bindS hm
    refine q_asgL (n := 2) w (el_lc (S := Unit) (ys := t44.1) (s1 := t44.2) (s0 := ()) (σ' := [some u0, some u1, none, none, none, none, none, none, none]) (rLst (rT2 rInt rInt)) (ei_enumL (ev_var rfl f0)) _ (fun (s10 : Unit) => []) rfl e45 e43 rfl (by rintro s10 x17 o22 s23 v15 D20 a21 B11 H12 hb19 x13 w14 h16 PY24 PN25 qY26 qN27; replace w14 : Own K B11 M [⟨D20, (cLst (rLst (rT2 rInt rInt))), a21⟩] H12 := w14; refine g_T2 h16 w14 fun v28 v29 h30 h31 => ?_; refine g_cons ?_; refine g_name ?_; refine g_cons ?_; refine g_name ?_; refine g_nil ?_; refine ⟨rfl, ?_⟩; obtain ⟨t38, e39, hb19⟩ := bindS hb19; obtain ⟨t40, e41, hb19⟩ := bindS hb19; obtain ⟨rfl, rfl⟩ := Prod.mk.inj (Option.some.inj hb19); refine lc_yes ?_; exact (ev_frz (el_cat (ev_frz (el_listOf (ev_seqL (ev_var rfl h31)))) (ev_frz (el_lst (r := (rT2 rInt rInt)) [t38] (ea_cons (ev_ix (ev_seqL (ev_var rfl (((rLst (rT2 rInt rInt))).mono x13 f1))) (ev_varI rfl h30) e39) ea_nil))) e41)) B11 H12 (Ex.refl _) w14 _ fun v32 B33 H34 x35 w36 h37 => qY26 v32 B33 H34 _ rfl x35 w36 h37)) fun p47 B46 H46 x46 (w46 : Own K B46 M [⟨p47, (cLst (rLst (rT2 rInt rInt))), t44.1⟩] H46) => ?_
    obtain ⟨t48, e49, hm⟩ := bindS hm
    obtain ⟨o53, e54, hm⟩ := bindS hm
    refine q_forR w46 (ei_rng1 (ea_cons (ev_lenC (n := 0) (ev_varR rfl) rfl) ea_nil) e49) _ (fun s50 B55 σ68 => ∃ o69 o70 o71 o72, σ68 = [some u0, some u1, some (.ref p47), o69, o70, o71, o72, none, none]) (fun s50 => [⟨p47, (cLst (rLst (rT2 rInt rInt))), s50⟩]) t44.1 e54 (fun B9 x9 => ⟨_, _, _, _, rfl⟩) rfl ?_ ?_
    · skip
      rintro s50 x51 s234 v61 B55 B56 H57 σ68 hb52 x58 ⟨o69, o70, o71, o72, rfl⟩ x59 w60 h62 ho67 N63 K64 hN65 hB66
      replace w60 : Own K B56 M [⟨p47, (cLst (rLst (rT2 rInt rInt))), s50⟩] H57 := w60
      refine g_name ?_
      obtain ⟨t73, e74, hb52⟩ := bindS hb52
      refine q_asg (n := 4) w60 (ev_callF (ea_cons (ev_varR rfl) (ea_cons (ev_varI rfl h62) ea_nil)) (af_cell (n := 0) rfl (af_same af_nil)) (nts_cons nt_lst nts_nil) (to_opt to_int) ⟨_, _, _, rfl, rfl, e74, rfl, rfl⟩) fun v76 B75 H75 x75 (w75 : Own K B75 M [⟨p47, (cLst (rLst (rT2 rInt rInt))), s50⟩] H75) h77 => ?_
      refine q_if w75 (et_B (ev_isN (ev_var rfl h77) (fun _ _ _ => nn_rInt))) (fun hb78 B79 H79 x79 (w79 : Own K B79 M [⟨p47, (cLst (rLst (rT2 rInt rInt))), s50⟩] H79) => ?_) (fun hb78 B80 H80 x80 (w80 : Own K B80 M [⟨p47, (cLst (rLst (rT2 rInt rInt))), s50⟩] H80) => ?_)
      · skip
        rw [if_pos hb78] at hb52
        replace hb52 : some _ = some _ := hb52
        obtain rfl := Option.some.inj hb52
        obtain rfl := ho67 _ rfl
        replace hm : some _ = some _ := hm
        obtain rfl := Option.some.inj hm
        exact q_ret w79 (ev_non (r := (rLst (rT2 rInt rInt)))) fun v9 B9 H9 x9 w9 h9 => k _ _ _ (((((x46.trans x58).trans x59).trans x75).trans x79).trans x9) w9.tail h9
      rw [if_neg (by rw [hb78]; exact Bool.false_ne_true)] at hb52
      obtain ⟨t81, e82, hb52⟩ := bindS hb52
      obtain ⟨t83, e84, hb52⟩ := bindS hb52
      obtain ⟨t85, e86, hb52⟩ := bindS hb52
      refine q_unp w80 (ev_T2 (ea_cons (ev_ixC (n := 0) (ev_varR rfl) (ev_get (ev_var rfl (((rOpt rInt)).mono x80 h77)) e82) rfl e84) (ea_cons (ev_ixC (n := 0) (ev_varR rfl) (ev_varI rfl h62) rfl e86) ea_nil))) fun v88 B87 H87 x87 (w87 : Own K B87 M [⟨p47, (cLst (rLst (rT2 rInt rInt))), s50⟩] H87) h89 => ?_
      refine g_T2 h89 w87 fun v90 v91 h92 h93 => ?_
      refine g_cons ?_
      obtain ⟨t94, e95, hb52⟩ := bindS hb52
      refine g_setC (n := 0) (r := (rLst (rT2 rInt rInt))) w87 h92 rfl (ev_varI rfl h62) rfl e95 fun B96 H96 x96 (w96 : Own K B96 M [⟨p47, (cLst (rLst (rT2 rInt rInt))), (s50.set t94 (((t83, t85)).1))⟩] H96) => ?_
      refine g_cons ?_
      obtain ⟨t97, e98, hb52⟩ := bindS hb52
      obtain ⟨t99, e100, hb52⟩ := bindS hb52
      refine g_setC (n := 0) (r := (rLst (rT2 rInt rInt))) w96 (((rLst (rT2 rInt rInt))).mono x96 h93) rfl (ev_get (ev_var rfl (((rOpt rInt)).mono ((x80.trans x87).trans x96) h77)) e98) rfl e100 fun B101 H101 x101 (w101 : Own K B101 M [⟨p47, (cLst (rLst (rT2 rInt rInt))), (((s50.set t94 (((t83, t85)).1))).set t99 (((t83, t85)).2))⟩] H101) => ?_
      refine g_nil ?_
      obtain ⟨t102, e103, hb52⟩ := bindS hb52
      obtain ⟨t104, e105, hb52⟩ := bindS hb52
      refine q_asg (n := 5) w101 (ev_ix (ev_seqL (ev_ixC (n := 0) (ev_varR rfl) (ev_varI rfl h62) rfl e103)) (ev_varI rfl h62) e105) fun v107 B106 H106 x106 (w106 : Own K B106 M [⟨p47, (cLst (rLst (rT2 rInt rInt))), (((s50.set t94 (((t83, t85)).1))).set t99 (((t83, t85)).2))⟩] H106) h108 => ?_
      obtain ⟨t109, e110, hb52⟩ := bindS hb52
      obtain ⟨t137, e138, hb52⟩ := bindS hb52
      obtain ⟨t139, e140, hb52⟩ := bindS hb52
      obtain ⟨t141, e142, hb52⟩ := bindS hb52
      refine q_setC (n := 0) w106 (ev_frz (el_lc (S := Unit) (ys := t139.1) (s1 := t139.2) (s0 := ()) (σ' := [some u0, some u1, some (.ref p47), some v61, some v76, some v107, o72, none, none]) (rT2 rInt rInt) (ei_lst (ev_ixC (n := 0) (ev_varR rfl) (ev_varI rfl h62) rfl e110)) _ (fun (s111 : Unit) => [⟨p47, (cLst (rLst (rT2 rInt rInt))), (((s50.set t94 (((t83, t85)).1))).set t99 (((t83, t85)).2))⟩]) rfl e140 e138 rfl (by rintro s111 x118 o123 s124 v116 D121 a122 B112 H113 hb120 x114 w115 h117 PY125 PN126 qY127 qN128; replace w115 : Own K B112 M [⟨D121, (cLst (rT2 rInt rInt)), a122⟩, ⟨p47, (cLst (rLst (rT2 rInt rInt))), (((s50.set t94 (((t83, t85)).1))).set t99 (((t83, t85)).2))⟩] H113 := w115; refine g_name ?_; refine ⟨rfl, ?_⟩; obtain ⟨t135, e136, hb120⟩ := bindS hb120; obtain ⟨rfl, rfl⟩ := Prod.mk.inj (Option.some.inj hb120); refine lc_yes ?_; exact (ev_call (ea_cons (ev_var rfl h117) (ea_cons (ev_var rfl (((rT2 rInt rInt)).mono x114 h108)) ea_nil)) ⟨_, _, _, rfl, rfl, e136, rfl, rfl⟩) B112 H113 (Ex.refl _) w115 _ fun v129 B130 H131 x132 w133 h134 => qY127 v129 B130 H131 _ rfl x132 w133 h134))) rfl (ev_varI rfl h62) rfl e142 fun B143 H143 x143 (w143 : Own K B143 M [⟨p47, (cLst (rLst (rT2 rInt rInt))), (((((s50.set t94 (((t83, t85)).1))).set t99 (((t83, t85)).2))).set t141 t139.1)⟩] H143) => ?_
      obtain ⟨t144, e145, hb52⟩ := bindS hb52
      obtain ⟨s182, e150, hb52⟩ := bindS hb52
      refine q_fold w143 (ei_rng1 (ea_cons (ev_lenC (n := 0) (ev_varR rfl) rfl) ea_nil) e145) _ (fun s146 B151 σ164 => ∃ o165, σ164 = [some u0, some u1, some (.ref p47), some v61, some v76, some v107, o165, none, none]) (fun s146 => [⟨p47, (cLst (rLst (rT2 rInt rInt))), s146⟩]) ((((((s50.set t94 (((t83, t85)).1))).set t99 (((t83, t85)).2))).set t141 t139.1)) e150 (fun B9 x9 => ⟨_, rfl⟩) rfl ?_ ?_
      · skip
        rintro s146 x147 s189 v157 B151 B152 H153 σ164 hb148 x154 ⟨o165, rfl⟩ x155 w156 h158 N159 K160 hN161
        replace w156 : Own K B152 M [⟨p47, (cLst (rLst (rT2 rInt rInt))), s146⟩] H153 := w156
        refine g_name ?_
        obtain ⟨s167, e168, hb148⟩ := bindS hb148
        refine q_cut (fun σ181 H180 => ∃ B180, Ex B152 B180 ∧ Own K B180 M [⟨p47, (cLst (rLst (rT2 rInt rInt))), s167⟩] H180 ∧ σ181 = [some u0, some u1, some (.ref p47), some v61, some v76, some v107, some v157, none, none]) ?_ ?_
        · skip
          refine q_ifc w156 (et_test (ev_neI (ev_varI rfl h158) (ev_varI rfl h62))) (fun hb166 B169 H169 x169 (w169 : Own K B169 M [⟨p47, (cLst (rLst (rT2 rInt rInt))), s146⟩] H169) => ?_) (fun hb166 B179 H179 x179 (w179 : Own K B179 M [⟨p47, (cLst (rLst (rT2 rInt rInt))), s146⟩] H179) => ?_)
          · skip
            rw [if_pos hb166] at e168
            obtain ⟨t170, e171, e168⟩ := bindS e168
            obtain ⟨t172, e173, e168⟩ := bindS e168
            obtain ⟨t174, e175, e168⟩ := bindS e168
            obtain ⟨t176, e177, e168⟩ := bindS e168
            refine q_setC (n := 0) w169 (ev_call (ea_cons (ev_ixC (n := 0) (ev_varR rfl) (ev_varI rfl h158) rfl e171) (ea_cons (ev_ixC (n := 0) (ev_varR rfl) (ev_varI rfl h62) rfl e173) (ea_cons (ev_varI rfl h62) ea_nil))) ⟨_, _, _, _, rfl, rfl, e175, rfl, rfl⟩) rfl (ev_varI rfl h158) rfl e177 fun B178 H178 x178 (w178 : Own K B178 M [⟨p47, (cLst (rLst (rT2 rInt rInt))), (s146.set t176 t174)⟩] H178) => ?_
            replace e168 : some _ = some _ := e168
            cases e168
            exact ⟨_, (x169.trans x178), w178, rfl⟩
          rw [if_neg (by rw [hb166]; exact Bool.false_ne_true)] at e168
          replace e168 : some _ = some _ := e168
          cases e168
          exact ⟨_, x179, w179, rfl⟩
        rintro σ181' H180 ⟨B180, x180, w180, rfl⟩
        replace hb148 : some _ = some _ := hb148
        cases hb148
        exact hN161 _ _ _ x180 w180 ⟨_, rfl⟩
      rintro B183 H184 σ187 x185 w186 ⟨o188, rfl⟩
      replace w186 : Own K B183 M [⟨p47, (cLst (rLst (rT2 rInt rInt))), s182⟩] H184 := w186
      replace hb52 : some _ = some _ := hb52
      cases hb52
      exact hN65 _ _ _ _ rfl (((((((x75.trans x80).trans x87).trans x96).trans x101).trans x106).trans x143).trans x185) w186 ⟨_, _, _, _, rfl⟩
    rintro s190 B191 H192 σ195 rfl x193 w194 ⟨o196, o197, o198, o199, rfl⟩
    dsimp only at hm
    replace w194 : Own K B191 M [⟨p47, (cLst (rLst (rT2 rInt rInt))), s190⟩] H192 := w194
    obtain ⟨B200, x201, w202, h203⟩ := frz_step (n := 0) w194 rfl
    replace w202 : Own K B200 M [] H192 := w202
    obtain ⟨t230, e231, hm⟩ := bindS hm
    obtain ⟨t232, e233, hm⟩ := bindS hm
    replace hm : some _ = some _ := hm
    obtain rfl := Option.some.inj hm
    exact q_ret w202 (ev_sm (ev_frz (el_lc (S := Unit) (ys := t232.1) (s1 := t232.2) (s0 := ()) (σ' := [some u0, some u1, some (.ref p47), o196, o197, o198, o199, none, none]) (rT2 rInt rInt) (ei_lst (ev_var rfl h203)) _ (fun (s204 : Unit) => []) rfl e233 e231 rfl (by rintro s204 x211 o216 s217 v209 D214 a215 B205 H206 hb213 x207 w208 h210 PY218 PN219 qY220 qN221; replace w208 : Own K B205 M [⟨D214, (cLst (rT2 rInt rInt)), a215⟩] H206 := w208; refine g_name ?_; refine ⟨rfl, ?_⟩; obtain ⟨t228, e229, hb213⟩ := bindS hb213; obtain ⟨rfl, rfl⟩ := Prod.mk.inj (Option.some.inj hb213); refine lc_yes ?_; exact (ev_ix (ev_seqL (ev_var rfl h210)) (ev_neg (ev_int (i := 1))) e229) B205 H206 (Ex.refl _) w208 _ fun v222 B223 H224 x225 w226 h227 => qY220 v222 B223 H224 _ rfl x225 w226 h227)))) fun v9 B9 H9 x9 w9 h9 => k _ _ _ (((x46.trans x193).trans x201).trans x9) w9 h9
noncomputable def m_l_tape (a0 : (List Int)) : Option (List Int) :=
  Option.bind (foldO (S := (List Int)) (α := Int) (fun (s12 : (List Int)) (x13 : Int) => (
    Option.bind (mulI ((2 : Int)) x13) fun t35 =>
    Option.bind (if (decide (t35 < (0 : Int))) = true then
      some (((-(1 : Int)) - t35))
    else
      some t35
    ) fun (s41 : Int) =>
    Option.bind (powI ((10 : Int)) ((18 : Int))) fun t52 =>
    Option.bind (if (decide (s41 ≥ t52)) = true then
      Option.bind (foldO (S := (Int × (List Int))) (α := Int) (fun (s58 : (Int × (List Int))) (x59 : Int) => (
        Option.bind (if (decide (s58.1 > (0 : Int))) = true then
          Option.bind (modI s58.1 ((1000 : Int))) fun t84 =>
          Option.bind (room s58.2.length) fun t86 =>
          Option.bind (divI s58.1 ((1000 : Int))) fun t89 =>
          some ((t89, (s58.2 ++ [t84])))
        else
          some ((s58.1, s58.2))
        ) fun (s81 : (Int × (List Int))) =>
        some ((s81.1, s81.2))
      )) ((s41, s12)) ((rng 0 ((40 : Int))))) fun s99 =>
      some ((s99.1, s99.2))
    else
      Option.bind (foldO (S := (List Int)) (α := Int) (fun (s110 : (List Int)) (x111 : Int) => (
        Option.bind (mulI s41 ((48271 : Int))) fun t131 =>
        Option.bind (mulI x111 ((40503 : Int))) fun t133 =>
        Option.bind (modI (((t131 + t133) + (11 : Int))) ((2147483629 : Int))) fun t135 =>
        Option.bind (mulI t135 ((69621 : Int))) fun t140 =>
        Option.bind (divI t135 ((65536 : Int))) fun t142 =>
        Option.bind (modI ((t140 + t142)) ((2147483629 : Int))) fun t144 =>
        Option.bind (room s110.length) fun t146 =>
        some ((s110 ++ [t144]))
      )) s12 ((rng 0 ((3 : Int))))) fun s149 =>
      some ((s41, s149))
    ) fun (s55 : (Int × (List Int))) =>
    some s55.2
  )) (([] : List Int)) a0) fun s164 =>
  some s164
def C__law_tape : List Arg → List Cell → Arg → List Cell → Prop := fun as L r L' => ∃ a0 c, as = [⟨(rScr rInt), a0⟩] ∧ L = [] ∧ m_l_tape a0 = some c ∧ r = ⟨(rLst rInt), c⟩ ∧ L' = []
theorem sc__law_tape : FnScope ["_law_script", "_law_tape_here", "_law_cell", "_law_number", "_law_k", "_law_first"] ["_law_script"] (defScope s__law_tape) := ⟨rfl, rfl, rfl, by decide +kernel, rfl, by decide +kernel, by decide +kernel⟩
set_option maxHeartbeats 0 in
theorem ok__law_tape (F : FunC K "_law_tape" s__law_tape f fd cc) (z_int : mg "int" = none) (z_range : mg "range" = none) : FnOk P w K mg base CX0 1 f fd ["_law_script"] (spV K T C__law_tape) := by
  refine F.ok sc__law_tape (fun vs H Q E h => ?_) (fun A outer s H vs Q E hr h => ?_)
  · obtain ⟨B, M, L, as, r, L', hT, w, ha, ⟨_, _, rfl, _⟩, k⟩ := h
    exact args_len ha
  · skip
    obtain ⟨B, M, L, as, r, L', rfl, w, ha, ⟨a0, c, rfl, rfl, hm, rfl, rfl⟩, k⟩ := h
    obtain ⟨u0, rfl, f0⟩ := args1 ha
    replace f0 : ((rScr rInt)).is K B u0 a0 := f0
    unfold m_l_tape at hm
    refine ⟨_, (pss_cons (ps_set (i := 1) sc__law_tape.nd rfl (by first | exact Or.inl rfl | exact Or.inr rfl) (pe_lst pa_nil)) (pss_cons (ps_for PassesOwn.never rfl (pi_list (pv 0)) (pg_name (i := 2) sc__law_tape.nd rfl (by first | exact Or.inl rfl | exact Or.inr rfl)) (pss_cons (ps_set (i := 3) sc__law_tape.nd rfl (by first | exact Or.inl rfl | exact Or.inr rfl) (pe_op op_mulX pe_int (pe_callTy call_int1 rfl z_int bt_int (pa_cons (pv 2) pa_nil)))) (Evl.pss_cut (ps_if (pt_cmpR op_lt (pv 3) pe_int (nomark _)) (pss_cons (ps_set (i := 3) sc__law_tape.nd rfl (by first | exact Or.inl rfl | exact Or.inr rfl) (pe_op op_sub (pe_un un_neg pe_int) (pv 3))) pss_nil) pss_nil) (Evl.pss_cut (ps_if (pt_cmpR op_ge (pv 3) (pe_op op_pow pe_int pe_int) (nomark _)) (pss_cons (ps_for PassesOwn.never rfl (pi_range1 rfl z_range (pa_cons pe_int pa_nil)) (pg_name (i := 4) sc__law_tape.nd rfl (by first | exact Or.inl rfl | exact Or.inr rfl)) (Evl.pss_cut (ps_if (pt_cmpR op_gt (pv 3) pe_int (nomark _)) (pss_cons (ps_expr (pe_bm PySem.F.plainAttrs_list PySem.F.slot_list_append PySem.F.type_list_append mt_append (pv 1) (pa_cons (pe_op op_mod (pe_callTy call_int1 rfl z_int bt_int (pa_cons (pv 3) pa_nil)) pe_int) pa_nil))) (pss_cons (ps_set (i := 3) sc__law_tape.nd rfl (by first | exact Or.inl rfl | exact Or.inr rfl) (pe_op op_fdivW (pv 3) pe_int)) pss_nil)) pss_nil) pss_nil)) pss_nil) (pss_cons (ps_for PassesOwn.never rfl (pi_range1 rfl z_range (pa_cons pe_int pa_nil)) (pg_name (i := 4) sc__law_tape.nd rfl (by first | exact Or.inl rfl | exact Or.inr rfl)) (pss_cons (ps_set (i := 5) sc__law_tape.nd rfl (by first | exact Or.inl rfl | exact Or.inr rfl) (pe_op op_mod (pe_callTy call_int1 rfl z_int bt_int (pa_cons (pe_op op_add (pe_op op_add (pe_op op_mulX (pv 3) pe_int) (pe_op op_mulX (pv 4) pe_int)) pe_int) pa_nil)) pe_int)) (pss_cons (ps_expr (pe_bm PySem.F.plainAttrs_list PySem.F.slot_list_append PySem.F.type_list_append mt_append (pv 1) (pa_cons (pe_op op_mod (pe_callTy call_int1 rfl z_int bt_int (pa_cons (pe_op op_add (pe_op op_mulX (pv 5) pe_int) (pe_op op_fdivW (pv 5) pe_int)) pa_nil)) pe_int) pa_nil))) pss_nil))) pss_nil)) pss_nil)))) (pss_cons (ps_ret (pv 1)) pss_nil))), ?_⟩
    rw [show start ["_law_script", "_law_tape_here", "_law_cell", "_law_number", "_law_k", "_law_first"] [u0] = ([some u0, none, none, none, none, none] : L2.St) from rfl]
    refine q_asgL (n := 1) w (el_lst (r := rInt) ([] : List Int) ea_nil) fun p11 B10 H10 x10 (w10 : Own K B10 M [⟨p11, (cLst rInt), ([] : List Int)⟩] H10) => ?_
    obtain ⟨s164, e16, hm⟩ := bindS hm
    refine q_fold w10 (ei_scr (ev_var rfl (((rScr rInt)).mono x10 f0))) _ (fun s12 B17 σ30 => ∃ o31 o32 o33 o34, σ30 = [some u0, some (.ref p11), o31, o32, o33, o34]) (fun s12 => [⟨p11, (cLst rInt), s12⟩]) (([] : List Int)) e16 (fun B9 x9 => ⟨_, _, _, _, rfl⟩) rfl ?_ ?_
    · skip
      rintro s12 x13 s174 v23 B17 B18 H19 σ30 hb14 x20 ⟨o31, o32, o33, o34, rfl⟩ x21 w22 h24 N25 K26 hN27
      replace w22 : Own K B18 M [⟨p11, (cLst rInt), s12⟩] H19 := w22
      refine g_name ?_
      obtain ⟨t35, e36, hb14⟩ := bindS hb14
      refine q_asg (n := 3) w22 (ev_mul (ev_int (i := 2)) (ev_intI (ev_varI rfl h24)) e36) fun v38 B37 H37 x37 (w37 : Own K B37 M [⟨p11, (cLst rInt), s12⟩] H37) h39 => ?_
      obtain ⟨s41, e42, hb14⟩ := bindS hb14
      refine q_cut (fun σ51 H48 => ∃ v49 B48, Ex B37 B48 ∧ Own K B48 M [⟨p11, (cLst rInt), s12⟩] H48 ∧ σ51 = [some u0, some (.ref p11), some v23, some v49, o33, o34] ∧ (rInt).is K B48 v49 s41) ?_ ?_
      · skip
        refine q_ifc w37 (et_test (ev_lt (ev_varI rfl h39) (ev_int (i := 0)))) (fun hb40 B43 H43 x43 (w43 : Own K B43 M [⟨p11, (cLst rInt), s12⟩] H43) => ?_) (fun hb40 B47 H47 x47 (w47 : Own K B47 M [⟨p11, (cLst rInt), s12⟩] H47) => ?_)
        · skip
          rw [if_pos hb40] at e42
          refine q_asg (n := 3) w43 (ev_sub (ev_neg (ev_int (i := 1))) (ev_varI rfl h39)) fun v45 B44 H44 x44 (w44 : Own K B44 M [⟨p11, (cLst rInt), s12⟩] H44) h46 => ?_
          replace e42 : some _ = some _ := e42
          cases e42
          exact ⟨v45, _, (x43.trans x44), w44, rfl, h46⟩
        rw [if_neg (by rw [hb40]; exact Bool.false_ne_true)] at e42
        replace e42 : some _ = some _ := e42
        cases e42
        exact ⟨v38, _, x47, w47, rfl, ((rInt).mono x47 h39)⟩
      rintro σ51' H48 ⟨v49, B48, x48, w48, rfl, h50⟩
      obtain ⟨t52, e53, hb14⟩ := bindS hb14
      obtain ⟨s55, e56, hb14⟩ := bindS hb14
      refine q_cut (fun σ163 H158 => ∃ v159 o161 o162 B158, Ex B48 B158 ∧ Own K B158 M [⟨p11, (cLst rInt), s55.2⟩] H158 ∧ σ163 = [some u0, some (.ref p11), some v23, some v159, o161, o162] ∧ (rInt).is K B158 v159 s55.1) ?_ ?_
      · skip
        refine q_ifc w48 (et_test (ev_ge (ev_varI rfl h50) (ev_pow (ev_int (i := 10)) (ev_int (i := 18)) e53))) (fun hb54 B57 H57 x57 (w57 : Own K B57 M [⟨p11, (cLst rInt), s12⟩] H57) => ?_) (fun hb54 B109 H109 x109 (w109 : Own K B109 M [⟨p11, (cLst rInt), s12⟩] H109) => ?_)
        · skip
          rw [if_pos hb54] at e56
          obtain ⟨s99, e62, e56⟩ := bindS e56
          refine q_fold w57 (ei_rng1 (ea_cons (ev_int (i := 40)) ea_nil) (by decide)) _ (fun s58 B63 σ76 => ∃ v77 o79, σ76 = [some u0, some (.ref p11), some v23, some v77, o79, o34] ∧ (rInt).is K B63 v77 s58.1) (fun s58 => [⟨p11, (cLst rInt), s58.2⟩]) ((s41, s12)) e62 (fun B9 x9 => ⟨v49, _, rfl, ((rInt).mono x9 ((rInt).mono x57 h50))⟩) rfl ?_ ?_
          · skip
            rintro s58 x59 s108 v69 B63 B64 H65 σ76 hb60 x66 ⟨v77, o79, rfl, h78⟩ x67 w68 h70 N71 K72 hN73
            replace w68 : Own K B64 M [⟨p11, (cLst rInt), s58.2⟩] H65 := w68
            refine g_name ?_
            obtain ⟨s81, e82, hb60⟩ := bindS hb60
            refine q_cut (fun σ98 H95 => ∃ v96 B95, Ex B64 B95 ∧ Own K B95 M [⟨p11, (cLst rInt), s81.2⟩] H95 ∧ σ98 = [some u0, some (.ref p11), some v23, some v96, some v69, o34] ∧ (rInt).is K B95 v96 s81.1) ?_ ?_
            · skip
              refine q_ifc w68 (et_test (ev_gt (ev_varI rfl h78) (ev_int (i := 0)))) (fun hb80 B83 H83 x83 (w83 : Own K B83 M [⟨p11, (cLst rInt), s58.2⟩] H83) => ?_) (fun hb80 B94 H94 x94 (w94 : Own K B94 M [⟨p11, (cLst rInt), s58.2⟩] H94) => ?_)
              · skip
                rw [if_pos hb80] at e82
                obtain ⟨t84, e85, e82⟩ := bindS e82
                obtain ⟨t86, e87, e82⟩ := bindS e82
                refine q_app (n := 0) (m := 1) w83 rfl (ev_mod (ev_intI (ev_varI rfl h78)) (ev_int (i := 1000)) e85) rfl ⟨0, _, rfl⟩ e87 fun B88 H88 x88 (w88 : Own K B88 M [⟨p11, (cLst rInt), (s58.2 ++ [t84])⟩] H88) => ?_
                obtain ⟨t89, e90, e82⟩ := bindS e82
                refine q_asg (n := 3) w88 (ev_div (ev_varI rfl h78) (ev_int (i := 1000)) e90) fun v92 B91 H91 x91 (w91 : Own K B91 M [⟨p11, (cLst rInt), (s58.2 ++ [t84])⟩] H91) h93 => ?_
                replace e82 : some _ = some _ := e82
                cases e82
                exact ⟨v92, _, ((x83.trans x88).trans x91), w91, rfl, h93⟩
              rw [if_neg (by rw [hb80]; exact Bool.false_ne_true)] at e82
              replace e82 : some _ = some _ := e82
              cases e82
              exact ⟨v77, _, x94, w94, rfl, ((rInt).mono (x67.trans x94) h78)⟩
            rintro σ98' H95 ⟨v96, B95, x95, w95, rfl, h97⟩
            replace hb60 : some _ = some _ := hb60
            cases hb60
            exact hN73 _ _ _ x95 w95 ⟨v96, _, rfl, h97⟩
          rintro B100 H101 σ104 x102 w103 ⟨v105, o107, rfl, h106⟩
          replace w103 : Own K B100 M [⟨p11, (cLst rInt), s99.2⟩] H101 := w103
          replace e56 : some _ = some _ := e56
          cases e56
          exact ⟨v105, _, _, _, (x57.trans x102), w103, rfl, h106⟩
        rw [if_neg (by rw [hb54]; exact Bool.false_ne_true)] at e56
        obtain ⟨s149, e114, e56⟩ := bindS e56
        refine q_fold w109 (ei_rng1 (ea_cons (ev_int (i := 3)) ea_nil) (by decide)) _ (fun s110 B115 σ128 => ∃ o129 o130, σ128 = [some u0, some (.ref p11), some v23, some v49, o129, o130]) (fun s110 => [⟨p11, (cLst rInt), s110⟩]) s12 e114 (fun B9 x9 => ⟨_, _, rfl⟩) rfl ?_ ?_
        · skip
          rintro s110 x111 s157 v121 B115 B116 H117 σ128 hb112 x118 ⟨o129, o130, rfl⟩ x119 w120 h122 N123 K124 hN125
          replace w120 : Own K B116 M [⟨p11, (cLst rInt), s110⟩] H117 := w120
          refine g_name ?_
          obtain ⟨t131, e132, hb112⟩ := bindS hb112
          obtain ⟨t133, e134, hb112⟩ := bindS hb112
          obtain ⟨t135, e136, hb112⟩ := bindS hb112
          refine q_asg (n := 5) w120 (ev_mod (ev_intI (ev_add (ev_add (ev_mul (ev_varI rfl h50) (ev_int (i := 48271)) e132) (ev_mul (ev_varI rfl h122) (ev_int (i := 40503)) e134)) (ev_int (i := 11)))) (ev_int (i := 2147483629)) e136) fun v138 B137 H137 x137 (w137 : Own K B137 M [⟨p11, (cLst rInt), s110⟩] H137) h139 => ?_
          obtain ⟨t140, e141, hb112⟩ := bindS hb112
          obtain ⟨t142, e143, hb112⟩ := bindS hb112
          obtain ⟨t144, e145, hb112⟩ := bindS hb112
          obtain ⟨t146, e147, hb112⟩ := bindS hb112
          refine q_app (n := 0) (m := 1) w137 rfl (ev_mod (ev_intI (ev_add (ev_mul (ev_varI rfl h139) (ev_int (i := 69621)) e141) (ev_div (ev_varI rfl h139) (ev_int (i := 65536)) e143))) (ev_int (i := 2147483629)) e145) rfl ⟨0, _, rfl⟩ e147 fun B148 H148 x148 (w148 : Own K B148 M [⟨p11, (cLst rInt), (s110 ++ [t144])⟩] H148) => ?_
          replace hb112 : some _ = some _ := hb112
          cases hb112
          exact hN125 _ _ _ (x137.trans x148) w148 ⟨_, _, rfl⟩
        rintro B150 H151 σ154 x152 w153 ⟨o155, o156, rfl⟩
        replace w153 : Own K B150 M [⟨p11, (cLst rInt), s149⟩] H151 := w153
        replace e56 : some _ = some _ := e56
        cases e56
        exact ⟨v49, _, _, _, (x109.trans x152), w153, rfl, ((rInt).mono (x109.trans x152) h50)⟩
      rintro σ163' H158 ⟨v159, o161, o162, B158, x158, w158, rfl, h160⟩
      replace hb14 : some _ = some _ := hb14
      cases hb14
      exact hN27 _ _ _ ((x37.trans x48).trans x158) w158 ⟨_, _, _, _, rfl⟩
    rintro B165 H166 σ169 x167 w168 ⟨o170, o171, o172, o173, rfl⟩
    replace w168 : Own K B165 M [⟨p11, (cLst rInt), s164⟩] H166 := w168
    replace hm : some _ = some _ := hm
    obtain rfl := Option.some.inj hm
    exact q_retC (n := 0) (m := 1) w168 rfl rfl fun v9 B9 x9 w9 h9 => k _ _ _ ((x10.trans x167).trans x9) w9 h9
noncomputable def m_l_draw (a0 : (List Int)) (a1 : Int) (a2 : Int) : Option Int :=
  if (decide (a1 < (a0.length : Int))) = true then
    Option.bind (ixL a0 a1) fun t12 =>
    Option.bind (modI t12 a2) fun t14 =>
    some t14
  else
    Option.bind (if (decide ((a0.length : Int) > (0 : Int))) = true then
      Option.bind (modI a1 ((a0.length : Int))) fun t24 =>
      Option.bind (ixL a0 t24) fun t26 =>
      some t26
    else
      some ((1 : Int))
    ) fun (s21 : Int) =>
    Option.bind (mulI ((s21 + a1)) ((a1 + (3 : Int)))) fun t36 =>
    Option.bind (mulI t36 ((7919 : Int))) fun t38 =>
    Option.bind (mulI a1 ((104729 : Int))) fun t40 =>
    Option.bind (modI ((t38 + t40)) ((65521 : Int))) fun t42 =>
    Option.bind (modI t42 a2) fun t44 =>
    some t44
def C__law_draw : List Arg → List Cell → Arg → List Cell → Prop := fun as L r L' => ∃ a0 a1 a2 c, as = [⟨(rLst rInt), a0⟩, ⟨rInt, a1⟩, ⟨rInt, a2⟩] ∧ L = [] ∧ m_l_draw a0 a1 a2 = some c ∧ r = ⟨rInt, c⟩ ∧ L' = []
theorem sc__law_draw : FnScope ["_law_tape_here", "_law_at", "_law_many", "_law_number"] ["_law_tape_here", "_law_at", "_law_many"] (defScope s__law_draw) := ⟨rfl, rfl, rfl, by decide +kernel, rfl, by decide +kernel, by decide +kernel⟩
set_option maxHeartbeats 0 in
theorem ok__law_draw (F : FunC K "_law_draw" s__law_draw f fd cc) (z_len : mg "len" = none) (z_int : mg "int" = none) : FnOk P w K mg base CX0 1 f fd ["_law_tape_here", "_law_at", "_law_many"] (spV K T C__law_draw) := by
  refine F.ok sc__law_draw (fun vs H Q E h => ?_) (fun A outer s H vs Q E hr h => ?_)
  · obtain ⟨B, M, L, as, r, L', hT, w, ha, ⟨_, _, _, _, rfl, _⟩, k⟩ := h
    exact args_len ha
  · skip
    obtain ⟨B, M, L, as, r, L', rfl, w, ha, ⟨a0, a1, a2, c, rfl, rfl, hm, rfl, rfl⟩, k⟩ := h
    obtain ⟨u0, u1, u2, rfl, f0, f1, f2⟩ := args3 ha
    replace f0 : ((rLst rInt)).is K B u0 a0 := f0
    replace f1 : (rInt).is K B u1 a1 := f1
    replace f2 : (rInt).is K B u2 a2 := f2
    unfold m_l_draw at hm
    refine ⟨_, (pss_cons (ps_if (pt_cmpR op_lt (pv 1) (pe_callB call_len_seq rfl z_len bt_len (pa_cons (pv 0) pa_nil)) (nomark _)) (pss_cons (ps_ret (pe_op op_mod (pe_callTy call_int1 rfl z_int bt_int (pa_cons (pe_ix ix_seq (pv 0) (pv 1) (fun _ _ => rfl)) pa_nil)) (pv 2))) pss_nil) pss_nil) (pss_cons (ps_set (i := 3) sc__law_draw.nd rfl (by first | exact Or.inl rfl | exact Or.inr rfl) pe_int) (Evl.pss_cut (ps_if (pt_cmpR op_gt (pe_callB call_len_seq rfl z_len bt_len (pa_cons (pv 0) pa_nil)) pe_int (nomark _)) (pss_cons (ps_set (i := 3) sc__law_draw.nd rfl (by first | exact Or.inl rfl | exact Or.inr rfl) (pe_ix ix_seq (pv 0) (pe_op op_mod (pe_callTy call_int1 rfl z_int bt_int (pa_cons (pv 1) pa_nil)) (pe_callB call_len_seq rfl z_len bt_len (pa_cons (pv 0) pa_nil))) (fun _ _ => rfl))) pss_nil) pss_nil) (pss_cons (ps_ret (pe_op op_mod (pe_op op_mod (pe_callTy call_int1 rfl z_int bt_int (pa_cons (pe_op op_add (pe_op op_mulX (pe_op op_mulX (pe_op op_add (pv 3) (pv 1)) (pe_op op_add (pv 1) pe_int)) pe_int) (pe_op op_mulX (pv 1) pe_int)) pa_nil)) pe_int) (pv 2))) pss_nil)))), ?_⟩
    rw [show start ["_law_tape_here", "_law_at", "_law_many", "_law_number"] [u0, u1, u2] = ([some u0, some u1, some u2, none] : L2.St) from rfl]
    refine q_if w (et_test (ev_lt (ev_varI rfl f1) (ev_len (ev_seqL (ev_var rfl f0))))) (fun hb10 B11 H11 x11 (w11 : Own K B11 M [] H11) => ?_) (fun hb10 B16 H16 x16 (w16 : Own K B16 M [] H16) => ?_)
    · skip
      rw [if_pos hb10] at hm
      obtain ⟨t12, e13, hm⟩ := bindS hm
      obtain ⟨t14, e15, hm⟩ := bindS hm
      replace hm : some _ = some _ := hm
      obtain rfl := Option.some.inj hm
      exact q_ret w11 (ev_mod (ev_intI (ev_ix (ev_seqL (ev_var rfl (((rLst rInt)).mono x11 f0))) (ev_varI rfl f1) e13)) (ev_varI rfl f2) e15) fun v9 B9 H9 x9 w9 h9 => k _ _ _ (x11.trans x9) w9 h9
    rw [if_neg (by rw [hb10]; exact Bool.false_ne_true)] at hm
    refine q_asg (n := 3) w16 (ev_int (i := 1)) fun v18 B17 H17 x17 (w17 : Own K B17 M [] H17) h19 => ?_
    obtain ⟨s21, e22, hm⟩ := bindS hm
    refine q_cut (fun σ35 H32 => ∃ v33 B32, Ex B17 B32 ∧ Own K B32 M [] H32 ∧ σ35 = [some u0, some u1, some u2, some v33] ∧ (rInt).is K B32 v33 s21) ?_ ?_
    · skip
      refine q_ifc w17 (et_test (ev_gt (ev_len (ev_seqL (ev_var rfl (((rLst rInt)).mono (x16.trans x17) f0)))) (ev_int (i := 0)))) (fun hb20 B23 H23 x23 (w23 : Own K B23 M [] H23) => ?_) (fun hb20 B31 H31 x31 (w31 : Own K B31 M [] H31) => ?_)
      · skip
        rw [if_pos hb20] at e22
        obtain ⟨t24, e25, e22⟩ := bindS e22
        obtain ⟨t26, e27, e22⟩ := bindS e22
        refine q_asg (n := 3) w23 (ev_ix (ev_seqL (ev_var rfl (((rLst rInt)).mono ((x16.trans x17).trans x23) f0))) (ev_mod (ev_intI (ev_varI rfl f1)) (ev_len (ev_seqL (ev_var rfl (((rLst rInt)).mono ((x16.trans x17).trans x23) f0)))) e25) e27) fun v29 B28 H28 x28 (w28 : Own K B28 M [] H28) h30 => ?_
        replace e22 : some _ = some _ := e22
        cases e22
        exact ⟨v29, _, (x23.trans x28), w28, rfl, h30⟩
      rw [if_neg (by rw [hb20]; exact Bool.false_ne_true)] at e22
      replace e22 : some _ = some _ := e22
      cases e22
      exact ⟨v18, _, x31, w31, rfl, ((rInt).mono x31 h19)⟩
    rintro σ35' H32 ⟨v33, B32, x32, w32, rfl, h34⟩
    obtain ⟨t36, e37, hm⟩ := bindS hm
    obtain ⟨t38, e39, hm⟩ := bindS hm
    obtain ⟨t40, e41, hm⟩ := bindS hm
    obtain ⟨t42, e43, hm⟩ := bindS hm
    obtain ⟨t44, e45, hm⟩ := bindS hm
    replace hm : some _ = some _ := hm
    obtain rfl := Option.some.inj hm
    exact q_ret w32 (ev_mod (ev_mod (ev_intI (ev_add (ev_mul (ev_mul (ev_add (ev_varI rfl h34) (ev_varI rfl f1)) (ev_add (ev_varI rfl f1) (ev_int (i := 3))) e37) (ev_int (i := 7919)) e39) (ev_mul (ev_varI rfl f1) (ev_int (i := 104729)) e41))) (ev_int (i := 65521)) e43) (ev_varI rfl f2) e45) fun v9 B9 H9 x9 w9 h9 => k _ _ _ (((x16.trans x17).trans x32).trans x9) w9 h9
noncomputable def m_l_take (a0 : ((List Int) × Int)) (a1 : Int) : Option (Int × ((List Int) × Int)) :=
  Option.bind (m_l_draw (((a0.1, (a0.2 + (1 : Int)))).1) (((a0.1, (a0.2 + (1 : Int)))).2) a1) fun t11 =>
  some (t11, (a0.1, (a0.2 + (1 : Int))))
def C__law_take : List Arg → List Cell → Arg → List Cell → Prop := fun as L r L' => ∃ a0 a1 p0 c, as = [⟨rRef, p0⟩, ⟨rInt, a1⟩] ∧ L = [⟨p0, (cL2 (rLst rInt) rInt), a0⟩] ∧ m_l_take a0 a1 = some c ∧ r = ⟨rInt, c.1⟩ ∧ L' = [⟨p0, (cL2 (rLst rInt) rInt), c.2⟩]
theorem sc__law_take : FnScope ["_law_state", "_law_many"] ["_law_state", "_law_many"] (defScope s__law_take) := ⟨rfl, rfl, rfl, by decide +kernel, rfl, by decide +kernel, by decide +kernel⟩
set_option maxHeartbeats 0 in
theorem ok__law_take (F : FunC K "_law_take" s__law_take f fd cc) (c__law_draw : Cl P w K mg base 1 "_law_draw" (spV K T C__law_draw) []) : FnOk P w K mg base CX0 2 f fd ["_law_state", "_law_many"] (spV K T C__law_take) := by
  refine F.ok sc__law_take (fun vs H Q E h => ?_) (fun A outer s H vs Q E hr h => ?_)
  · obtain ⟨B, M, L, as, r, L', hT, w, ha, ⟨_, _, _, _, rfl, _⟩, k⟩ := h
    exact args_len ha
  · skip
    obtain ⟨B, M, L, as, r, L', rfl, w, ha, ⟨a0, a1, p0, c, rfl, rfl, hm, rfl, rfl⟩, k⟩ := h
    obtain ⟨u0, u1, rfl, f0, f1⟩ := args2 ha
    replace f0 : u0 = V.ref p0 := f0
    subst f0
    replace f1 : (rInt).is K B u1 a1 := f1
    unfold m_l_take at hm
    refine ⟨_, (pss_cons (ps_asg (pe_op op_add (pe_ix ix_seq (pv 0) pe_int (fun _ _ => rfl)) pe_int) (pg_sub (pv 0) pe_int set_list)) (pss_cons (ps_ret (pe_c c__law_draw hr (by omega) rfl (pa_cons (pe_ix ix_seq (pv 0) pe_int (fun _ _ => rfl)) (pa_cons (pe_ix ix_seq (pv 0) pe_int (fun _ _ => rfl)) (pa_cons (pv 1) pa_nil))))) pss_nil)), ?_⟩
    rw [show start ["_law_state", "_law_many"] [.ref p0, u1] = ([some (.ref p0), some u1] : L2.St) from rfl]
    refine q_set1 (n := 0) w (ev_add (ev_l2snd (n := 0) rfl rfl) (ev_int (i := 1))) rfl rfl fun B10 H10 x10 (w10 : Own K B10 M [⟨p0, (cL2 (rLst rInt) rInt), (a0.1, (a0.2 + (1 : Int)))⟩] H10) => ?_
    obtain ⟨t11, e12, hm⟩ := bindS hm
    replace hm : some _ = some _ := hm
    obtain rfl := Option.some.inj hm
    exact q_ret w10 (ev_call (ea_cons (ev_l2fst (n := 0) rfl rfl) (ea_cons (ev_l2snd (n := 0) rfl rfl) (ea_cons (ev_varI rfl f1) ea_nil))) ⟨_, _, _, _, rfl, rfl, e12, rfl, rfl⟩) fun v9 B9 H9 x9 w9 h9 => k _ _ _ (x10.trans x9) w9 h9
noncomputable def F_m_l_equal (rec : PyData → PyData → Option Bool) (a0 : PyData) (a1 : PyData) : Option Bool :=
  if (isNoneD a1) = true then
    some (isNoneD a0)
  else
    if (isBoolD a1) = true then
      Option.bind ((if (isBoolD a0) = true then (Option.bind (eqvD a0 a1) fun t15 => some (t15)) else (some (false)))) fun t17 =>
      some t17
    else
      if (isIntD a1) = true then
        Option.bind ((if (isIntD a0) = true then (Option.bind ((if (!(isBoolD a0)) = true then (Option.bind (eqvD a0 a1) fun t23 => some (t23)) else (some (false)))) fun t25 => some (t25)) else (some (false)))) fun t28 =>
        some t28
      else
        if (isStrD a1) = true then
          Option.bind ((if (isStrD a0) = true then (Option.bind (eqvD a0 a1) fun t34 => some (t34)) else (some (false)))) fun t36 =>
          some t36
        else
          if ((isTupD a1) && (!(isTupD a0))) = true then
            some false
          else
            if ((isLstD a1) && (!(isLstD a0))) = true then
              some false
            else
              Option.bind (lenD a0) fun t46 =>
              Option.bind (lenD a1) fun t48 =>
              if (!decide (t46 = t48)) = true then
                some false
              else
                Option.bind (lenD a1) fun t53 =>
                Option.bind (small62 t53) fun t55 =>
                Option.bind (loopR (S := Unit) (R := Bool) (α := Int) (fun (s57 : Unit) (x58 : Int) => (
                  Option.bind (ixD a0 x58) fun t77 =>
                  Option.bind (ixD a1 x58) fun t79 =>
                  Option.bind (rec t77 t79) fun t81 =>
                  if (!t81) = true then
                    some (Stp.rt false)
                  else
                    some (Stp.nx (()))
                )) (()) ((rng 0 t53))) fun o60 =>
                match o60 with
                | .inl s86 =>
                  some true
                | .inr q9 => some q9
noncomputable def m_l_equal : Nat → PyData → PyData → Option Bool
  | 0 => fun _ _ => none
  | n + 1 => F_m_l_equal (m_l_equal n)
def C__law_equal (n : Nat) : List Arg → List Cell → Arg → List Cell → Prop := fun as L r L' => ∃ a0 a1 c, as = [⟨rDat, a0⟩, ⟨rDat, a1⟩] ∧ L = [] ∧ m_l_equal n a0 a1 = some c ∧ r = ⟨rBool, c⟩ ∧ L' = []
theorem sc__law_equal : FnScope ["_law_actual", "_law_due", "_law_k"] ["_law_actual", "_law_due"] (defScope s__law_equal) := ⟨rfl, rfl, rfl, by decide +kernel, rfl, by decide +kernel, by decide +kernel⟩
set_option maxHeartbeats 0 in
theorem ok__law_equal (F : FunC K "_law_equal" s__law_equal f fd cc) (z_isinstance : mg "isinstance" = none) (z_bool : mg "bool" = none) (z_int : mg "int" = none) (z_str : mg "str" = none) (z_tuple : mg "tuple" = none) (z_list : mg "list" = none) (z_len : mg "len" = none) (z_range : mg "range" = none) (n : Nat) (c__law_equal : Cl P w K mg base (0 + n) "_law_equal" (spV K T (C__law_equal n)) []) : FnOk P w K mg base CX0 (0 + n + 1) f fd ["_law_actual", "_law_due"] (spV K T (C__law_equal (n + 1))) := by
  refine F.ok sc__law_equal (fun vs H Q E h => ?_) (fun A outer s H vs Q E hr h => ?_)
  · obtain ⟨B, M, L, as, r, L', hT, w, ha, ⟨_, _, _, rfl, _⟩, k⟩ := h
    exact args_len ha
  · skip
    obtain ⟨B, M, L, as, r, L', rfl, w, ha, ⟨a0, a1, c, rfl, rfl, hm, rfl, rfl⟩, k⟩ := h
    obtain ⟨u0, u1, rfl, f0, f1⟩ := args2 ha
    replace f0 : (rDat).is K B u0 a0 := f0
    replace f1 : (rDat).is K B u1 a1 := f1
    have hu := room_hu hr
    replace hm : F_m_l_equal (m_l_equal n) a0 a1 = some c := hm
    unfold F_m_l_equal at hm
    refine ⟨_, (pss_cons (ps_if (pt_cmp (pc_isN (pv 1))) (pss_cons (ps_ret (pe_cmp (pc_isN (pv 0)))) pss_nil) pss_nil) (pss_cons (ps_if (pt_val (pe_callB call_isi rfl z_isinstance bt_isinstance (pa_cons (pv 1) (pa_cons (pe_bltn (v := .ty "bool") rfl z_bool bt_bool rfl) pa_nil)))) (pss_cons (ps_ret (pe_and (pe_callB call_isi rfl z_isinstance bt_isinstance (pa_cons (pv 0) (pa_cons (pe_bltn (v := .ty "bool") rfl z_bool bt_bool rfl) pa_nil))) (pe_one (pe_cmpR (op_eqD hu) (pv 0) (pv 1) (nomark _))))) pss_nil) pss_nil) (pss_cons (ps_if (pt_val (pe_callB call_isi rfl z_isinstance bt_isinstance (pa_cons (pv 1) (pa_cons (pe_bltn (v := .ty "int") rfl z_int bt_int rfl) pa_nil)))) (pss_cons (ps_ret (pe_and (pe_callB call_isi rfl z_isinstance bt_isinstance (pa_cons (pv 0) (pa_cons (pe_bltn (v := .ty "int") rfl z_int bt_int rfl) pa_nil))) (pe_and (pe_not (pe_callB call_isi rfl z_isinstance bt_isinstance (pa_cons (pv 0) (pa_cons (pe_bltn (v := .ty "bool") rfl z_bool bt_bool rfl) pa_nil)))) (pe_one (pe_cmpR (op_eqD hu) (pv 0) (pv 1) (nomark _)))))) pss_nil) pss_nil) (pss_cons (ps_if (pt_val (pe_callB call_isi rfl z_isinstance bt_isinstance (pa_cons (pv 1) (pa_cons (pe_bltn (v := .ty "str") rfl z_str bt_str rfl) pa_nil)))) (pss_cons (ps_ret (pe_and (pe_callB call_isi rfl z_isinstance bt_isinstance (pa_cons (pv 0) (pa_cons (pe_bltn (v := .ty "str") rfl z_str bt_str rfl) pa_nil))) (pe_one (pe_cmpR (op_eqD hu) (pv 0) (pv 1) (nomark _))))) pss_nil) pss_nil) (pss_cons (ps_if (PW.pt (pw_and (pt_val (pe_callB call_isi rfl z_isinstance bt_isinstance (pa_cons (pv 1) (pa_cons (pe_bltn (v := .ty "tuple") rfl z_tuple bt_tuple rfl) pa_nil)))) (pw_and1 (pt_not (pt_val (pe_callB call_isi rfl z_isinstance bt_isinstance (pa_cons (pv 0) (pa_cons (pe_bltn (v := .ty "tuple") rfl z_tuple bt_tuple rfl) pa_nil)))))))) (pss_cons (ps_ret pe_bl) pss_nil) pss_nil) (pss_cons (ps_if (PW.pt (pw_and (pt_val (pe_callB call_isi rfl z_isinstance bt_isinstance (pa_cons (pv 1) (pa_cons (pe_bltn (v := .ty "list") rfl z_list bt_list rfl) pa_nil)))) (pw_and1 (pt_not (pt_val (pe_callB call_isi rfl z_isinstance bt_isinstance (pa_cons (pv 0) (pa_cons (pe_bltn (v := .ty "list") rfl z_list bt_list rfl) pa_nil)))))))) (pss_cons (ps_ret pe_bl) pss_nil) pss_nil) (pss_cons (ps_if (pt_cmpR op_ne (pe_callB call_len_seq rfl z_len bt_len (pa_cons (pv 0) pa_nil)) (pe_callB call_len_seq rfl z_len bt_len (pa_cons (pv 1) pa_nil)) (nomark _)) (pss_cons (ps_ret pe_bl) pss_nil) pss_nil) (pss_cons (ps_for PassesOwn.never rfl (pi_range1 rfl z_range (pa_cons (pe_callB call_len_seq rfl z_len bt_len (pa_cons (pv 1) pa_nil)) pa_nil)) (pg_name (i := 2) sc__law_equal.nd rfl (by first | exact Or.inl rfl | exact Or.inr rfl)) (pss_cons (ps_if (pt_not (pt_val (pe_c c__law_equal hr (by omega) rfl (pa_cons (pe_ix ix_seq (pv 0) (pv 2) (fun _ _ => rfl)) (pa_cons (pe_ix ix_seq (pv 1) (pv 2) (fun _ _ => rfl)) pa_nil))))) (pss_cons (ps_ret pe_bl) pss_nil) pss_nil) pss_nil)) (pss_cons (ps_ret pe_bl) pss_nil))))))))), ?_⟩
    rw [show start ["_law_actual", "_law_due", "_law_k"] [u0, u1] = ([some u0, some u1, none] : L2.St) from rfl]
    refine q_if w (et_B (ev_isND (ev_var rfl f1))) (fun hb10 B11 H11 x11 (w11 : Own K B11 M [] H11) => ?_) (fun hb10 B12 H12 x12 (w12 : Own K B12 M [] H12) => ?_)
    · skip
      rw [if_pos hb10] at hm
      replace hm : some _ = some _ := hm
      obtain rfl := Option.some.inj hm
      exact q_ret w11 (ev_isND (ev_var rfl ((rDat).mono x11 f0))) fun v9 B9 H9 x9 w9 h9 => k _ _ _ (x11.trans x9) w9 h9
    rw [if_neg (by rw [hb10]; exact Bool.false_ne_true)] at hm
    refine q_if w12 (et_B (ev_isi "bool" isBoolD isi_bool (ev_var rfl ((rDat).mono x12 f1)))) (fun hb13 B14 H14 x14 (w14 : Own K B14 M [] H14) => ?_) (fun hb13 B20 H20 x20 (w20 : Own K B20 M [] H20) => ?_)
    · skip
      rw [if_pos hb13] at hm
      obtain ⟨t17, e18, hm⟩ := bindS hm
      replace hm : some _ = some _ := hm
      obtain rfl := Option.some.inj hm
      exact q_ret w14 (ev_andV (d := t17) (ev_isi "bool" isBoolD isi_bool (ev_var rfl ((rDat).mono (x12.trans x14) f0))) (fun hb19 => by rw [if_pos hb19] at e18; obtain ⟨t15, e16, e18⟩ := bindS e18; obtain rfl := Option.some.inj e18; exact (ev_eqvD (ev_var rfl ((rDat).mono (x12.trans x14) f0)) (ev_var rfl ((rDat).mono (x12.trans x14) f1)) e16)) (fun hb19 => by rw [if_neg (by rw [hb19]; exact Bool.false_ne_true)] at e18; obtain rfl := Option.some.inj e18; exact ⟨rfl, rfl⟩)) fun v9 B9 H9 x9 w9 h9 => k _ _ _ ((x12.trans x14).trans x9) w9 h9
    rw [if_neg (by rw [hb13]; exact Bool.false_ne_true)] at hm
    refine q_if w20 (et_B (ev_isi "int" isIntD isi_int (ev_var rfl ((rDat).mono (x12.trans x20) f1)))) (fun hb21 B22 H22 x22 (w22 : Own K B22 M [] H22) => ?_) (fun hb21 B31 H31 x31 (w31 : Own K B31 M [] H31) => ?_)
    · skip
      rw [if_pos hb21] at hm
      obtain ⟨t28, e29, hm⟩ := bindS hm
      replace hm : some _ = some _ := hm
      obtain rfl := Option.some.inj hm
      exact q_ret w22 (ev_andV (d := t28) (ev_isi "int" isIntD isi_int (ev_var rfl ((rDat).mono ((x12.trans x20).trans x22) f0))) (fun hb30 => by rw [if_pos hb30] at e29; obtain ⟨t25, e26, e29⟩ := bindS e29; obtain rfl := Option.some.inj e29; exact (ev_andV (d := t25) (ev_notV (ev_isi "bool" isBoolD isi_bool (ev_var rfl ((rDat).mono ((x12.trans x20).trans x22) f0)))) (fun hb27 => by rw [if_pos hb27] at e26; obtain ⟨t23, e24, e26⟩ := bindS e26; obtain rfl := Option.some.inj e26; exact (ev_eqvD (ev_var rfl ((rDat).mono ((x12.trans x20).trans x22) f0)) (ev_var rfl ((rDat).mono ((x12.trans x20).trans x22) f1)) e24)) (fun hb27 => by rw [if_neg (by rw [hb27]; exact Bool.false_ne_true)] at e26; obtain rfl := Option.some.inj e26; exact ⟨rfl, rfl⟩))) (fun hb30 => by rw [if_neg (by rw [hb30]; exact Bool.false_ne_true)] at e29; obtain rfl := Option.some.inj e29; exact ⟨rfl, rfl⟩)) fun v9 B9 H9 x9 w9 h9 => k _ _ _ (((x12.trans x20).trans x22).trans x9) w9 h9
    rw [if_neg (by rw [hb21]; exact Bool.false_ne_true)] at hm
    refine q_if w31 (et_B (ev_isi "str" isStrD isi_str (ev_var rfl ((rDat).mono ((x12.trans x20).trans x31) f1)))) (fun hb32 B33 H33 x33 (w33 : Own K B33 M [] H33) => ?_) (fun hb32 B39 H39 x39 (w39 : Own K B39 M [] H39) => ?_)
    · skip
      rw [if_pos hb32] at hm
      obtain ⟨t36, e37, hm⟩ := bindS hm
      replace hm : some _ = some _ := hm
      obtain rfl := Option.some.inj hm
      exact q_ret w33 (ev_andV (d := t36) (ev_isi "str" isStrD isi_str (ev_var rfl ((rDat).mono (((x12.trans x20).trans x31).trans x33) f0))) (fun hb38 => by rw [if_pos hb38] at e37; obtain ⟨t34, e35, e37⟩ := bindS e37; obtain rfl := Option.some.inj e37; exact (ev_eqvD (ev_var rfl ((rDat).mono (((x12.trans x20).trans x31).trans x33) f0)) (ev_var rfl ((rDat).mono (((x12.trans x20).trans x31).trans x33) f1)) e35)) (fun hb38 => by rw [if_neg (by rw [hb38]; exact Bool.false_ne_true)] at e37; obtain rfl := Option.some.inj e37; exact ⟨rfl, rfl⟩)) fun v9 B9 H9 x9 w9 h9 => k _ _ _ ((((x12.trans x20).trans x31).trans x33).trans x9) w9 h9
    rw [if_neg (by rw [hb32]; exact Bool.false_ne_true)] at hm
    refine q_if w39 (et_and (et_B (ev_isi "tuple" isTupD isi_tuple (ev_var rfl ((rDat).mono (((x12.trans x20).trans x31).trans x39) f1)))) fun _ => (et_not (et_B (ev_isi "tuple" isTupD isi_tuple (ev_var rfl ((rDat).mono (((x12.trans x20).trans x31).trans x39) f0)))))) (fun hb40 B41 H41 x41 (w41 : Own K B41 M [] H41) => ?_) (fun hb40 B42 H42 x42 (w42 : Own K B42 M [] H42) => ?_)
    · skip
      rw [if_pos hb40] at hm
      replace hm : some _ = some _ := hm
      obtain rfl := Option.some.inj hm
      exact q_ret w41 (ev_bl (b := false)) fun v9 B9 H9 x9 w9 h9 => k _ _ _ (((((x12.trans x20).trans x31).trans x39).trans x41).trans x9) w9 h9
    rw [if_neg (by rw [hb40]; exact Bool.false_ne_true)] at hm
    refine q_if w42 (et_and (et_B (ev_isi "list" isLstD isi_list (ev_var rfl ((rDat).mono ((((x12.trans x20).trans x31).trans x39).trans x42) f1)))) fun _ => (et_not (et_B (ev_isi "list" isLstD isi_list (ev_var rfl ((rDat).mono ((((x12.trans x20).trans x31).trans x39).trans x42) f0)))))) (fun hb43 B44 H44 x44 (w44 : Own K B44 M [] H44) => ?_) (fun hb43 B45 H45 x45 (w45 : Own K B45 M [] H45) => ?_)
    · skip
      rw [if_pos hb43] at hm
      replace hm : some _ = some _ := hm
      obtain rfl := Option.some.inj hm
      exact q_ret w44 (ev_bl (b := false)) fun v9 B9 H9 x9 w9 h9 => k _ _ _ ((((((x12.trans x20).trans x31).trans x39).trans x42).trans x44).trans x9) w9 h9
    rw [if_neg (by rw [hb43]; exact Bool.false_ne_true)] at hm
    obtain ⟨t46, e47, hm⟩ := bindS hm
    obtain ⟨t48, e49, hm⟩ := bindS hm
    refine q_if w45 (et_test (ev_neI (ev_lenD (ev_var rfl ((rDat).mono (((((x12.trans x20).trans x31).trans x39).trans x42).trans x45) f0)) e47) (ev_lenD (ev_var rfl ((rDat).mono (((((x12.trans x20).trans x31).trans x39).trans x42).trans x45) f1)) e49))) (fun hb50 B51 H51 x51 (w51 : Own K B51 M [] H51) => ?_) (fun hb50 B52 H52 x52 (w52 : Own K B52 M [] H52) => ?_)
    · skip
      rw [if_pos hb50] at hm
      replace hm : some _ = some _ := hm
      obtain rfl := Option.some.inj hm
      exact q_ret w51 (ev_bl (b := false)) fun v9 B9 H9 x9 w9 h9 => k _ _ _ (((((((x12.trans x20).trans x31).trans x39).trans x42).trans x45).trans x51).trans x9) w9 h9
    rw [if_neg (by rw [hb50]; exact Bool.false_ne_true)] at hm
    obtain ⟨t53, e54, hm⟩ := bindS hm
    obtain ⟨t55, e56, hm⟩ := bindS hm
    obtain ⟨o60, e61, hm⟩ := bindS hm
    refine q_forR w52 (ei_rng1 (ea_cons (ev_lenD (ev_var rfl ((rDat).mono ((((((x12.trans x20).trans x31).trans x39).trans x42).trans x45).trans x52) f1)) e54) ea_nil) e56) _ (fun s57 B62 σ75 => ∃ o76, σ75 = [some u0, some u1, o76]) (fun s57 => []) (()) e61 (fun B9 x9 => ⟨_, rfl⟩) rfl ?_ ?_
    · skip
      rintro s57 x58 s93 v68 B62 B63 H64 σ75 hb59 x65 ⟨o76, rfl⟩ x66 w67 h69 ho74 N70 K71 hN72 hB73
      replace w67 : Own K B63 M [] H64 := w67
      refine g_name ?_
      obtain ⟨t77, e78, hb59⟩ := bindS hb59
      obtain ⟨t79, e80, hb59⟩ := bindS hb59
      obtain ⟨t81, e82, hb59⟩ := bindS hb59
      refine q_if w67 (et_not (et_B (ev_call (ea_cons (ev_ixD (ev_var rfl ((rDat).mono ((((((((x12.trans x20).trans x31).trans x39).trans x42).trans x45).trans x52).trans x65).trans x66) f0)) (ev_varI rfl h69) e78) (ea_cons (ev_ixD (ev_var rfl ((rDat).mono ((((((((x12.trans x20).trans x31).trans x39).trans x42).trans x45).trans x52).trans x65).trans x66) f1)) (ev_varI rfl h69) e80) ea_nil)) ⟨_, _, _, rfl, rfl, e82, rfl, rfl⟩))) (fun hb83 B84 H84 x84 (w84 : Own K B84 M [] H84) => ?_) (fun hb83 B85 H85 x85 (w85 : Own K B85 M [] H85) => ?_)
      · skip
        rw [if_pos hb83] at hb59
        replace hb59 : some _ = some _ := hb59
        obtain rfl := Option.some.inj hb59
        obtain rfl := ho74 _ rfl
        replace hm : some _ = some _ := hm
        obtain rfl := Option.some.inj hm
        exact q_ret w84 (ev_bl (b := false)) fun v9 B9 H9 x9 w9 h9 => k _ _ _ ((((((((((x12.trans x20).trans x31).trans x39).trans x42).trans x45).trans x52).trans x65).trans x66).trans x84).trans x9) w9 h9
      rw [if_neg (by rw [hb83]; exact Bool.false_ne_true)] at hb59
      replace hb59 : some _ = some _ := hb59
      cases hb59
      exact hN72 _ _ _ _ rfl x85 w85 ⟨_, rfl⟩
    rintro s86 B87 H88 σ91 rfl x89 w90 ⟨o92, rfl⟩
    dsimp only at hm
    replace w90 : Own K B87 M [] H88 := w90
    replace hm : some _ = some _ := hm
    obtain rfl := Option.some.inj hm
    exact q_ret w90 (ev_bl (b := true)) fun v9 B9 H9 x9 w9 h9 => k _ _ _ ((((((((x12.trans x20).trans x31).trans x39).trans x42).trans x45).trans x52).trans x89).trans x9) w9 h9
theorem all__law_equal (F : FunC K "_law_equal" s__law_equal f fd cc) (z_isinstance : mg "isinstance" = none) (z_bool : mg "bool" = none) (z_int : mg "int" = none) (z_str : mg "str" = none) (z_tuple : mg "tuple" = none) (z_list : mg "list" = none) (z_len : mg "len" = none) (z_range : mg "range" = none) (mf : mg "_law_equal" = some (.ref f)) (kp : PySem.W.keepIn K (.ref f) = true) (bf : Binds K fd ["_law_actual", "_law_due"] []) : ∀ n, FnOk P w K mg base CX0 (0 + n) f fd ["_law_actual", "_law_due"] (spV K T (C__law_equal n))
  | 0 => fn_none fun _ _ _ _ ⟨_, _, _, _, _, h, _⟩ => (by cases h)
  | n + 1 => ok__law_equal F z_isinstance z_bool z_int z_str z_tuple z_list z_len z_range n ⟨f, fd, ["_law_actual", "_law_due"], [], all__law_equal F z_isinstance z_bool z_int z_str z_tuple z_list z_len z_range mf kp bf n, mf, kp, bf, .nil⟩
noncomputable def m_l_ratio (a0 : Int) (a1 : Int) : Option (Int × Int) :=
  Option.bind (if (decide (a1 < (0 : Int))) = true then
    some ((((0 : Int) - a0), ((0 : Int) - a1)))
  else
    some ((a0, a1))
  ) fun (s11 : (Int × Int)) =>
  Option.bind (loopB (S := (Int × Int)) (α := Int) (fun (s33 : (Int × Int)) (x34 : Int) => (
    if (decide (s33.2 = (0 : Int))) = true then
      some (Stp.bk ((s33.1, s33.2)))
    else
      Option.bind (modI s33.1 s33.2) fun t61 =>
      some (Stp.nx ((s33.2, t61)))
  )) ((s11.2, (absI s11.1))) ((rng 0 ((2000 : Int))))) fun s72 =>
  Option.bind (divI s11.1 s72.1) fun t84 =>
  Option.bind (divI s11.2 s72.1) fun t86 =>
  some (t84, t86)
def C__law_ratio : List Arg → List Cell → Arg → List Cell → Prop := fun as L r L' => ∃ a0 a1 c, as = [⟨rInt, a0⟩, ⟨rInt, a1⟩] ∧ L = [] ∧ m_l_ratio a0 a1 = some c ∧ r = ⟨(rT2 rInt rInt), c⟩ ∧ L' = []
theorem sc__law_ratio : FnScope ["_law_n", "_law_d", "_law_a", "_law_b", "_law_k", "_law_rest"] ["_law_n", "_law_d"] (defScope s__law_ratio) := ⟨rfl, rfl, rfl, by decide +kernel, rfl, by decide +kernel, by decide +kernel⟩
set_option maxHeartbeats 0 in
theorem ok__law_ratio (F : FunC K "_law_ratio" s__law_ratio f fd cc) (z_abs : mg "abs" = none) (z_range : mg "range" = none) (z_int : mg "int" = none) : FnOk P w K mg base CX0 1 f fd ["_law_n", "_law_d"] (spV K T C__law_ratio) := by
  refine F.ok sc__law_ratio (fun vs H Q E h => ?_) (fun A outer s H vs Q E hr h => ?_)
  · obtain ⟨B, M, L, as, r, L', hT, w, ha, ⟨_, _, _, rfl, _⟩, k⟩ := h
    exact args_len ha
  · skip
    obtain ⟨B, M, L, as, r, L', rfl, w, ha, ⟨a0, a1, c, rfl, rfl, hm, rfl, rfl⟩, k⟩ := h
    obtain ⟨u0, u1, rfl, f0, f1⟩ := args2 ha
    replace f0 : (rInt).is K B u0 a0 := f0
    replace f1 : (rInt).is K B u1 a1 := f1
    unfold m_l_ratio at hm
    refine ⟨_, (Evl.pss_cut (ps_if (pt_cmpR op_lt (pv 1) pe_int (nomark _)) (pss_cons (ps_set (i := 0) sc__law_ratio.nd rfl (by first | exact Or.inl rfl | exact Or.inr rfl) (pe_op op_sub pe_int (pv 0))) (pss_cons (ps_set (i := 1) sc__law_ratio.nd rfl (by first | exact Or.inl rfl | exact Or.inr rfl) (pe_op op_sub pe_int (pv 1))) pss_nil)) pss_nil) (pss_cons (ps_set (i := 2) sc__law_ratio.nd rfl (by first | exact Or.inl rfl | exact Or.inr rfl) (pe_callB call_abs rfl z_abs bt_abs (pa_cons (pv 0) pa_nil))) (pss_cons (ps_set (i := 3) sc__law_ratio.nd rfl (by first | exact Or.inl rfl | exact Or.inr rfl) (pv 1)) (pss_cons (ps_for PassesOwn.never rfl (pi_range1 rfl z_range (pa_cons pe_int pa_nil)) (pg_name (i := 4) sc__law_ratio.nd rfl (by first | exact Or.inl rfl | exact Or.inr rfl)) (pss_cons (ps_if (pt_cmpR op_eq (pv 2) pe_int (nomark _)) (pss_cons ps_break pss_nil) pss_nil) (pss_cons (ps_set (i := 5) sc__law_ratio.nd rfl (by first | exact Or.inl rfl | exact Or.inr rfl) (pe_op op_mod (pe_callTy call_int1 rfl z_int bt_int (pa_cons (pv 3) pa_nil)) (pv 2))) (pss_cons (ps_set (i := 3) sc__law_ratio.nd rfl (by first | exact Or.inl rfl | exact Or.inr rfl) (pv 2)) (pss_cons (ps_set (i := 2) sc__law_ratio.nd rfl (by first | exact Or.inl rfl | exact Or.inr rfl) (pv 5)) pss_nil))))) (pss_cons (ps_ret (pe_tup (pa_cons (pe_op op_fdivW (pv 0) (pv 3)) (pa_cons (pe_op op_fdivW (pv 1) (pv 3)) pa_nil)))) pss_nil))))), ?_⟩
    rw [show start ["_law_n", "_law_d", "_law_a", "_law_b", "_law_k", "_law_rest"] [u0, u1] = ([some u0, some u1, none, none, none, none] : L2.St) from rfl]
    obtain ⟨s11, e12, hm⟩ := bindS hm
    refine q_cut (fun σ26 H21 => ∃ v22 v24 B21, Ex B B21 ∧ Own K B21 M [] H21 ∧ σ26 = [some v22, some v24, none, none, none, none] ∧ (rInt).is K B21 v22 s11.1 ∧ (rInt).is K B21 v24 s11.2) ?_ ?_
    · skip
      refine q_ifc w (et_test (ev_lt (ev_varI rfl f1) (ev_int (i := 0)))) (fun hb10 B13 H13 x13 (w13 : Own K B13 M [] H13) => ?_) (fun hb10 B20 H20 x20 (w20 : Own K B20 M [] H20) => ?_)
      · skip
        rw [if_pos hb10] at e12
        refine q_asg (n := 0) w13 (ev_sub (ev_int (i := 0)) (ev_varI rfl f0)) fun v15 B14 H14 x14 (w14 : Own K B14 M [] H14) h16 => ?_
        refine q_asg (n := 1) w14 (ev_sub (ev_int (i := 0)) (ev_varI rfl f1)) fun v18 B17 H17 x17 (w17 : Own K B17 M [] H17) h19 => ?_
        replace e12 : some _ = some _ := e12
        cases e12
        exact ⟨v15, v18, _, ((x13.trans x14).trans x17), w17, rfl, ((rInt).mono x17 h16), h19⟩
      rw [if_neg (by rw [hb10]; exact Bool.false_ne_true)] at e12
      replace e12 : some _ = some _ := e12
      cases e12
      exact ⟨u0, u1, _, x20, w20, rfl, ((rInt).mono x20 f0), ((rInt).mono x20 f1)⟩
    rintro σ26' H21 ⟨v22, v24, B21, x21, w21, rfl, h23, h25⟩
    refine q_asg (n := 2) w21 (ev_abs (ev_varI rfl h23)) fun v28 B27 H27 x27 (w27 : Own K B27 M [] H27) h29 => ?_
    refine q_asg (n := 3) w27 (ev_varI rfl h25) fun v31 B30 H30 x30 (w30 : Own K B30 M [] H30) h32 => ?_
    obtain ⟨s72, e37, hm⟩ := bindS hm
    refine q_forB w30 (ei_rng1 (ea_cons (ev_int (i := 2000)) ea_nil) (by decide)) _ (fun s33 B38 σ51 => ∃ v52 v54 o56 o57, σ51 = [some v22, some v24, some v54, some v52, o56, o57] ∧ (rInt).is K B38 v52 s33.1 ∧ (rInt).is K B38 v54 s33.2) (fun s33 => []) ((s11.2, (absI s11.1))) e37 (fun B9 x9 => ⟨v31, v28, _, _, rfl, ((rInt).mono x9 h32), ((rInt).mono x9 ((rInt).mono x30 h29))⟩) rfl ?_ ?_
    · skip
      rintro s33 x34 s88 v44 B38 B39 H40 σ51 hb35 x41 ⟨v52, v54, o56, o57, rfl, h53, h55⟩ x42 w43 h45 N46 K47 hN48 hB49
      replace w43 : Own K B39 M [] H40 := w43
      refine g_name ?_
      refine q_if w43 (et_test (ev_eqI (ev_varI rfl h55) (ev_int (i := 0)))) (fun hb58 B59 H59 x59 (w59 : Own K B59 M [] H59) => ?_) (fun hb58 B60 H60 x60 (w60 : Own K B60 M [] H60) => ?_)
      · skip
        rw [if_pos hb58] at hb35
        replace hb35 : some _ = some _ := hb35
        cases hb35
        exact hB49 _ _ _ _ rfl x59 w59 ⟨v52, v54, _, _, rfl, ((rInt).mono (x42.trans x59) h53), ((rInt).mono (x42.trans x59) h55)⟩
      rw [if_neg (by rw [hb58]; exact Bool.false_ne_true)] at hb35
      obtain ⟨t61, e62, hb35⟩ := bindS hb35
      refine q_asg (n := 5) w60 (ev_mod (ev_intI (ev_varI rfl h53)) (ev_varI rfl h55) e62) fun v64 B63 H63 x63 (w63 : Own K B63 M [] H63) h65 => ?_
      refine q_asg (n := 3) w63 (ev_varI rfl h55) fun v67 B66 H66 x66 (w66 : Own K B66 M [] H66) h68 => ?_
      refine q_asg (n := 2) w66 (ev_varI rfl h65) fun v70 B69 H69 x69 (w69 : Own K B69 M [] H69) h71 => ?_
      replace hb35 : some _ = some _ := hb35
      cases hb35
      exact hN48 _ _ _ _ rfl (((x60.trans x63).trans x66).trans x69) w69 ⟨v67, v70, _, _, rfl, ((rInt).mono x69 h68), h71⟩
    rintro B73 H74 σ77 x75 w76 ⟨v78, v80, o82, o83, rfl, h79, h81⟩
    replace w76 : Own K B73 M [] H74 := w76
    obtain ⟨t84, e85, hm⟩ := bindS hm
    obtain ⟨t86, e87, hm⟩ := bindS hm
    replace hm : some _ = some _ := hm
    obtain rfl := Option.some.inj hm
    exact q_ret w76 (ev_T2 (ea_cons (ev_div (ev_varI rfl h23) (ev_varI rfl h79) e85) (ea_cons (ev_div (ev_varI rfl h25) (ev_varI rfl h79) e87) ea_nil))) fun v9 B9 H9 x9 w9 h9 => k _ _ _ ((((x21.trans x27).trans x30).trans x75).trans x9) w9 h9
noncomputable def m_l_plus (a0 : (Int × Int)) (a1 : (Int × Int)) : Option (Int × Int) :=
  Option.bind (mulI a0.1 a1.2) fun t10 =>
  Option.bind (mulI a1.1 a0.2) fun t12 =>
  Option.bind (mulI a0.2 a1.2) fun t14 =>
  Option.bind (m_l_ratio ((t10 + t12)) t14) fun t16 =>
  some t16
def C__law_plus : List Arg → List Cell → Arg → List Cell → Prop := fun as L r L' => ∃ a0 a1 c, as = [⟨(rT2 rInt rInt), a0⟩, ⟨(rT2 rInt rInt), a1⟩] ∧ L = [] ∧ m_l_plus a0 a1 = some c ∧ r = ⟨(rT2 rInt rInt), c⟩ ∧ L' = []
theorem sc__law_plus : FnScope ["_law_a", "_law_b"] ["_law_a", "_law_b"] (defScope s__law_plus) := ⟨rfl, rfl, rfl, by decide +kernel, rfl, by decide +kernel, by decide +kernel⟩
set_option maxHeartbeats 0 in
theorem ok__law_plus (F : FunC K "_law_plus" s__law_plus f fd cc) (c__law_ratio : Cl P w K mg base 1 "_law_ratio" (spV K T C__law_ratio) []) : FnOk P w K mg base CX0 2 f fd ["_law_a", "_law_b"] (spV K T C__law_plus) := by
  refine F.ok sc__law_plus (fun vs H Q E h => ?_) (fun A outer s H vs Q E hr h => ?_)
  · obtain ⟨B, M, L, as, r, L', hT, w, ha, ⟨_, _, _, rfl, _⟩, k⟩ := h
    exact args_len ha
  · skip
    obtain ⟨B, M, L, as, r, L', rfl, w, ha, ⟨a0, a1, c, rfl, rfl, hm, rfl, rfl⟩, k⟩ := h
    obtain ⟨u0, u1, rfl, f0, f1⟩ := args2 ha
    replace f0 : ((rT2 rInt rInt)).is K B u0 a0 := f0
    replace f1 : ((rT2 rInt rInt)).is K B u1 a1 := f1
    unfold m_l_plus at hm
    refine ⟨_, (pss_cons (ps_ret (pe_c c__law_ratio hr (by omega) rfl (pa_cons (pe_op op_add (pe_op op_mulX (pe_ix ix_seq (pv 0) pe_int (fun _ _ => rfl)) (pe_ix ix_seq (pv 1) pe_int (fun _ _ => rfl))) (pe_op op_mulX (pe_ix ix_seq (pv 1) pe_int (fun _ _ => rfl)) (pe_ix ix_seq (pv 0) pe_int (fun _ _ => rfl)))) (pa_cons (pe_op op_mulX (pe_ix ix_seq (pv 0) pe_int (fun _ _ => rfl)) (pe_ix ix_seq (pv 1) pe_int (fun _ _ => rfl))) pa_nil)))) pss_nil), ?_⟩
    rw [show start ["_law_a", "_law_b"] [u0, u1] = ([some u0, some u1] : L2.St) from rfl]
    obtain ⟨t10, e11, hm⟩ := bindS hm
    obtain ⟨t12, e13, hm⟩ := bindS hm
    obtain ⟨t14, e15, hm⟩ := bindS hm
    obtain ⟨t16, e17, hm⟩ := bindS hm
    replace hm : some _ = some _ := hm
    obtain rfl := Option.some.inj hm
    exact q_ret w (ev_call (ea_cons (ev_add (ev_mul (ev_fst (ev_var rfl f0)) (ev_snd (ev_var rfl f1)) e11) (ev_mul (ev_fst (ev_var rfl f1)) (ev_snd (ev_var rfl f0)) e13)) (ea_cons (ev_mul (ev_snd (ev_var rfl f0)) (ev_snd (ev_var rfl f1)) e15) ea_nil)) ⟨_, _, _, rfl, rfl, e17, rfl, rfl⟩) fun v9 B9 H9 x9 w9 h9 => k _ _ _ ((Ex.refl _).trans x9) w9 h9
noncomputable def m_l_times (a0 : (Int × Int)) (a1 : (Int × Int)) : Option (Int × Int) :=
  Option.bind (mulI a0.1 a1.1) fun t10 =>
  Option.bind (mulI a0.2 a1.2) fun t12 =>
  Option.bind (m_l_ratio t10 t12) fun t14 =>
  some t14
def C__law_times : List Arg → List Cell → Arg → List Cell → Prop := fun as L r L' => ∃ a0 a1 c, as = [⟨(rT2 rInt rInt), a0⟩, ⟨(rT2 rInt rInt), a1⟩] ∧ L = [] ∧ m_l_times a0 a1 = some c ∧ r = ⟨(rT2 rInt rInt), c⟩ ∧ L' = []
theorem sc__law_times : FnScope ["_law_a", "_law_b"] ["_law_a", "_law_b"] (defScope s__law_times) := ⟨rfl, rfl, rfl, by decide +kernel, rfl, by decide +kernel, by decide +kernel⟩
set_option maxHeartbeats 0 in
theorem ok__law_times (F : FunC K "_law_times" s__law_times f fd cc) (c__law_ratio : Cl P w K mg base 1 "_law_ratio" (spV K T C__law_ratio) []) : FnOk P w K mg base CX0 2 f fd ["_law_a", "_law_b"] (spV K T C__law_times) := by
  refine F.ok sc__law_times (fun vs H Q E h => ?_) (fun A outer s H vs Q E hr h => ?_)
  · obtain ⟨B, M, L, as, r, L', hT, w, ha, ⟨_, _, _, rfl, _⟩, k⟩ := h
    exact args_len ha
  · skip
    obtain ⟨B, M, L, as, r, L', rfl, w, ha, ⟨a0, a1, c, rfl, rfl, hm, rfl, rfl⟩, k⟩ := h
    obtain ⟨u0, u1, rfl, f0, f1⟩ := args2 ha
    replace f0 : ((rT2 rInt rInt)).is K B u0 a0 := f0
    replace f1 : ((rT2 rInt rInt)).is K B u1 a1 := f1
    unfold m_l_times at hm
    refine ⟨_, (pss_cons (ps_ret (pe_c c__law_ratio hr (by omega) rfl (pa_cons (pe_op op_mulX (pe_ix ix_seq (pv 0) pe_int (fun _ _ => rfl)) (pe_ix ix_seq (pv 1) pe_int (fun _ _ => rfl))) (pa_cons (pe_op op_mulX (pe_ix ix_seq (pv 0) pe_int (fun _ _ => rfl)) (pe_ix ix_seq (pv 1) pe_int (fun _ _ => rfl))) pa_nil)))) pss_nil), ?_⟩
    rw [show start ["_law_a", "_law_b"] [u0, u1] = ([some u0, some u1] : L2.St) from rfl]
    obtain ⟨t10, e11, hm⟩ := bindS hm
    obtain ⟨t12, e13, hm⟩ := bindS hm
    obtain ⟨t14, e15, hm⟩ := bindS hm
    replace hm : some _ = some _ := hm
    obtain rfl := Option.some.inj hm
    exact q_ret w (ev_call (ea_cons (ev_mul (ev_fst (ev_var rfl f0)) (ev_fst (ev_var rfl f1)) e11) (ea_cons (ev_mul (ev_snd (ev_var rfl f0)) (ev_snd (ev_var rfl f1)) e13) ea_nil)) ⟨_, _, _, rfl, rfl, e15, rfl, rfl⟩) fun v9 B9 H9 x9 w9 h9 => k _ _ _ ((Ex.refl _).trans x9) w9 h9
noncomputable def m_l_value (a0 : ((List Int) × Int)) : Option ((Int × Int) × ((List Int) × Int)) :=
  Option.bind (m_l_take a0 ((7 : Int))) fun t10 =>
  Option.bind (m_l_take t10.2 ((6 : Int))) fun t15 =>
  Option.bind (ixL ([(1 : Int), (1 : Int), (2 : Int), (3 : Int), (12 : Int), (1000 : Int)]) t15.1) fun t17 =>
  Option.bind (m_l_ratio ((t10.1 - (3 : Int))) t17) fun t19 =>
  some (t19, t15.2)
def C__law_value : List Arg → List Cell → Arg → List Cell → Prop := fun as L r L' => ∃ a0 p0 c, as = [⟨rRef, p0⟩] ∧ L = [⟨p0, (cL2 (rLst rInt) rInt), a0⟩] ∧ m_l_value a0 = some c ∧ r = ⟨(rT2 rInt rInt), c.1⟩ ∧ L' = [⟨p0, (cL2 (rLst rInt) rInt), c.2⟩]
theorem sc__law_value : FnScope ["_law_state", "_law_top"] ["_law_state"] (defScope s__law_value) := ⟨rfl, rfl, rfl, by decide +kernel, rfl, by decide +kernel, by decide +kernel⟩
set_option maxHeartbeats 0 in
theorem ok__law_value (F : FunC K "_law_value" s__law_value f fd cc) (c__law_take : Cl P w K mg base 2 "_law_take" (spV K T C__law_take) []) (c__law_ratio : Cl P w K mg base 1 "_law_ratio" (spV K T C__law_ratio) []) : FnOk P w K mg base CX0 3 f fd ["_law_state"] (spV K T C__law_value) := by
  refine F.ok sc__law_value (fun vs H Q E h => ?_) (fun A outer s H vs Q E hr h => ?_)
  · obtain ⟨B, M, L, as, r, L', hT, w, ha, ⟨_, _, _, rfl, _⟩, k⟩ := h
    exact args_len ha
  · skip
    obtain ⟨B, M, L, as, r, L', rfl, w, ha, ⟨a0, p0, c, rfl, rfl, hm, rfl, rfl⟩, k⟩ := h
    obtain ⟨u0, rfl, f0⟩ := args1 ha
    replace f0 : u0 = V.ref p0 := f0
    subst f0
    unfold m_l_value at hm
    refine ⟨_, (pss_cons (ps_set (i := 1) sc__law_value.nd rfl (by first | exact Or.inl rfl | exact Or.inr rfl) (pe_op op_sub (pe_c c__law_take hr (by omega) rfl (pa_cons (pv 0) (pa_cons pe_int pa_nil))) pe_int)) (pss_cons (ps_ret (pe_c c__law_ratio hr (by omega) rfl (pa_cons (pv 1) (pa_cons (pe_ix ix_seq (pe_lst (pa_cons pe_int (pa_cons pe_int (pa_cons pe_int (pa_cons pe_int (pa_cons pe_int (pa_cons pe_int pa_nil))))))) (pe_c c__law_take hr (by omega) rfl (pa_cons (pv 0) (pa_cons pe_int pa_nil))) (fun _ _ => rfl)) pa_nil)))) pss_nil)), ?_⟩
    rw [show start ["_law_state", "_law_top"] [.ref p0] = ([some (.ref p0), none] : L2.St) from rfl]
    obtain ⟨t10, e11, hm⟩ := bindS hm
    refine q_asg (n := 1) w (ev_sub (ev_callC 0 (x := ⟨p0, (cL2 (rLst rInt) rInt), a0⟩) (x' := ⟨p0, (cL2 (rLst rInt) rInt), t10.2⟩) (ea_cons (ev_varR rfl) (ea_cons (ev_int (i := 7)) ea_nil)) rfl ⟨_, _, _, _, rfl, rfl, e11, rfl, rfl⟩ rfl) (ev_int (i := 3))) fun v13 B12 H12 x12 (w12 : Own K B12 M [⟨p0, (cL2 (rLst rInt) rInt), t10.2⟩] H12) h14 => ?_
    obtain ⟨t15, e16, hm⟩ := bindS hm
    obtain ⟨t17, e18, hm⟩ := bindS hm
    obtain ⟨t19, e20, hm⟩ := bindS hm
    replace hm : some _ = some _ := hm
    obtain rfl := Option.some.inj hm
    exact q_ret w12 (ev_call (ea_cons (ev_varI rfl h14) (ea_cons (ev_ix (ev_seqL (ev_frz (el_lst (r := rInt) [(1 : Int), (1 : Int), (2 : Int), (3 : Int), (12 : Int), (1000 : Int)] (ea_cons (ev_int (i := 1)) (ea_cons (ev_int (i := 1)) (ea_cons (ev_int (i := 2)) (ea_cons (ev_int (i := 3)) (ea_cons (ev_int (i := 12)) (ea_cons (ev_int (i := 1000)) ea_nil))))))))) (ev_callC 0 (x := ⟨p0, (cL2 (rLst rInt) rInt), t10.2⟩) (x' := ⟨p0, (cL2 (rLst rInt) rInt), t15.2⟩) (ea_cons (ev_varR rfl) (ea_cons (ev_int (i := 6)) ea_nil)) rfl ⟨_, _, _, _, rfl, rfl, e16, rfl, rfl⟩ rfl) e18) ea_nil)) ⟨_, _, _, rfl, rfl, e20, rfl, rfl⟩) fun v9 B9 H9 x9 w9 h9 => k _ _ _ (x12.trans x9) w9 h9
noncomputable def F_m_l_determinant (rec : (List (List (Int × Int))) → Option (Int × Int)) (a0 : (List (List (Int × Int)))) : Option (Int × Int) :=
  if (decide ((a0.length : Int) = (0 : Int))) = true then
    some ((1 : Int), (1 : Int))
  else
    Option.bind (small62 ((a0.length : Int))) fun t16 =>
    Option.bind (foldO (S := (Int × Int)) (α := Int) (fun (s18 : (Int × Int)) (x19 : Int) => (
      Option.bind (ixL a0 ((0 : Int))) fun t41 =>
      Option.bind (ixL t41 x19) fun t43 =>
      Option.bind (room ((cutL a0 (some ((1 : Int))) none)).length) fun t71 =>
      Option.bind (compM (S := Unit) (β := (List (Int × Int))) (fun (s45 : Unit) (x52 : (List (Int × Int))) => (Option.bind (catT ((cutL x52 none (some x19))) ((cutL x52 (some ((x19 + (1 : Int)))) none))) fun t69 => some (some t69, ()))) (()) ((cutL a0 (some ((1 : Int))) none))) fun t73 =>
      Option.bind (rec t73.1) fun t75 =>
      Option.bind (m_l_times t43 t75) fun t77 =>
      Option.bind (mulI ((2 : Int)) ((Builtin.bitAnd x19 ((1 : Int))))) fun t82 =>
      Option.bind (mulI t77.1 (((1 : Int) - t82))) fun t84 =>
      Option.bind (m_l_plus s18 ((t84, t77.2))) fun t86 =>
      some t86
    )) (((0 : Int), (1 : Int))) ((rng 0 ((a0.length : Int))))) fun s91 =>
    some s91
noncomputable def m_l_determinant : Nat → (List (List (Int × Int))) → Option (Int × Int)
  | 0 => fun _ => none
  | n + 1 => F_m_l_determinant (m_l_determinant n)
def C__law_determinant (n : Nat) : List Arg → List Cell → Arg → List Cell → Prop := fun as L r L' => ∃ a0 c, as = [⟨(rLst (rLst (rT2 rInt rInt))), a0⟩] ∧ L = [] ∧ m_l_determinant n a0 = some c ∧ r = ⟨(rT2 rInt rInt), c⟩ ∧ L' = []
theorem sc__law_determinant : FnScope ["_law_rows", "_law_total", "_law_k", "_law_part", "_law_row"] ["_law_rows"] (defScope s__law_determinant) := ⟨rfl, rfl, rfl, by decide +kernel, rfl, by decide +kernel, by decide +kernel⟩
set_option maxHeartbeats 0 in
theorem ok__law_determinant (F : FunC K "_law_determinant" s__law_determinant f fd cc) (c__law_times : Cl P w K mg base 2 "_law_times" (spV K T C__law_times) []) (c__law_plus : Cl P w K mg base 2 "_law_plus" (spV K T C__law_plus) []) (z_len : mg "len" = none) (z_range : mg "range" = none) (n : Nat) (c__law_determinant : Cl P w K mg base (2 + n) "_law_determinant" (spV K T (C__law_determinant n)) []) : FnOk P w K mg base CX0 (2 + n + 1) f fd ["_law_rows"] (spV K T (C__law_determinant (n + 1))) := by
  refine F.ok sc__law_determinant (fun vs H Q E h => ?_) (fun A outer s H vs Q E hr h => ?_)
  · obtain ⟨B, M, L, as, r, L', hT, w, ha, ⟨_, _, rfl, _⟩, k⟩ := h
    exact args_len ha
  · skip
    obtain ⟨B, M, L, as, r, L', rfl, w, ha, ⟨a0, c, rfl, rfl, hm, rfl, rfl⟩, k⟩ := h
    obtain ⟨u0, rfl, f0⟩ := args1 ha
    replace f0 : ((rLst (rLst (rT2 rInt rInt)))).is K B u0 a0 := f0
    replace hm : F_m_l_determinant (m_l_determinant n) a0 = some c := hm
    unfold F_m_l_determinant at hm
    refine ⟨_, (pss_cons (ps_if (pt_cmpR op_eq (pe_callB call_len_seq rfl z_len bt_len (pa_cons (pv 0) pa_nil)) pe_int (nomark _)) (pss_cons (ps_ret (pe_tup (pa_cons pe_int (pa_cons pe_int pa_nil)))) pss_nil) pss_nil) (pss_cons (ps_set (i := 1) sc__law_determinant.nd rfl (by first | exact Or.inl rfl | exact Or.inr rfl) (pe_tup (pa_cons pe_int (pa_cons pe_int pa_nil)))) (pss_cons (ps_for PassesOwn.never rfl (pi_range1 rfl z_range (pa_cons (pe_callB call_len_seq rfl z_len bt_len (pa_cons (pv 0) pa_nil)) pa_nil)) (pg_name (i := 2) sc__law_determinant.nd rfl (by first | exact Or.inl rfl | exact Or.inr rfl)) (pss_cons (ps_set (i := 3) sc__law_determinant.nd rfl (by first | exact Or.inl rfl | exact Or.inr rfl) (pe_c c__law_times hr (by omega) rfl (pa_cons (pe_ix ix_seq (pe_ix ix_seq (pv 0) pe_int (fun _ _ => rfl)) (pv 2) (fun _ _ => rfl)) (pa_cons (pe_c c__law_determinant hr (by omega) rfl (pa_cons (pe_lc rfl sc__law_determinant.nd (pi_list (pe_slice sl_list (pv 0) (po_some pe_int) po_none)) (blkOk_by (own := [("_law_row", 4)]) (show blkC ["_law_rows", "_law_total", "_law_k", "_law_part", "_law_row"] (defScope s__law_determinant) _ _ = true by decide +kernel)) (fun _ _ _ _ _ => (pg_name (i := 4) sc__law_determinant.nd rfl (by first | exact Or.inl rfl | exact Or.inr rfl))) (fun _ _ _ _ _ => pts_nil) (fun _ _ _ _ _ => (pe_op op_cat (pe_slice (show SlR _ (rSlL K) from sl_list) (pv 4) po_none (po_some (pv 2))) (pe_slice (show SlR _ (rSlL K) from sl_list) (pv 4) (po_some (pe_op op_add (pv 2) pe_int)) po_none)))) pa_nil)) pa_nil)))) (pss_cons (ps_set (i := 1) sc__law_determinant.nd rfl (by first | exact Or.inl rfl | exact Or.inr rfl) (pe_c c__law_plus hr (by omega) rfl (pa_cons (pv 1) (pa_cons (pe_tup (pa_cons (pe_op op_mulX (pe_ix ix_seq (pv 3) pe_int (fun _ _ => rfl)) (pe_op op_sub pe_int (pe_op op_mulX pe_int (pe_op op_and (pv 2) pe_int)))) (pa_cons (pe_ix ix_seq (pv 3) pe_int (fun _ _ => rfl)) pa_nil))) pa_nil)))) pss_nil))) (pss_cons (ps_ret (pv 1)) pss_nil)))), ?_⟩
    rw [show start ["_law_rows", "_law_total", "_law_k", "_law_part", "_law_row"] [u0] = ([some u0, none, none, none, none] : L2.St) from rfl]
    refine q_if w (et_test (ev_eqI (ev_len (ev_seqL (ev_var rfl f0))) (ev_int (i := 0)))) (fun hb10 B11 H11 x11 (w11 : Own K B11 M [] H11) => ?_) (fun hb10 B12 H12 x12 (w12 : Own K B12 M [] H12) => ?_)
    · skip
      rw [if_pos hb10] at hm
      replace hm : some _ = some _ := hm
      obtain rfl := Option.some.inj hm
      exact q_ret w11 (ev_T2 (ea_cons (ev_int (i := 1)) (ea_cons (ev_int (i := 1)) ea_nil))) fun v9 B9 H9 x9 w9 h9 => k _ _ _ (x11.trans x9) w9 h9
    rw [if_neg (by rw [hb10]; exact Bool.false_ne_true)] at hm
    refine q_asg (n := 1) w12 (ev_T2 (ea_cons (ev_int (i := 0)) (ea_cons (ev_int (i := 1)) ea_nil))) fun v14 B13 H13 x13 (w13 : Own K B13 M [] H13) h15 => ?_
    obtain ⟨t16, e17, hm⟩ := bindS hm
    obtain ⟨s91, e22, hm⟩ := bindS hm
    refine q_fold w13 (ei_rng1 (ea_cons (ev_len (ev_seqL (ev_var rfl (((rLst (rLst (rT2 rInt rInt)))).mono (x12.trans x13) f0)))) ea_nil) e17) _ (fun s18 B23 σ36 => ∃ v37 o39 o40, σ36 = [some u0, some v37, o39, o40, none] ∧ ((rT2 rInt rInt)).is K B23 v37 s18) (fun s18 => []) (((0 : Int), (1 : Int))) e22 (fun B9 x9 => ⟨v14, _, _, rfl, (((rT2 rInt rInt)).mono x9 h15)⟩) rfl ?_ ?_
    · skip
      rintro s18 x19 s101 v29 B23 B24 H25 σ36 hb20 x26 ⟨v37, o39, o40, rfl, h38⟩ x27 w28 h30 N31 K32 hN33
      replace w28 : Own K B24 M [] H25 := w28
      refine g_name ?_
      obtain ⟨t41, e42, hb20⟩ := bindS hb20
      obtain ⟨t43, e44, hb20⟩ := bindS hb20
      obtain ⟨t71, e72, hb20⟩ := bindS hb20
      obtain ⟨t73, e74, hb20⟩ := bindS hb20
      obtain ⟨t75, e76, hb20⟩ := bindS hb20
      obtain ⟨t77, e78, hb20⟩ := bindS hb20
      refine q_asg (n := 3) w28 (ev_call (ea_cons (ev_ix (ev_seqL (ev_ix (ev_seqL (ev_var rfl (((rLst (rLst (rT2 rInt rInt)))).mono (((x12.trans x13).trans x26).trans x27) f0))) (ev_int (i := 0)) e42)) (ev_varI rfl h30) e44) (ea_cons (ev_call (ea_cons (ev_frz (el_lc (S := Unit) (ys := t73.1) (s1 := t73.2) (s0 := ()) (σ' := [some u0, some v37, some v29, o40, none]) (rLst (rT2 rInt rInt)) (ei_lst (ev_frz (el_slL (ev_var rfl (((rLst (rLst (rT2 rInt rInt)))).mono (((x12.trans x13).trans x26).trans x27) f0)) (eo_some (ev_int (i := 1))) eo_none))) _ (fun (s45 : Unit) => []) rfl e74 e72 rfl (by rintro s45 x52 o57 s58 v50 D55 a56 B46 H47 hb54 x48 w49 h51 PY59 PN60 qY61 qN62; replace w49 : Own K B46 M [⟨D55, (cLst (rLst (rT2 rInt rInt))), a56⟩] H47 := w49; refine g_name ?_; refine ⟨rfl, ?_⟩; obtain ⟨t69, e70, hb54⟩ := bindS hb54; obtain ⟨rfl, rfl⟩ := Prod.mk.inj (Option.some.inj hb54); refine lc_yes ?_; exact (ev_frz (el_cat (ev_frz (el_slL (ev_var rfl h51) eo_none (eo_some (ev_varI rfl h30)))) (ev_frz (el_slL (ev_var rfl h51) (eo_some (ev_add (ev_varI rfl h30) (ev_int (i := 1)))) eo_none)) e70)) B46 H47 (Ex.refl _) w49 _ fun v63 B64 H65 x66 w67 h68 => qY61 v63 B64 H65 _ rfl x66 w67 h68))) ea_nil) ⟨_, _, rfl, rfl, e76, rfl, rfl⟩) ea_nil)) ⟨_, _, _, rfl, rfl, e78, rfl, rfl⟩) fun v80 B79 H79 x79 (w79 : Own K B79 M [] H79) h81 => ?_
      obtain ⟨t82, e83, hb20⟩ := bindS hb20
      obtain ⟨t84, e85, hb20⟩ := bindS hb20
      obtain ⟨t86, e87, hb20⟩ := bindS hb20
      refine q_asg (n := 1) w79 (ev_call (ea_cons (ev_var rfl (((rT2 rInt rInt)).mono (x27.trans x79) h38)) (ea_cons (ev_T2 (ea_cons (ev_mul (ev_fst (ev_var rfl h81)) (ev_sub (ev_int (i := 1)) (ev_mul (ev_int (i := 2)) (ev_bitand (ev_varI rfl h30) (ev_int (i := 1))) e83)) e85) (ea_cons (ev_snd (ev_var rfl h81)) ea_nil))) ea_nil)) ⟨_, _, _, rfl, rfl, e87, rfl, rfl⟩) fun v89 B88 H88 x88 (w88 : Own K B88 M [] H88) h90 => ?_
      replace hb20 : some _ = some _ := hb20
      cases hb20
      exact hN33 _ _ _ (x79.trans x88) w88 ⟨v89, _, _, rfl, h90⟩
    rintro B92 H93 σ96 x94 w95 ⟨v97, o99, o100, rfl, h98⟩
    replace w95 : Own K B92 M [] H93 := w95
    replace hm : some _ = some _ := hm
    obtain rfl := Option.some.inj hm
    exact q_ret w95 (ev_var rfl h98) fun v9 B9 H9 x9 w9 h9 => k _ _ _ (((x12.trans x13).trans x94).trans x9) w9 h9
theorem all__law_determinant (F : FunC K "_law_determinant" s__law_determinant f fd cc) (c__law_times : Cl P w K mg base 2 "_law_times" (spV K T C__law_times) []) (c__law_plus : Cl P w K mg base 2 "_law_plus" (spV K T C__law_plus) []) (z_len : mg "len" = none) (z_range : mg "range" = none) (mf : mg "_law_determinant" = some (.ref f)) (kp : PySem.W.keepIn K (.ref f) = true) (bf : Binds K fd ["_law_rows"] []) : ∀ n, FnOk P w K mg base CX0 (2 + n) f fd ["_law_rows"] (spV K T (C__law_determinant n))
  | 0 => fn_none fun _ _ _ _ ⟨_, _, _, _, h, _⟩ => (by cases h)
  | n + 1 => ok__law_determinant F c__law_times c__law_plus z_len z_range n ⟨f, fd, ["_law_rows"], [], all__law_determinant F c__law_times c__law_plus z_len z_range mf kp bf n, mf, kp, bf, .nil⟩
noncomputable def m_l_spoilt (a0 : ((List Int) × Int)) (a1 : (List (List (Int × Int)))) : Option ((List (List (Int × Int))) × ((List Int) × Int)) :=
  Option.bind (m_l_take a0 ((4 : Int))) fun t13 =>
  Option.bind (m_l_take t13.2 ((a1.length : Int))) fun t18 =>
  Option.bind (m_l_take t18.2 ((a1.length : Int))) fun t23 =>
  Option.bind (ixL a1 t23.1) fun t25 =>
  Option.bind (m_l_take t23.2 ((a1.length : Int))) fun t30 =>
  Option.bind (ixL a1 t30.1) fun t32 =>
  Option.bind (repL ([((0 : Int), (1 : Int))]) ((a1.length : Int))) fun t38 =>
  Option.bind (room t25.length) fun t66 =>
  Option.bind (compM (S := Unit) (β := (Int × Int)) (fun (s40 : Unit) (x47 : (Int × Int)) => (Option.bind (m_l_times (((2 : Int), (3 : Int))) x47) fun t64 => some (some t64, ()))) (()) t25) fun t68 =>
  Option.bind (small62 ((a1.length : Int))) fun t72 =>
  Option.bind (room ((rng 0 ((a1.length : Int)))).length) fun t104 =>
  Option.bind (compM (S := Unit) (β := (Int × Int)) (fun (s74 : Unit) (x81 : Int) => (Option.bind (ixL t25 x81) fun t98 => Option.bind (ixL t32 x81) fun t100 => Option.bind (m_l_plus t98 t100) fun t102 => some (some t102, ()))) (()) ((rng 0 ((a1.length : Int))))) fun t106 =>
  Option.bind (room ([t38, t68.1]).length) fun t108 =>
  if (decide (t13.1 = (3 : Int))) = true then
    Option.bind (room a1.length) fun t141 =>
    Option.bind (compM (S := Unit) (β := (List (Int × Int))) (fun (s113 : Unit) (x120 : (List (Int × Int))) => (Option.bind (catT ((cutL x120 none (some t18.1))) ([((0 : Int), (1 : Int))])) fun t137 => Option.bind (catT t137 ((cutL x120 (some ((t18.1 + (1 : Int)))) none))) fun t139 => some (some t139, ()))) (()) a1) fun t143 =>
    some (t143.1, t30.2)
  else
    Option.bind (ixL (([t38, t68.1] ++ [t106.1])) t13.1) fun t146 =>
    Option.bind (catT ((cutL a1 none (some t18.1))) ([t146])) fun t148 =>
    Option.bind (catT t148 ((cutL a1 (some ((t18.1 + (1 : Int)))) none))) fun t150 =>
    some (t150, t30.2)
def C__law_spoilt : List Arg → List Cell → Arg → List Cell → Prop := fun as L r L' => ∃ a0 a1 p0 c, as = [⟨rRef, p0⟩, ⟨(rLst (rLst (rT2 rInt rInt))), a1⟩] ∧ L = [⟨p0, (cL2 (rLst rInt) rInt), a0⟩] ∧ m_l_spoilt a0 a1 = some c ∧ r = ⟨(rLst (rLst (rT2 rInt rInt))), c.1⟩ ∧ L' = [⟨p0, (cL2 (rLst rInt) rInt), c.2⟩]
theorem sc__law_spoilt : FnScope ["_law_state", "_law_rows", "_law_size", "_law_way", "_law_at", "_law_one", "_law_two", "_law_made", "_law_item", "_law_k", "_law_row"] ["_law_state", "_law_rows"] (defScope s__law_spoilt) := ⟨rfl, rfl, rfl, by decide +kernel, rfl, by decide +kernel, by decide +kernel⟩
set_option maxHeartbeats 0 in
theorem ok__law_spoilt (F : FunC K "_law_spoilt" s__law_spoilt f fd cc) (c__law_take : Cl P w K mg base 2 "_law_take" (spV K T C__law_take) []) (c__law_times : Cl P w K mg base 2 "_law_times" (spV K T C__law_times) []) (c__law_plus : Cl P w K mg base 2 "_law_plus" (spV K T C__law_plus) []) (z_len : mg "len" = none) (z_range : mg "range" = none) : FnOk P w K mg base CX0 3 f fd ["_law_state", "_law_rows"] (spV K T C__law_spoilt) := by
  refine F.ok sc__law_spoilt (fun vs H Q E h => ?_) (fun A outer s H vs Q E hr h => ?_)
  · obtain ⟨B, M, L, as, r, L', hT, w, ha, ⟨_, _, _, _, rfl, _⟩, k⟩ := h
    exact args_len ha
  · skip
    obtain ⟨B, M, L, as, r, L', rfl, w, ha, ⟨a0, a1, p0, c, rfl, rfl, hm, rfl, rfl⟩, k⟩ := h
    obtain ⟨u0, u1, rfl, f0, f1⟩ := args2 ha
    replace f0 : u0 = V.ref p0 := f0
    subst f0
    replace f1 : ((rLst (rLst (rT2 rInt rInt)))).is K B u1 a1 := f1
    unfold m_l_spoilt at hm
    refine ⟨_, (pss_cons (ps_set (i := 2) sc__law_spoilt.nd rfl (by first | exact Or.inl rfl | exact Or.inr rfl) (pe_callB call_len_seq rfl z_len bt_len (pa_cons (pv 1) pa_nil))) (pss_cons (ps_set (i := 3) sc__law_spoilt.nd rfl (by first | exact Or.inl rfl | exact Or.inr rfl) (pe_c c__law_take hr (by omega) rfl (pa_cons (pv 0) (pa_cons pe_int pa_nil)))) (pss_cons (ps_set (i := 4) sc__law_spoilt.nd rfl (by first | exact Or.inl rfl | exact Or.inr rfl) (pe_c c__law_take hr (by omega) rfl (pa_cons (pv 0) (pa_cons (pv 2) pa_nil)))) (pss_cons (ps_set (i := 5) sc__law_spoilt.nd rfl (by first | exact Or.inl rfl | exact Or.inr rfl) (pe_ix ix_seq (pv 1) (pe_c c__law_take hr (by omega) rfl (pa_cons (pv 0) (pa_cons (pv 2) pa_nil))) (fun _ _ => rfl))) (pss_cons (ps_set (i := 6) sc__law_spoilt.nd rfl (by first | exact Or.inl rfl | exact Or.inr rfl) (pe_ix ix_seq (pv 1) (pe_c c__law_take hr (by omega) rfl (pa_cons (pv 0) (pa_cons (pv 2) pa_nil))) (fun _ _ => rfl))) (pss_cons (ps_set (i := 7) sc__law_spoilt.nd rfl (by first | exact Or.inl rfl | exact Or.inr rfl) (pe_lst (pa_cons (pe_op op_rep (pe_lst (pa_cons (pe_tup (pa_cons pe_int (pa_cons pe_int pa_nil))) pa_nil)) (pv 2)) (pa_cons (pe_lc rfl sc__law_spoilt.nd (pi_list (pv 5)) (blkOk_by (own := [("_law_item", 8)]) (show blkC ["_law_state", "_law_rows", "_law_size", "_law_way", "_law_at", "_law_one", "_law_two", "_law_made", "_law_item", "_law_k", "_law_row"] (defScope s__law_spoilt) _ _ = true by decide +kernel)) (fun _ _ _ _ _ => (pg_name (i := 8) sc__law_spoilt.nd rfl (by first | exact Or.inl rfl | exact Or.inr rfl))) (fun _ _ _ _ _ => pts_nil) (fun _ _ _ _ _ => (pe_c c__law_times hr (by omega) rfl (pa_cons (pe_tup (pa_cons pe_int (pa_cons pe_int pa_nil))) (pa_cons (pv 8) pa_nil))))) pa_nil)))) (pss_cons (ps_expr (pe_bm PySem.F.plainAttrs_list PySem.F.slot_list_append PySem.F.type_list_append mt_append (pv 7) (pa_cons (pe_lc rfl sc__law_spoilt.nd (pi_range1 rfl z_range (pa_cons (pv 2) pa_nil)) (blkOk_by (own := [("_law_k", 9)]) (show blkC ["_law_state", "_law_rows", "_law_size", "_law_way", "_law_at", "_law_one", "_law_two", "_law_made", "_law_item", "_law_k", "_law_row"] (defScope s__law_spoilt) _ _ = true by decide +kernel)) (fun _ _ _ _ _ => (pg_name (i := 9) sc__law_spoilt.nd rfl (by first | exact Or.inl rfl | exact Or.inr rfl))) (fun _ _ _ _ _ => pts_nil) (fun _ _ _ _ _ => (pe_c c__law_plus hr (by omega) rfl (pa_cons (pe_ix (show IxR _ (rIx K) from ix_seq) (pv 5) (pv 9) (fun _ _ => rfl)) (pa_cons (pe_ix (show IxR _ (rIx K) from ix_seq) (pv 6) (pv 9) (fun _ _ => rfl)) pa_nil))))) pa_nil))) (pss_cons (ps_if (pt_cmpR op_eq (pv 3) pe_int (nomark _)) (pss_cons (ps_ret (pe_lc rfl sc__law_spoilt.nd (pi_list (pv 1)) (blkOk_by (own := [("_law_row", 10)]) (show blkC ["_law_state", "_law_rows", "_law_size", "_law_way", "_law_at", "_law_one", "_law_two", "_law_made", "_law_item", "_law_k", "_law_row"] (defScope s__law_spoilt) _ _ = true by decide +kernel)) (fun _ _ _ _ _ => (pg_name (i := 10) sc__law_spoilt.nd rfl (by first | exact Or.inl rfl | exact Or.inr rfl))) (fun _ _ _ _ _ => pts_nil) (fun _ _ _ _ _ => (pe_op op_cat (pe_op op_cat (pe_slice (show SlR _ (rSlL K) from sl_list) (pv 10) po_none (po_some (pv 4))) (pe_lst (pa_cons (pe_tup (pa_cons pe_int (pa_cons pe_int pa_nil))) pa_nil))) (pe_slice (show SlR _ (rSlL K) from sl_list) (pv 10) (po_some (pe_op op_add (pv 4) pe_int)) po_none))))) pss_nil) pss_nil) (pss_cons (ps_ret (pe_op op_cat (pe_op op_cat (pe_slice sl_list (pv 1) po_none (po_some (pv 4))) (pe_lst (pa_cons (pe_ix ix_seq (pv 7) (pv 3) (fun _ _ => rfl)) pa_nil))) (pe_slice sl_list (pv 1) (po_some (pe_op op_add (pv 4) pe_int)) po_none))) pss_nil))))))))), ?_⟩
    rw [show start ["_law_state", "_law_rows", "_law_size", "_law_way", "_law_at", "_law_one", "_law_two", "_law_made", "_law_item", "_law_k", "_law_row"] [.ref p0, u1] = ([some (.ref p0), some u1, none, none, none, none, none, none, none, none, none] : L2.St) from rfl]
    refine q_asg (n := 2) w (ev_len (ev_seqL (ev_var rfl f1))) fun v11 B10 H10 x10 (w10 : Own K B10 M [⟨p0, (cL2 (rLst rInt) rInt), a0⟩] H10) h12 => ?_
    obtain ⟨t13, e14, hm⟩ := bindS hm
    refine q_asg (n := 3) w10 (ev_callC 0 (x := ⟨p0, (cL2 (rLst rInt) rInt), a0⟩) (x' := ⟨p0, (cL2 (rLst rInt) rInt), t13.2⟩) (ea_cons (ev_varR rfl) (ea_cons (ev_int (i := 4)) ea_nil)) rfl ⟨_, _, _, _, rfl, rfl, e14, rfl, rfl⟩ rfl) fun v16 B15 H15 x15 (w15 : Own K B15 M [⟨p0, (cL2 (rLst rInt) rInt), t13.2⟩] H15) h17 => ?_
    obtain ⟨t18, e19, hm⟩ := bindS hm
    refine q_asg (n := 4) w15 (ev_callC 0 (x := ⟨p0, (cL2 (rLst rInt) rInt), t13.2⟩) (x' := ⟨p0, (cL2 (rLst rInt) rInt), t18.2⟩) (ea_cons (ev_varR rfl) (ea_cons (ev_varI rfl h12) ea_nil)) rfl ⟨_, _, _, _, rfl, rfl, e19, rfl, rfl⟩ rfl) fun v21 B20 H20 x20 (w20 : Own K B20 M [⟨p0, (cL2 (rLst rInt) rInt), t18.2⟩] H20) h22 => ?_
    obtain ⟨t23, e24, hm⟩ := bindS hm
    obtain ⟨t25, e26, hm⟩ := bindS hm
    refine q_asg (n := 5) w20 (ev_ix (ev_seqL (ev_var rfl (((rLst (rLst (rT2 rInt rInt)))).mono ((x10.trans x15).trans x20) f1))) (ev_callC 0 (x := ⟨p0, (cL2 (rLst rInt) rInt), t18.2⟩) (x' := ⟨p0, (cL2 (rLst rInt) rInt), t23.2⟩) (ea_cons (ev_varR rfl) (ea_cons (ev_varI rfl h12) ea_nil)) rfl ⟨_, _, _, _, rfl, rfl, e24, rfl, rfl⟩ rfl) e26) fun v28 B27 H27 x27 (w27 : Own K B27 M [⟨p0, (cL2 (rLst rInt) rInt), t23.2⟩] H27) h29 => ?_
    obtain ⟨t30, e31, hm⟩ := bindS hm
    obtain ⟨t32, e33, hm⟩ := bindS hm
    refine q_asg (n := 6) w27 (ev_ix (ev_seqL (ev_var rfl (((rLst (rLst (rT2 rInt rInt)))).mono (((x10.trans x15).trans x20).trans x27) f1))) (ev_callC 0 (x := ⟨p0, (cL2 (rLst rInt) rInt), t23.2⟩) (x' := ⟨p0, (cL2 (rLst rInt) rInt), t30.2⟩) (ea_cons (ev_varR rfl) (ea_cons (ev_varI rfl h12) ea_nil)) rfl ⟨_, _, _, _, rfl, rfl, e31, rfl, rfl⟩ rfl) e33) fun v35 B34 H34 x34 (w34 : Own K B34 M [⟨p0, (cL2 (rLst rInt) rInt), t30.2⟩] H34) h36 => ?_
    obtain ⟨t38, e39, hm⟩ := bindS hm
    obtain ⟨t66, e67, hm⟩ := bindS hm
    obtain ⟨t68, e69, hm⟩ := bindS hm
    refine q_asgL (n := 7) w34 (el_lst (r := (rLst (rT2 rInt rInt))) [t38, t68.1] (ea_cons (ev_frz (el_rep (el_lst (r := (rT2 rInt rInt)) [((0 : Int), (1 : Int))] (ea_cons (ev_T2 (ea_cons (ev_int (i := 0)) (ea_cons (ev_int (i := 1)) ea_nil))) ea_nil)) (fun p37 => (ev_varI rfl h12)) e39)) (ea_cons (ev_frz (el_lc (S := Unit) (ys := t68.1) (s1 := t68.2) (s0 := ()) (σ' := [some (.ref p0), some u1, some v11, some v16, some v21, some v28, some v35, none, none, none, none]) (rT2 rInt rInt) (ei_lst (ev_var rfl (((rLst (rT2 rInt rInt))).mono x34 h29))) _ (fun (s40 : Unit) => [⟨p0, (cL2 (rLst rInt) rInt), t30.2⟩]) rfl e69 e67 rfl (by rintro s40 x47 o52 s53 v45 D50 a51 B41 H42 hb49 x43 w44 h46 PY54 PN55 qY56 qN57; replace w44 : Own K B41 M [⟨D50, (cLst (rT2 rInt rInt)), a51⟩, ⟨p0, (cL2 (rLst rInt) rInt), t30.2⟩] H42 := w44; refine g_name ?_; refine ⟨rfl, ?_⟩; obtain ⟨t64, e65, hb49⟩ := bindS hb49; obtain ⟨rfl, rfl⟩ := Prod.mk.inj (Option.some.inj hb49); refine lc_yes ?_; exact (ev_call (ea_cons (ev_T2 (ea_cons (ev_int (i := 2)) (ea_cons (ev_int (i := 3)) ea_nil))) (ea_cons (ev_var rfl h46) ea_nil)) ⟨_, _, _, rfl, rfl, e65, rfl, rfl⟩) B41 H42 (Ex.refl _) w44 _ fun v58 B59 H60 x61 w62 h63 => qY56 v58 B59 H60 _ rfl x61 w62 h63))) ea_nil))) fun p71 B70 H70 x70 (w70 : Own K B70 M [⟨p71, (cLst (rLst (rT2 rInt rInt))), [t38, t68.1]⟩, ⟨p0, (cL2 (rLst rInt) rInt), t30.2⟩] H70) => ?_
    obtain ⟨t72, e73, hm⟩ := bindS hm
    obtain ⟨t104, e105, hm⟩ := bindS hm
    obtain ⟨t106, e107, hm⟩ := bindS hm
    obtain ⟨t108, e109, hm⟩ := bindS hm
    refine q_app (n := 0) (m := 7) w70 rfl (ev_frz (el_lc (S := Unit) (ys := t106.1) (s1 := t106.2) (s0 := ()) (σ' := [some (.ref p0), some u1, some v11, some v16, some v21, some v28, some v35, some (.ref p71), none, none, none]) (rT2 rInt rInt) (ei_rng1 (ea_cons (ev_varI rfl h12) ea_nil) e73) _ (fun (s74 : Unit) => [⟨p71, (cLst (rLst (rT2 rInt rInt))), [t38, t68.1]⟩, ⟨p0, (cL2 (rLst rInt) rInt), t30.2⟩]) rfl e107 e105 rfl (by rintro s74 x81 o86 s87 v79 D84 a85 B75 H76 hb83 x77 w78 h80 PY88 PN89 qY90 qN91; replace w78 : Own K B75 M [⟨D84, (cLst (rT2 rInt rInt)), a85⟩, ⟨p71, (cLst (rLst (rT2 rInt rInt))), [t38, t68.1]⟩, ⟨p0, (cL2 (rLst rInt) rInt), t30.2⟩] H76 := w78; refine g_name ?_; refine ⟨rfl, ?_⟩; obtain ⟨t98, e99, hb83⟩ := bindS hb83; obtain ⟨t100, e101, hb83⟩ := bindS hb83; obtain ⟨t102, e103, hb83⟩ := bindS hb83; obtain ⟨rfl, rfl⟩ := Prod.mk.inj (Option.some.inj hb83); refine lc_yes ?_; exact (ev_call (ea_cons (ev_ix (ev_seqL (ev_var rfl (((rLst (rT2 rInt rInt))).mono ((x34.trans x70).trans x77) h29))) (ev_varI rfl h80) e99) (ea_cons (ev_ix (ev_seqL (ev_var rfl (((rLst (rT2 rInt rInt))).mono (x70.trans x77) h36))) (ev_varI rfl h80) e101) ea_nil)) ⟨_, _, _, rfl, rfl, e103, rfl, rfl⟩) B75 H76 (Ex.refl _) w78 _ fun v92 B93 H94 x95 w96 h97 => qY90 v92 B93 H94 _ rfl x95 w96 h97))) rfl ⟨0, _, rfl⟩ e109 fun B110 H110 x110 (w110 : Own K B110 M [⟨p71, (cLst (rLst (rT2 rInt rInt))), ([t38, t68.1] ++ [t106.1])⟩, ⟨p0, (cL2 (rLst rInt) rInt), t30.2⟩] H110) => ?_
    refine q_if w110 (et_test (ev_eqI (ev_varI rfl h17) (ev_int (i := 3)))) (fun hb111 B112 H112 x112 (w112 : Own K B112 M [⟨p71, (cLst (rLst (rT2 rInt rInt))), ([t38, t68.1] ++ [t106.1])⟩, ⟨p0, (cL2 (rLst rInt) rInt), t30.2⟩] H112) => ?_) (fun hb111 B145 H145 x145 (w145 : Own K B145 M [⟨p71, (cLst (rLst (rT2 rInt rInt))), ([t38, t68.1] ++ [t106.1])⟩, ⟨p0, (cL2 (rLst rInt) rInt), t30.2⟩] H145) => ?_)
    · skip
      rw [if_pos hb111] at hm
      obtain ⟨t141, e142, hm⟩ := bindS hm
      obtain ⟨t143, e144, hm⟩ := bindS hm
      replace hm : some _ = some _ := hm
      obtain rfl := Option.some.inj hm
      exact q_ret w112 (ev_frz (el_lc (S := Unit) (ys := t143.1) (s1 := t143.2) (s0 := ()) (σ' := [some (.ref p0), some u1, some v11, some v16, some v21, some v28, some v35, some (.ref p71), none, none, none]) (rLst (rT2 rInt rInt)) (ei_lst (ev_var rfl (((rLst (rLst (rT2 rInt rInt)))).mono (((((((x10.trans x15).trans x20).trans x27).trans x34).trans x70).trans x110).trans x112) f1))) _ (fun (s113 : Unit) => [⟨p71, (cLst (rLst (rT2 rInt rInt))), ([t38, t68.1] ++ [t106.1])⟩, ⟨p0, (cL2 (rLst rInt) rInt), t30.2⟩]) rfl e144 e142 rfl (by rintro s113 x120 o125 s126 v118 D123 a124 B114 H115 hb122 x116 w117 h119 PY127 PN128 qY129 qN130; replace w117 : Own K B114 M [⟨D123, (cLst (rLst (rT2 rInt rInt))), a124⟩, ⟨p71, (cLst (rLst (rT2 rInt rInt))), ([t38, t68.1] ++ [t106.1])⟩, ⟨p0, (cL2 (rLst rInt) rInt), t30.2⟩] H115 := w117; refine g_name ?_; refine ⟨rfl, ?_⟩; obtain ⟨t137, e138, hb122⟩ := bindS hb122; obtain ⟨t139, e140, hb122⟩ := bindS hb122; obtain ⟨rfl, rfl⟩ := Prod.mk.inj (Option.some.inj hb122); refine lc_yes ?_; exact (ev_frz (el_cat (ev_frz (el_cat (ev_frz (el_slL (ev_var rfl h119) eo_none (eo_some (ev_varI rfl h22)))) (ev_frz (el_lst (r := (rT2 rInt rInt)) [((0 : Int), (1 : Int))] (ea_cons (ev_T2 (ea_cons (ev_int (i := 0)) (ea_cons (ev_int (i := 1)) ea_nil))) ea_nil))) e138)) (ev_frz (el_slL (ev_var rfl h119) (eo_some (ev_add (ev_varI rfl h22) (ev_int (i := 1)))) eo_none)) e140)) B114 H115 (Ex.refl _) w117 _ fun v131 B132 H133 x134 w135 h136 => qY129 v131 B132 H133 _ rfl x134 w135 h136))) fun v9 B9 H9 x9 w9 h9 => k _ _ _ ((((((((x10.trans x15).trans x20).trans x27).trans x34).trans x70).trans x110).trans x112).trans x9) w9.tail h9
    rw [if_neg (by rw [hb111]; exact Bool.false_ne_true)] at hm
    obtain ⟨t146, e147, hm⟩ := bindS hm
    obtain ⟨t148, e149, hm⟩ := bindS hm
    obtain ⟨t150, e151, hm⟩ := bindS hm
    replace hm : some _ = some _ := hm
    obtain rfl := Option.some.inj hm
    exact q_ret w145 (ev_frz (el_cat (ev_frz (el_cat (ev_frz (el_slL (ev_var rfl (((rLst (rLst (rT2 rInt rInt)))).mono (((((((x10.trans x15).trans x20).trans x27).trans x34).trans x70).trans x110).trans x145) f1)) eo_none (eo_some (ev_varI rfl h22)))) (ev_frz (el_lst (r := (rLst (rT2 rInt rInt))) [t146] (ea_cons (ev_ixC (n := 0) (ev_varR rfl) (ev_varI rfl h17) rfl e147) ea_nil))) e149)) (ev_frz (el_slL (ev_var rfl (((rLst (rLst (rT2 rInt rInt)))).mono (((((((x10.trans x15).trans x20).trans x27).trans x34).trans x70).trans x110).trans x145) f1)) (eo_some (ev_add (ev_varI rfl h22) (ev_int (i := 1)))) eo_none)) e151)) fun v9 B9 H9 x9 w9 h9 => k _ _ _ ((((((((x10.trans x15).trans x20).trans x27).trans x34).trans x70).trans x110).trans x145).trans x9) w9.tail h9
noncomputable def m_law (a0 : (List Int)) : Option Bool :=
  Option.bind (m_l_tape a0) fun t10 =>
  Option.bind (loopR (S := ((List Int) × Int)) (R := Bool) (α := Int) (fun (s14 : ((List Int) × Int)) (x15 : Int) => (
    Option.bind (m_l_take s14 ((5 : Int))) fun t42 =>
    Option.bind (small62 t42.1) fun t47 =>
    Option.bind (room ((rng 0 t42.1)).length) fun t105 =>
    Option.bind (compM (S := ((List Int) × Int)) (β := (List (Int × Int))) (fun (s49 : ((List Int) × Int)) (x56 : Int) => (Option.bind (small62 t42.1) fun t73 => Option.bind (room ((rng 0 t42.1)).length) fun t101 => Option.bind (compM (S := ((List Int) × Int)) (β := (Int × Int)) (fun (s75 : ((List Int) × Int)) (x82 : Int) => (Option.bind (m_l_value s75) fun t99 => some (some t99.1, t99.2))) s49 ((rng 0 t42.1))) fun t103 => some (some t103.1, t103.2))) t42.2 ((rng 0 t42.1))) fun t107 =>
    Option.bind (small62 t42.1) fun t112 =>
    Option.bind (room ((rng 0 t42.1)).length) fun t140 =>
    Option.bind (compM (S := ((List Int) × Int)) (β := (Int × Int)) (fun (s114 : ((List Int) × Int)) (x121 : Int) => (Option.bind (m_l_value s114) fun t138 => some (some t138.1, t138.2))) t107.2 ((rng 0 t42.1))) fun t142 =>
    Option.bind ((if (decide (t42.1 > (0 : Int))) = true then (Option.bind (m_l_take t142.2 ((3 : Int))) fun t147 => some ((decide (t147.1 = (0 : Int))), t147.2)) else (some (false, t142.2)))) fun t149 =>
    Option.bind (if t149.1 = true then
      Option.bind (m_l_spoilt t149.2 t107.1) fun t156 =>
      some ((t156.1, t156.2))
    else
      some ((t107.1, t149.2))
    ) fun (s153 : ((List (List (Int × Int))) × ((List Int) × Int))) =>
    Option.bind (room s153.1.length) fun t190 =>
    Option.bind (compM (S := Unit) (β := (List (Int × Int))) (fun (s166 : Unit) (x173 : (List (Int × Int))) => ( some (some x173, ()))) (()) s153.1) fun t192 =>
    Option.bind (m_solve (((t192.1, t142.1)).1) (((t192.1, t142.1)).2)) fun t197 =>
    if (!decide ((t192.1, t142.1) = (s153.1, t142.1))) = true then
      some (Stp.rt false)
    else
      Option.bind (m_l_determinant 5 s153.1) fun t205 =>
      if (decide (t205.1 = (0 : Int))) = true then
        if t197.isSome = true then
          some (Stp.rt false)
        else
          some (Stp.nx s153.2)
      else
        Option.bind ((if (!(isLstD (((dOpt (dLst (dT2 PyData.int PyData.int))) t197)))) = true then (some (true)) else (Option.bind (t197) fun t213 => some ((!decide ((t213.length : Int) = t42.1)))))) fun t215 =>
        if t215 = true then
          some (Stp.rt false)
        else
          Option.bind (small62 t42.1) fun t221 =>
          Option.bind (loopR (S := Unit) (R := Bool) (α := Int) (fun (s223 : Unit) (x224 : Int) => (
            Option.bind (small62 t42.1) fun t248 =>
            Option.bind (foldO (S := (Int × Int)) (α := Int) (fun (s250 : (Int × Int)) (x251 : Int) => (
              Option.bind (ixL s153.1 x224) fun t272 =>
              Option.bind (ixL t272 x251) fun t274 =>
              Option.bind (t197) fun t276 =>
              Option.bind (ixL t276 x251) fun t278 =>
              Option.bind (m_l_times t274 t278) fun t280 =>
              Option.bind (m_l_plus s250 t280) fun t282 =>
              some t282
            )) (((0 : Int), (1 : Int))) ((rng 0 t42.1))) fun s287 =>
            Option.bind (ixL t142.1 x224) fun t296 =>
            Option.bind ((if (!decide (s287 = t296)) = true then (some (true)) else (Option.bind (t197) fun t298 => Option.bind (ixL t298 x224) fun t300 => Option.bind (t197) fun t302 => Option.bind (ixL t302 x224) fun t304 => Option.bind (t197) fun t306 => Option.bind (ixL t306 x224) fun t308 => Option.bind (m_l_ratio t304.1 t308.2) fun t310 => Option.bind (m_l_equal 8 (((dT2 PyData.int PyData.int) t300)) (((dT2 PyData.int PyData.int) t310))) fun t312 => some ((!t312))))) fun t314 =>
            if t314 = true then
              some (Stp.rt false)
            else
              some (Stp.nx (()))
          )) (()) ((rng 0 t42.1))) fun o226 =>
          match o226 with
          | .inl s321 =>
            some (Stp.nx s153.2)
          | .inr q9 => some (Stp.rt q9)
  )) ((t10, (0 : Int))) ((rng 0 ((3 : Int))))) fun o17 =>
  match o17 with
  | .inl s331 =>
    some true
  | .inr q9 => some q9
def C_law : List Arg → List Cell → Arg → List Cell → Prop := fun as L r L' => ∃ a0 c, as = [⟨(rScr rInt), a0⟩] ∧ L = [] ∧ m_law a0 = some c ∧ r = ⟨rBool, c⟩ ∧ L' = []
theorem sc_law : FnScope ["_law_script", "_law_state", "_law_turn", "_law_size", "_law_rows", "_law_right", "_law_passed", "_law_told", "_law_k", "_law_total", "_law_j", "_law_row"] ["_law_script"] (defScope s_law) := ⟨rfl, rfl, rfl, by decide +kernel, rfl, by decide +kernel, by decide +kernel⟩
set_option maxHeartbeats 0 in
theorem ok_law (F : FunC K "law" s_law f fd cc) (c__law_tape : Cl P w K mg base 1 "_law_tape" (spV K T C__law_tape) []) (c__law_take : Cl P w K mg base 2 "_law_take" (spV K T C__law_take) []) (c__law_value : Cl P w K mg base 3 "_law_value" (spV K T C__law_value) []) (c__law_spoilt : Cl P w K mg base 3 "_law_spoilt" (spV K T C__law_spoilt) []) (c_solve : Cl P w K mg base 4 "solve" (spV K T C_solve) []) (c__law_determinant : Cl P w K mg base 7 "_law_determinant" (spV K T (C__law_determinant 5)) []) (c__law_plus : Cl P w K mg base 2 "_law_plus" (spV K T C__law_plus) []) (c__law_times : Cl P w K mg base 2 "_law_times" (spV K T C__law_times) []) (c__law_equal : Cl P w K mg base 8 "_law_equal" (spV K T (C__law_equal 8)) []) (c__law_ratio : Cl P w K mg base 1 "_law_ratio" (spV K T C__law_ratio) []) (z_range : mg "range" = none) (z_list : mg "list" = none) (z_isinstance : mg "isinstance" = none) (z_len : mg "len" = none) : FnOk P w K mg base CX0 9 f fd ["_law_script"] (spV K T C_law) := by
  refine F.ok sc_law (fun vs H Q E h => ?_) (fun A outer s H vs Q E hr h => ?_)
  · obtain ⟨B, M, L, as, r, L', hT, w, ha, ⟨_, _, rfl, _⟩, k⟩ := h
    exact args_len ha
  · skip
    obtain ⟨B, M, L, as, r, L', rfl, w, ha, ⟨a0, c, rfl, rfl, hm, rfl, rfl⟩, k⟩ := h
    obtain ⟨u0, rfl, f0⟩ := args1 ha
    replace f0 : ((rScr rInt)).is K B u0 a0 := f0
    have hu := room_hu hr
    unfold m_law at hm
    refine ⟨_, (pss_cons (ps_set (i := 1) sc_law.nd rfl (by first | exact Or.inl rfl | exact Or.inr rfl) (pe_lst (pa_cons (pe_c c__law_tape hr (by omega) rfl (pa_cons (pv 0) pa_nil)) (pa_cons pe_int pa_nil)))) (pss_cons (ps_for PassesOwn.never rfl (pi_range1 rfl z_range (pa_cons pe_int pa_nil)) (pg_name (i := 2) sc_law.nd rfl (by first | exact Or.inl rfl | exact Or.inr rfl)) (pss_cons (ps_set (i := 3) sc_law.nd rfl (by first | exact Or.inl rfl | exact Or.inr rfl) (pe_c c__law_take hr (by omega) rfl (pa_cons (pv 1) (pa_cons pe_int pa_nil)))) (pss_cons (ps_setLc (i := 4) rfl sc_law.nd rfl rfl rfl (pi_range1 rfl z_range (pa_cons (pv 3) pa_nil)) (blkOk_by (own := [("_law_j", 10)]) (show blkC ["_law_script", "_law_state", "_law_turn", "_law_size", "_law_rows", "_law_right", "_law_passed", "_law_told", "_law_k", "_law_total", "_law_j", "_law_row"] (defScope s_law) _ _ = true by decide +kernel)) (fun _ _ _ _ _ => (pg_name (i := 10) sc_law.nd rfl (by first | exact Or.inl rfl | exact Or.inr rfl))) (fun _ _ _ _ _ => pts_nil) (fun _ _ _ _ _ => (pe_lc rfl sc_law.nd (pi_range1 rfl z_range (pa_cons (pv 3) pa_nil)) (blkOk_by (own := [("_law_k", 8)]) (by kernel_rfl)) (fun _ _ _ _ _ => (pg_name (i := 8) sc_law.nd rfl (by first | exact Or.inl rfl | exact Or.inr rfl))) (fun _ _ _ _ _ => pts_nil) (fun _ _ _ _ _ => (pe_c c__law_value hr (by omega) rfl (pa_cons (pv 1) pa_nil)))))) (pss_cons (ps_setLc (i := 5) rfl sc_law.nd rfl rfl rfl (pi_range1 rfl z_range (pa_cons (pv 3) pa_nil)) (blkOk_by (own := [("_law_k", 8)]) (show blkC ["_law_script", "_law_state", "_law_turn", "_law_size", "_law_rows", "_law_right", "_law_passed", "_law_told", "_law_k", "_law_total", "_law_j", "_law_row"] (defScope s_law) _ _ = true by decide +kernel)) (fun _ _ _ _ _ => (pg_name (i := 8) sc_law.nd rfl (by first | exact Or.inl rfl | exact Or.inr rfl))) (fun _ _ _ _ _ => pts_nil) (fun _ _ _ _ _ => (pe_c c__law_value hr (by omega) rfl (pa_cons (pv 1) pa_nil)))) (Evl.pss_cut (ps_if (PW.pt (pw_and (pt_cmpR op_gt (pv 3) pe_int (nomark _)) (pw_and1 (pt_cmpR op_eq (pe_c c__law_take hr (by omega) rfl (pa_cons (pv 1) (pa_cons pe_int pa_nil))) pe_int (nomark _))))) (pss_cons (ps_set (i := 4) sc_law.nd rfl (by first | exact Or.inl rfl | exact Or.inr rfl) (pe_c c__law_spoilt hr (by omega) rfl (pa_cons (pv 1) (pa_cons (pv 4) pa_nil)))) pss_nil) pss_nil) (pss_cons (ps_set (i := 6) sc_law.nd rfl (by first | exact Or.inl rfl | exact Or.inr rfl) (pe_lst (pa_cons (pe_lc rfl sc_law.nd (pi_list (pv 4)) (blkOk_by (own := [("_law_row", 11)]) (show blkC ["_law_script", "_law_state", "_law_turn", "_law_size", "_law_rows", "_law_right", "_law_passed", "_law_told", "_law_k", "_law_total", "_law_j", "_law_row"] (defScope s_law) _ _ = true by decide +kernel)) (fun _ _ _ _ _ => (pg_name (i := 11) sc_law.nd rfl (by first | exact Or.inl rfl | exact Or.inr rfl))) (fun _ _ _ _ _ => pts_nil) (fun _ _ _ _ _ => (pe_callTy (show CallR _ _ (rListOf K) from call_list_of) rfl z_list bt_list (pa_cons (pv 11) pa_nil)))) (pa_cons (pe_callTy call_list_of rfl z_list bt_list (pa_cons (pv 5) pa_nil)) pa_nil)))) (pss_cons (ps_set (i := 7) sc_law.nd rfl (by first | exact Or.inl rfl | exact Or.inr rfl) (pe_c c_solve hr (by omega) rfl (pa_cons (pe_ix ix_seq (pv 6) pe_int (fun _ _ => rfl)) (pa_cons (pe_ix ix_seq (pv 6) pe_int (fun _ _ => rfl)) pa_nil)))) (pss_cons (ps_if (pt_cmpR (op_neD hu) (pv 6) (pe_lst (pa_cons (pv 4) (pa_cons (pv 5) pa_nil))) (nomark _)) (pss_cons (ps_ret pe_bl) pss_nil) pss_nil) (pss_cons (ps_if (pt_cmpR op_eq (pe_ix ix_seq (pe_c c__law_determinant hr (by omega) rfl (pa_cons (pv 4) pa_nil)) pe_int (fun _ _ => rfl)) pe_int (nomark _)) (pss_cons (ps_if (pt_cmp (pc_notN (pv 7))) (pss_cons (ps_ret pe_bl) pss_nil) pss_nil) (pss_cons ps_continue pss_nil)) pss_nil) (pss_cons (ps_if (PW.pt (pw_or (pt_not (pt_val (pe_callB call_isi rfl z_isinstance bt_isinstance (pa_cons (pv 7) (pa_cons (pe_bltn (v := .ty "list") rfl z_list bt_list rfl) pa_nil))))) (pw_or1 (pt_cmpR op_ne (pe_callB call_len_seq rfl z_len bt_len (pa_cons (pv 7) pa_nil)) (pv 3) (nomark _))))) (pss_cons (ps_ret pe_bl) pss_nil) pss_nil) (pss_cons (ps_for PassesOwn.never rfl (pi_range1 rfl z_range (pa_cons (pv 3) pa_nil)) (pg_name (i := 8) sc_law.nd rfl (by first | exact Or.inl rfl | exact Or.inr rfl)) (pss_cons (ps_set (i := 9) sc_law.nd rfl (by first | exact Or.inl rfl | exact Or.inr rfl) (pe_tup (pa_cons pe_int (pa_cons pe_int pa_nil)))) (pss_cons (ps_for PassesOwn.never rfl (pi_range1 rfl z_range (pa_cons (pv 3) pa_nil)) (pg_name (i := 10) sc_law.nd rfl (by first | exact Or.inl rfl | exact Or.inr rfl)) (pss_cons (ps_set (i := 9) sc_law.nd rfl (by first | exact Or.inl rfl | exact Or.inr rfl) (pe_c c__law_plus hr (by omega) rfl (pa_cons (pv 9) (pa_cons (pe_c c__law_times hr (by omega) rfl (pa_cons (pe_ix ix_seq (pe_ix ix_seq (pv 4) (pv 8) (fun _ _ => rfl)) (pv 10) (fun _ _ => rfl)) (pa_cons (pe_ix ix_seq (pv 7) (pv 10) (fun _ _ => rfl)) pa_nil))) pa_nil)))) pss_nil)) (pss_cons (ps_if (PW.pt (pw_or (pt_cmpR (op_neD hu) (pv 9) (pe_ix ix_seq (pv 5) (pv 8) (fun _ _ => rfl)) (nomark _)) (pw_or1 (pt_not (pt_val (pe_c c__law_equal hr (by omega) rfl (pa_cons (pe_ix ix_seq (pv 7) (pv 8) (fun _ _ => rfl)) (pa_cons (pe_c c__law_ratio hr (by omega) rfl (pa_cons (pe_ix ix_seq (pe_ix ix_seq (pv 7) (pv 8) (fun _ _ => rfl)) pe_int (fun _ _ => rfl)) (pa_cons (pe_ix ix_seq (pe_ix ix_seq (pv 7) (pv 8) (fun _ _ => rfl)) pe_int (fun _ _ => rfl)) pa_nil))) pa_nil)))))))) (pss_cons (ps_ret pe_bl) pss_nil) pss_nil) pss_nil)))) pss_nil))))))))))) (pss_cons (ps_ret pe_bl) pss_nil))), ?_⟩
    rw [show start ["_law_script", "_law_state", "_law_turn", "_law_size", "_law_rows", "_law_right", "_law_passed", "_law_told", "_law_k", "_law_total", "_law_j", "_law_row"] [u0] = ([some u0, none, none, none, none, none, none, none, none, none, none, none] : L2.St) from rfl]
    obtain ⟨t10, e11, hm⟩ := bindS hm
    refine q_asgL2 (n := 1) (r := (rLst rInt)) (s := rInt) w (ea_cons (ev_call (ea_cons (ev_var rfl f0) ea_nil) ⟨_, _, rfl, rfl, e11, rfl, rfl⟩) (ea_cons (ev_int (i := 0)) ea_nil)) fun p13 B12 H12 x12 (w12 : Own K B12 M [⟨p13, (cL2 (rLst rInt) rInt), (t10, (0 : Int))⟩] H12) => ?_
    obtain ⟨o17, e18, hm⟩ := bindS hm
    refine q_forR w12 (ei_rng1 (ea_cons (ev_int (i := 3)) ea_nil) (by decide)) _ (fun s14 B19 σ32 => ∃ o33 o34 o35 o36 o37 o38 o39 o40 o41, σ32 = [some u0, some (.ref p13), o33, o34, o35, o36, o37, o38, o39, o40, o41, none]) (fun s14 => [⟨p13, (cL2 (rLst rInt) rInt), s14⟩]) ((t10, (0 : Int))) e18 (fun B9 x9 => ⟨_, _, _, _, _, _, _, _, _, rfl⟩) rfl ?_ ?_
    · skip
      rintro s14 x15 s346 v25 B19 B20 H21 σ32 hb16 x22 ⟨o33, o34, o35, o36, o37, o38, o39, o40, o41, rfl⟩ x23 w24 h26 ho31 N27 K28 hN29 hB30
      replace w24 : Own K B20 M [⟨p13, (cL2 (rLst rInt) rInt), s14⟩] H21 := w24
      refine g_name ?_
      obtain ⟨t42, e43, hb16⟩ := bindS hb16
      refine q_asg (n := 3) w24 (ev_callC 0 (x := ⟨p13, (cL2 (rLst rInt) rInt), s14⟩) (x' := ⟨p13, (cL2 (rLst rInt) rInt), t42.2⟩) (ea_cons (ev_varR rfl) (ea_cons (ev_int (i := 5)) ea_nil)) rfl ⟨_, _, _, _, rfl, rfl, e43, rfl, rfl⟩ rfl) fun v45 B44 H44 x44 (w44 : Own K B44 M [⟨p13, (cL2 (rLst rInt) rInt), t42.2⟩] H44) h46 => ?_
      obtain ⟨t47, e48, hb16⟩ := bindS hb16
      obtain ⟨t105, e106, hb16⟩ := bindS hb16
      obtain ⟨t107, e108, hb16⟩ := bindS hb16
      refine q_asg (n := 4) w44 (ev_frz (el_lc (S := ((List Int) × Int)) (ys := t107.1) (s1 := t107.2) (s0 := t42.2) (σ' := [some u0, some (.ref p13), some v25, some v45, o35, o36, o37, o38, o39, o40, none, none]) (rLst (rT2 rInt rInt)) (ei_rng1 (ea_cons (ev_varI rfl h46) ea_nil) e48) _ (fun (s49 : ((List Int) × Int)) => [⟨p13, (cL2 (rLst rInt) rInt), s49⟩]) rfl e108 e106 rfl (by rintro s49 x56 o61 s62 v54 D59 a60 B50 H51 hb58 x52 w53 h55 PY63 PN64 qY65 qN66; replace w53 : Own K B50 M [⟨D59, (cLst (rLst (rT2 rInt rInt))), a60⟩, ⟨p13, (cL2 (rLst rInt) rInt), s49⟩] H51 := w53; refine g_name ?_; refine ⟨rfl, ?_⟩; obtain ⟨t73, e74, hb58⟩ := bindS hb58; obtain ⟨t101, e102, hb58⟩ := bindS hb58; obtain ⟨t103, e104, hb58⟩ := bindS hb58; obtain ⟨rfl, rfl⟩ := Prod.mk.inj (Option.some.inj hb58); refine lc_yes ?_; exact (ev_frz (el_lc (S := ((List Int) × Int)) (ys := t103.1) (s1 := t103.2) (s0 := s49) (σ' := [some u0, some (.ref p13), some v25, some v45, o35, o36, o37, o38, none, o40, some v54, none]) (rT2 rInt rInt) (ei_rng1 (ea_cons (ev_varI rfl h46) ea_nil) e74) _ (fun (s75 : ((List Int) × Int)) => [⟨D59, (cLst (rLst (rT2 rInt rInt))), a60⟩, ⟨p13, (cL2 (rLst rInt) rInt), s75⟩]) rfl e104 e102 rfl (by rintro s75 x82 o87 s88 v80 D85 a86 B76 H77 hb84 x78 w79 h81 PY89 PN90 qY91 qN92; replace w79 : Own K B76 M [⟨D85, (cLst (rT2 rInt rInt)), a86⟩, ⟨D59, (cLst (rLst (rT2 rInt rInt))), a60⟩, ⟨p13, (cL2 (rLst rInt) rInt), s75⟩] H77 := w79; refine g_name ?_; refine ⟨rfl, ?_⟩; obtain ⟨t99, e100, hb84⟩ := bindS hb84; obtain ⟨rfl, rfl⟩ := Prod.mk.inj (Option.some.inj hb84); refine lc_yes ?_; exact (ev_callC 2 (x := ⟨p13, (cL2 (rLst rInt) rInt), s75⟩) (x' := ⟨p13, (cL2 (rLst rInt) rInt), t99.2⟩) (ea_cons (ev_varR rfl) ea_nil) rfl ⟨_, _, _, rfl, rfl, e100, rfl, rfl⟩ rfl) B76 H77 (Ex.refl _) w79 _ fun v93 B94 H95 x96 w97 h98 => qY91 v93 B94 H95 _ rfl x96 w97 h98))) B50 H51 (Ex.refl _) w53 _ fun v67 B68 H69 x70 w71 h72 => qY65 v67 B68 H69 _ rfl x70 w71 h72))) fun v110 B109 H109 x109 (w109 : Own K B109 M [⟨p13, (cL2 (rLst rInt) rInt), t107.2⟩] H109) h111 => ?_
      obtain ⟨t112, e113, hb16⟩ := bindS hb16
      obtain ⟨t140, e141, hb16⟩ := bindS hb16
      obtain ⟨t142, e143, hb16⟩ := bindS hb16
      refine q_asg (n := 5) w109 (ev_frz (el_lc (S := ((List Int) × Int)) (ys := t142.1) (s1 := t142.2) (s0 := t107.2) (σ' := [some u0, some (.ref p13), some v25, some v45, some v110, o36, o37, o38, none, o40, o41, none]) (rT2 rInt rInt) (ei_rng1 (ea_cons (ev_varI rfl h46) ea_nil) e113) _ (fun (s114 : ((List Int) × Int)) => [⟨p13, (cL2 (rLst rInt) rInt), s114⟩]) rfl e143 e141 rfl (by rintro s114 x121 o126 s127 v119 D124 a125 B115 H116 hb123 x117 w118 h120 PY128 PN129 qY130 qN131; replace w118 : Own K B115 M [⟨D124, (cLst (rT2 rInt rInt)), a125⟩, ⟨p13, (cL2 (rLst rInt) rInt), s114⟩] H116 := w118; refine g_name ?_; refine ⟨rfl, ?_⟩; obtain ⟨t138, e139, hb123⟩ := bindS hb123; obtain ⟨rfl, rfl⟩ := Prod.mk.inj (Option.some.inj hb123); refine lc_yes ?_; exact (ev_callC 1 (x := ⟨p13, (cL2 (rLst rInt) rInt), s114⟩) (x' := ⟨p13, (cL2 (rLst rInt) rInt), t138.2⟩) (ea_cons (ev_varR rfl) ea_nil) rfl ⟨_, _, _, rfl, rfl, e139, rfl, rfl⟩ rfl) B115 H116 (Ex.refl _) w118 _ fun v132 B133 H134 x135 w136 h137 => qY130 v132 B133 H134 _ rfl x135 w136 h137))) fun v145 B144 H144 x144 (w144 : Own K B144 M [⟨p13, (cL2 (rLst rInt) rInt), t142.2⟩] H144) h146 => ?_
      obtain ⟨t149, e150, hb16⟩ := bindS hb16
      obtain ⟨s153, e154, hb16⟩ := bindS hb16
      refine q_cut (fun σ165 H162 => ∃ v163 B162, Ex B144 B162 ∧ Own K B162 M [⟨p13, (cL2 (rLst rInt) rInt), s153.2⟩] H162 ∧ σ165 = [some u0, some (.ref p13), some v25, some v45, some v163, some v145, o37, o38, o39, o40, o41, none] ∧ ((rLst (rLst (rT2 rInt rInt)))).is K B162 v163 s153.1) ?_ ?_
      · skip
        refine q_ifc w144 (et_and' (d := t149.1) (et_test (ev_gt (ev_varI rfl h46) (ev_int (i := 0)))) (fun hb151 => by rw [if_pos hb151] at e150; obtain ⟨t147, e148, e150⟩ := bindS e150; obtain rfl := Option.some.inj e150; exact (et_test (ev_eqI (ev_callC 0 (x := ⟨p13, (cL2 (rLst rInt) rInt), t142.2⟩) (x' := ⟨p13, (cL2 (rLst rInt) rInt), t147.2⟩) (ea_cons (ev_varR rfl) (ea_cons (ev_int (i := 3)) ea_nil)) rfl ⟨_, _, _, _, rfl, rfl, e148, rfl, rfl⟩ rfl) (ev_int (i := 0))))) (fun hb151 => by rw [if_neg (by rw [hb151]; exact Bool.false_ne_true)] at e150; obtain rfl := Option.some.inj e150; exact ⟨rfl, rfl⟩)) (fun hb152 B155 H155 x155 (w155 : Own K B155 M [⟨p13, (cL2 (rLst rInt) rInt), t149.2⟩] H155) => ?_) (fun hb152 B161 H161 x161 (w161 : Own K B161 M [⟨p13, (cL2 (rLst rInt) rInt), t149.2⟩] H161) => ?_)
        · skip
          rw [if_pos hb152] at e154
          obtain ⟨t156, e157, e154⟩ := bindS e154
          refine q_asg (n := 4) w155 (ev_callC 0 (x := ⟨p13, (cL2 (rLst rInt) rInt), t149.2⟩) (x' := ⟨p13, (cL2 (rLst rInt) rInt), t156.2⟩) (ea_cons (ev_varR rfl) (ea_cons (ev_var rfl (((rLst (rLst (rT2 rInt rInt)))).mono (x144.trans x155) h111)) ea_nil)) rfl ⟨_, _, _, _, rfl, rfl, e157, rfl, rfl⟩ rfl) fun v159 B158 H158 x158 (w158 : Own K B158 M [⟨p13, (cL2 (rLst rInt) rInt), t156.2⟩] H158) h160 => ?_
          replace e154 : some _ = some _ := e154
          cases e154
          exact ⟨v159, _, (x155.trans x158), w158, rfl, h160⟩
        rw [if_neg (by rw [hb152]; exact Bool.false_ne_true)] at e154
        replace e154 : some _ = some _ := e154
        cases e154
        exact ⟨v110, _, x161, w161, rfl, (((rLst (rLst (rT2 rInt rInt)))).mono (x144.trans x161) h111)⟩
      rintro σ165' H162 ⟨v163, B162, x162, w162, rfl, h164⟩
      obtain ⟨t190, e191, hb16⟩ := bindS hb16
      obtain ⟨t192, e193, hb16⟩ := bindS hb16
      refine q_asg (n := 6) w162 (ev_L2 (r := (rLst (rLst (rT2 rInt rInt)))) (s := (rLst (rT2 rInt rInt))) (ea_cons (ev_frz (el_lc (S := Unit) (ys := t192.1) (s1 := t192.2) (s0 := ()) (σ' := [some u0, some (.ref p13), some v25, some v45, some v163, some v145, o37, o38, o39, o40, o41, none]) (rLst (rT2 rInt rInt)) (ei_lst (ev_var rfl h164)) _ (fun (s166 : Unit) => [⟨p13, (cL2 (rLst rInt) rInt), s153.2⟩]) rfl e193 e191 rfl (by rintro s166 x173 o178 s179 v171 D176 a177 B167 H168 hb175 x169 w170 h172 PY180 PN181 qY182 qN183; replace w170 : Own K B167 M [⟨D176, (cLst (rLst (rT2 rInt rInt))), a177⟩, ⟨p13, (cL2 (rLst rInt) rInt), s153.2⟩] H168 := w170; refine g_name ?_; refine ⟨rfl, ?_⟩; obtain ⟨rfl, rfl⟩ := Prod.mk.inj (Option.some.inj hb175); refine lc_yes ?_; exact (ev_frz (el_listOf (ev_seqL (ev_var rfl h172)))) B167 H168 (Ex.refl _) w170 _ fun v184 B185 H186 x187 w188 h189 => qY182 v184 B185 H186 _ rfl x187 w188 h189))) (ea_cons (ev_frz (el_listOf (ev_seqL (ev_var rfl (((rLst (rT2 rInt rInt))).mono x162 h146))))) ea_nil))) fun v195 B194 H194 x194 (w194 : Own K B194 M [⟨p13, (cL2 (rLst rInt) rInt), s153.2⟩] H194) h196 => ?_
      obtain ⟨t197, e198, hb16⟩ := bindS hb16
      refine q_asg (n := 7) w194 (ev_call (ea_cons (ev_L2fst (ev_var rfl h196)) (ea_cons (ev_L2snd (ev_var rfl h196)) ea_nil)) ⟨_, _, _, rfl, rfl, e198, rfl, rfl⟩) fun v200 B199 H199 x199 (w199 : Own K B199 M [⟨p13, (cL2 (rLst rInt) rInt), s153.2⟩] H199) h201 => ?_
      refine q_if w199 (et_test (ev_neT (dr_L2 (dr_lst (dr_lst (dr_T2 dr_int dr_int))) (dr_lst (dr_T2 dr_int dr_int))) (by decide) (ev_var rfl (((rL2 (rLst (rLst (rT2 rInt rInt))) (rLst (rT2 rInt rInt)))).mono x199 h196)) (ev_L2 (r := (rLst (rLst (rT2 rInt rInt)))) (s := (rLst (rT2 rInt rInt))) (ea_cons (ev_var rfl (((rLst (rLst (rT2 rInt rInt)))).mono (x194.trans x199) h164)) (ea_cons (ev_var rfl (((rLst (rT2 rInt rInt))).mono ((x162.trans x194).trans x199) h146)) ea_nil))))) (fun hb202 B203 H203 x203 (w203 : Own K B203 M [⟨p13, (cL2 (rLst rInt) rInt), s153.2⟩] H203) => ?_) (fun hb202 B204 H204 x204 (w204 : Own K B204 M [⟨p13, (cL2 (rLst rInt) rInt), s153.2⟩] H204) => ?_)
      · skip
        rw [if_pos hb202] at hb16
        replace hb16 : some _ = some _ := hb16
        obtain rfl := Option.some.inj hb16
        obtain rfl := ho31 _ rfl
        replace hm : some _ = some _ := hm
        obtain rfl := Option.some.inj hm
        exact q_ret w203 (ev_bl (b := false)) fun v9 B9 H9 x9 w9 h9 => k _ _ _ ((((((((((x12.trans x22).trans x23).trans x44).trans x109).trans x144).trans x162).trans x194).trans x199).trans x203).trans x9) w9.tail h9
      rw [if_neg (by rw [hb202]; exact Bool.false_ne_true)] at hb16
      obtain ⟨t205, e206, hb16⟩ := bindS hb16
      refine q_if w204 (et_test (ev_eqI (ev_fst (ev_call (ea_cons (ev_var rfl (((rLst (rLst (rT2 rInt rInt)))).mono ((x194.trans x199).trans x204) h164)) ea_nil) ⟨_, _, rfl, rfl, e206, rfl, rfl⟩)) (ev_int (i := 0)))) (fun hb207 B208 H208 x208 (w208 : Own K B208 M [⟨p13, (cL2 (rLst rInt) rInt), s153.2⟩] H208) => ?_) (fun hb207 B212 H212 x212 (w212 : Own K B212 M [⟨p13, (cL2 (rLst rInt) rInt), s153.2⟩] H212) => ?_)
      · skip
        rw [if_pos hb207] at hb16
        refine q_if w208 (et_B (ev_notN (ev_var rfl (((rOpt (rLst (rT2 rInt rInt)))).mono (x204.trans x208) h201)) (fun _ => nn_rLst))) (fun hb209 B210 H210 x210 (w210 : Own K B210 M [⟨p13, (cL2 (rLst rInt) rInt), s153.2⟩] H210) => ?_) (fun hb209 B211 H211 x211 (w211 : Own K B211 M [⟨p13, (cL2 (rLst rInt) rInt), s153.2⟩] H211) => ?_)
        · skip
          rw [if_pos hb209] at hb16
          replace hb16 : some _ = some _ := hb16
          obtain rfl := Option.some.inj hb16
          obtain rfl := ho31 _ rfl
          replace hm : some _ = some _ := hm
          obtain rfl := Option.some.inj hm
          exact q_ret w210 (ev_bl (b := false)) fun v9 B9 H9 x9 w9 h9 => k _ _ _ ((((((((((((x12.trans x22).trans x23).trans x44).trans x109).trans x144).trans x162).trans x194).trans x199).trans x204).trans x208).trans x210).trans x9) w9.tail h9
        rw [if_neg (by rw [hb209]; exact Bool.false_ne_true)] at hb16
        replace hb16 : some _ = some _ := hb16
        cases hb16
        exact hN29 _ _ _ _ rfl ((((((((x44.trans x109).trans x144).trans x162).trans x194).trans x199).trans x204).trans x208).trans x211) w211 ⟨_, _, _, _, _, _, _, _, _, rfl⟩
      rw [if_neg (by rw [hb207]; exact Bool.false_ne_true)] at hb16
      obtain ⟨t215, e216, hb16⟩ := bindS hb16
      refine q_if w212 (et_or' (d := t215) (et_not (et_B (ev_isi "list" isLstD isi_list (ev_dq (ev_var rfl (((rOpt (rLst (rT2 rInt rInt)))).mono (x204.trans x212) h201)) (dq_opt (dq_lst (dq_T2 dq_int dq_int))))))) (fun hb217 => by rw [if_neg (by rw [hb217]; exact Bool.false_ne_true)] at e216; obtain ⟨t213, e214, e216⟩ := bindS e216; obtain rfl := Option.some.inj e216; exact (et_test (ev_neI (ev_len (ev_seqL (ev_get (ev_var rfl (((rOpt (rLst (rT2 rInt rInt)))).mono (x204.trans x212) h201)) e214))) (ev_varI rfl h46)))) (fun hb217 => by rw [if_pos hb217] at e216; obtain rfl := Option.some.inj e216; exact ⟨rfl, rfl⟩)) (fun hb218 B219 H219 x219 (w219 : Own K B219 M [⟨p13, (cL2 (rLst rInt) rInt), s153.2⟩] H219) => ?_) (fun hb218 B220 H220 x220 (w220 : Own K B220 M [⟨p13, (cL2 (rLst rInt) rInt), s153.2⟩] H220) => ?_)
      · skip
        rw [if_pos hb218] at hb16
        replace hb16 : some _ = some _ := hb16
        obtain rfl := Option.some.inj hb16
        obtain rfl := ho31 _ rfl
        replace hm : some _ = some _ := hm
        obtain rfl := Option.some.inj hm
        exact q_ret w219 (ev_bl (b := false)) fun v9 B9 H9 x9 w9 h9 => k _ _ _ ((((((((((((x12.trans x22).trans x23).trans x44).trans x109).trans x144).trans x162).trans x194).trans x199).trans x204).trans x212).trans x219).trans x9) w9.tail h9
      rw [if_neg (by rw [hb218]; exact Bool.false_ne_true)] at hb16
      obtain ⟨t221, e222, hb16⟩ := bindS hb16
      obtain ⟨o226, e227, hb16⟩ := bindS hb16
      refine q_forR w220 (ei_rng1 (ea_cons (ev_varI rfl h46) ea_nil) e222) _ (fun s223 B228 σ241 => ∃ o242 o243 o244, σ241 = [some u0, some (.ref p13), some v25, some v45, some v163, some v145, some v195, some v200, o242, o243, o244, none]) (fun s223 => [⟨p13, (cL2 (rLst rInt) rInt), s153.2⟩]) (()) e227 (fun B9 x9 => ⟨_, _, _, rfl⟩) rfl ?_ ?_
      · skip
        rintro s223 x224 s330 v234 B228 B229 H230 σ241 hb225 x231 ⟨o242, o243, o244, rfl⟩ x232 w233 h235 ho240 N236 K237 hN238 hB239
        replace w233 : Own K B229 M [⟨p13, (cL2 (rLst rInt) rInt), s153.2⟩] H230 := w233
        refine g_name ?_
        refine q_asg (n := 9) w233 (ev_T2 (ea_cons (ev_int (i := 0)) (ea_cons (ev_int (i := 1)) ea_nil))) fun v246 B245 H245 x245 (w245 : Own K B245 M [⟨p13, (cL2 (rLst rInt) rInt), s153.2⟩] H245) h247 => ?_
        obtain ⟨t248, e249, hb225⟩ := bindS hb225
        obtain ⟨s287, e254, hb225⟩ := bindS hb225
        refine q_fold w245 (ei_rng1 (ea_cons (ev_varI rfl h46) ea_nil) e249) _ (fun s250 B255 σ268 => ∃ v269 o271, σ268 = [some u0, some (.ref p13), some v25, some v45, some v163, some v145, some v195, some v200, some v234, some v269, o271, none] ∧ ((rT2 rInt rInt)).is K B255 v269 s250) (fun s250 => [⟨p13, (cL2 (rLst rInt) rInt), s153.2⟩]) (((0 : Int), (1 : Int))) e254 (fun B9 x9 => ⟨v246, _, rfl, (((rT2 rInt rInt)).mono x9 h247)⟩) rfl ?_ ?_
        · skip
          rintro s250 x251 s320 v261 B255 B256 H257 σ268 hb252 x258 ⟨v269, o271, rfl, h270⟩ x259 w260 h262 N263 K264 hN265
          replace w260 : Own K B256 M [⟨p13, (cL2 (rLst rInt) rInt), s153.2⟩] H257 := w260
          refine g_name ?_
          obtain ⟨t272, e273, hb252⟩ := bindS hb252
          obtain ⟨t274, e275, hb252⟩ := bindS hb252
          obtain ⟨t276, e277, hb252⟩ := bindS hb252
          obtain ⟨t278, e279, hb252⟩ := bindS hb252
          obtain ⟨t280, e281, hb252⟩ := bindS hb252
          obtain ⟨t282, e283, hb252⟩ := bindS hb252
          refine q_asg (n := 9) w260 (ev_call (ea_cons (ev_var rfl (((rT2 rInt rInt)).mono x259 h270)) (ea_cons (ev_call (ea_cons (ev_ix (ev_seqL (ev_ix (ev_seqL (ev_var rfl (((rLst (rLst (rT2 rInt rInt)))).mono (((((((((x194.trans x199).trans x204).trans x212).trans x220).trans x231).trans x232).trans x245).trans x258).trans x259) h164))) (ev_varI rfl h235) e273)) (ev_varI rfl h262) e275) (ea_cons (ev_ix (ev_seqL (ev_get (ev_var rfl (((rOpt (rLst (rT2 rInt rInt)))).mono (((((((x204.trans x212).trans x220).trans x231).trans x232).trans x245).trans x258).trans x259) h201)) e277)) (ev_varI rfl h262) e279) ea_nil)) ⟨_, _, _, rfl, rfl, e281, rfl, rfl⟩) ea_nil)) ⟨_, _, _, rfl, rfl, e283, rfl, rfl⟩) fun v285 B284 H284 x284 (w284 : Own K B284 M [⟨p13, (cL2 (rLst rInt) rInt), s153.2⟩] H284) h286 => ?_
          replace hb252 : some _ = some _ := hb252
          cases hb252
          exact hN265 _ _ _ x284 w284 ⟨v285, _, rfl, h286⟩
        rintro B288 H289 σ292 x290 w291 ⟨v293, o295, rfl, h294⟩
        replace w291 : Own K B288 M [⟨p13, (cL2 (rLst rInt) rInt), s153.2⟩] H289 := w291
        obtain ⟨t296, e297, hb225⟩ := bindS hb225
        obtain ⟨t314, e315, hb225⟩ := bindS hb225
        refine q_if w291 (et_or' (d := t314) (et_test (ev_neT (dr_T2 dr_int dr_int) (by decide) (ev_var rfl h294) (ev_ix (ev_seqL (ev_var rfl (((rLst (rT2 rInt rInt))).mono (((((((((x162.trans x194).trans x199).trans x204).trans x212).trans x220).trans x231).trans x232).trans x245).trans x290) h146))) (ev_varI rfl h235) e297))) (fun hb316 => by rw [if_neg (by rw [hb316]; exact Bool.false_ne_true)] at e315; obtain ⟨t298, e299, e315⟩ := bindS e315; obtain ⟨t300, e301, e315⟩ := bindS e315; obtain ⟨t302, e303, e315⟩ := bindS e315; obtain ⟨t304, e305, e315⟩ := bindS e315; obtain ⟨t306, e307, e315⟩ := bindS e315; obtain ⟨t308, e309, e315⟩ := bindS e315; obtain ⟨t310, e311, e315⟩ := bindS e315; obtain ⟨t312, e313, e315⟩ := bindS e315; obtain rfl := Option.some.inj e315; exact (et_not (et_B (ev_call (ea_cons (ev_dq (ev_ix (ev_seqL (ev_get (ev_var rfl (((rOpt (rLst (rT2 rInt rInt)))).mono ((((((x204.trans x212).trans x220).trans x231).trans x232).trans x245).trans x290) h201)) e299)) (ev_varI rfl h235) e301) (dq_T2 dq_int dq_int)) (ea_cons (ev_dq (ev_call (ea_cons (ev_fst (ev_ix (ev_seqL (ev_get (ev_var rfl (((rOpt (rLst (rT2 rInt rInt)))).mono ((((((x204.trans x212).trans x220).trans x231).trans x232).trans x245).trans x290) h201)) e303)) (ev_varI rfl h235) e305)) (ea_cons (ev_snd (ev_ix (ev_seqL (ev_get (ev_var rfl (((rOpt (rLst (rT2 rInt rInt)))).mono ((((((x204.trans x212).trans x220).trans x231).trans x232).trans x245).trans x290) h201)) e307)) (ev_varI rfl h235) e309)) ea_nil)) ⟨_, _, _, rfl, rfl, e311, rfl, rfl⟩) (dq_T2 dq_int dq_int)) ea_nil)) ⟨_, _, _, rfl, rfl, e313, rfl, rfl⟩)))) (fun hb316 => by rw [if_pos hb316] at e315; obtain rfl := Option.some.inj e315; exact ⟨rfl, rfl⟩)) (fun hb317 B318 H318 x318 (w318 : Own K B318 M [⟨p13, (cL2 (rLst rInt) rInt), s153.2⟩] H318) => ?_) (fun hb317 B319 H319 x319 (w319 : Own K B319 M [⟨p13, (cL2 (rLst rInt) rInt), s153.2⟩] H319) => ?_)
        · skip
          rw [if_pos hb317] at hb225
          replace hb225 : some _ = some _ := hb225
          obtain rfl := Option.some.inj hb225
          obtain rfl := ho240 _ rfl
          replace hb16 : some _ = some _ := hb16
          obtain rfl := Option.some.inj hb16
          obtain rfl := ho31 _ rfl
          replace hm : some _ = some _ := hm
          obtain rfl := Option.some.inj hm
          exact q_ret w318 (ev_bl (b := false)) fun v9 B9 H9 x9 w9 h9 => k _ _ _ (((((((((((((((((x12.trans x22).trans x23).trans x44).trans x109).trans x144).trans x162).trans x194).trans x199).trans x204).trans x212).trans x220).trans x231).trans x232).trans x245).trans x290).trans x318).trans x9) w9.tail h9
        rw [if_neg (by rw [hb317]; exact Bool.false_ne_true)] at hb225
        replace hb225 : some _ = some _ := hb225
        cases hb225
        exact hN238 _ _ _ _ rfl ((x245.trans x290).trans x319) w319 ⟨_, _, _, rfl⟩
      rintro s321 B322 H323 σ326 rfl x324 w325 ⟨o327, o328, o329, rfl⟩
      dsimp only at hb16
      replace w325 : Own K B322 M [⟨p13, (cL2 (rLst rInt) rInt), s153.2⟩] H323 := w325
      replace hb16 : some _ = some _ := hb16
      cases hb16
      exact hN29 _ _ _ _ rfl (((((((((x44.trans x109).trans x144).trans x162).trans x194).trans x199).trans x204).trans x212).trans x220).trans x324) w325 ⟨_, _, _, _, _, _, _, _, _, rfl⟩
    rintro s331 B332 H333 σ336 rfl x334 w335 ⟨o337, o338, o339, o340, o341, o342, o343, o344, o345, rfl⟩
    dsimp only at hm
    replace w335 : Own K B332 M [⟨p13, (cL2 (rLst rInt) rInt), s331⟩] H333 := w335
    replace hm : some _ = some _ := hm
    obtain rfl := Option.some.inj hm
    exact q_ret w335 (ev_bl (b := true)) fun v9 B9 H9 x9 w9 h9 => k _ _ _ ((x12.trans x334).trans x9) w9.tail h9
end
end L3

namespace L3
open PySem L2
/-! ### the prelude of the laws: tape, draw, take, equal -/
def TapeOk (t : List Int) : Prop := t.length ≤ 4000 ∧ ∀ x ∈ t, 0 ≤ x ∧ x < 2 ^ 31
theorem all_app {t : List Int} {x : Int} (h : ∀ y ∈ t, 0 ≤ y ∧ y < (2 : Int) ^ 31) (hx : 0 ≤ x ∧ x < (2 : Int) ^ 31) : ∀ y ∈ t ++ [x], 0 ≤ y ∧ y < (2 : Int) ^ 31 := fun y hy => by
  rcases List.mem_append.mp hy with hy | hy
  · exact h y hy
  · rw [List.mem_singleton.mp hy]; exact hx
theorem tape_ok {ns : List Int} (h : ns.length ≤ 63) : Yes (m_l_tape ns) TapeOk := by
  unfold m_l_tape
  refine y_bind (Q := TapeOk) ?_ fun t h => y_some h
  refine (y_foldI _ (fun i t => t.length ≤ 40 * i ∧ ∀ x ∈ t, 0 ≤ x ∧ x < (2 : Int) ^ 31) ⟨by simp, by simp⟩ ?_).mono fun t ht => ⟨by have := ht.1; omega, ht.2⟩
  rintro i x s hx ⟨h1, h2⟩
  have hi : i < ns.length := (List.getElem?_eq_some_iff.mp hx).1
  refine y_eq (mulI_l (by decide) (by decide)) ?_
  refine y_bind (Q := fun n => 0 ≤ n) (y_if (fun c => y_some ?_) (fun c => y_some ?_)) fun n hn => ?_
  · have := of_decide_eq_true c; omega
  · have : ¬ (2 * x < 0) := fun z => c (decide_eq_true z)
    omega
  refine y_eq (a := 1000000000000000000) (by decide +kernel) ?_
  refine y_bind (Q := fun (p : Int × List Int) => p.2.length ≤ 40 * (i + 1) ∧ ∀ x ∈ p.2, 0 ≤ x ∧ x < (2 : Int) ^ 31) (y_if (fun c => ?_) (fun c => ?_)) fun p hp => y_some hp
  · refine y_bind (Q := fun (p : Int × List Int) => p.2.length ≤ 40 * (i + 1) ∧ ∀ x ∈ p.2, 0 ≤ x ∧ x < (2 : Int) ^ 31) ?_ fun p hp => y_some hp
    refine (y_foldI _ (fun j (p : Int × List Int) => 0 ≤ p.1 ∧ p.2.length ≤ 40 * i + j ∧ ∀ x ∈ p.2, 0 ≤ x ∧ x < (2 : Int) ^ 31) ⟨hn, h1, h2⟩ ?_).mono fun p hp => ⟨by have := hp.2.1; rw [rng_len] at this; simp at this; omega, hp.2.2⟩
    rintro j y ⟨m, t⟩ hy ⟨g1, g2, g3⟩
    have hj := (rng_at hy).2
    have hj : j < 40 := by omega
    refine y_bind (Q := fun (p : Int × List Int) => 0 ≤ p.1 ∧ p.2.length ≤ 40 * i + (j + 1) ∧ ∀ x ∈ p.2, 0 ≤ x ∧ x < (2 : Int) ^ 31) (y_if (fun c => ?_) (fun c => ?_)) fun p hp => y_some hp
    · refine y_eq (modI_s (by decide)) (y_eq (room_s (by show t.length ≤ _; show _ ≤ 1000000; have : t.length ≤ 40 * i + j := g2; omega)) (y_eq (divI_s (by decide) (by decide)) (y_some ⟨?_, ?_, ?_⟩)))
      · show 0 ≤ m / 1000
        have : 0 ≤ m := g1
        omega
      · show (t ++ [_]).length ≤ _
        have : t.length ≤ 40 * i + j := g2
        simp
        omega
      · refine all_app g3 ?_
        show 0 ≤ m % 1000 ∧ m % 1000 < _
        omega
    · exact y_some ⟨g1, by have : t.length ≤ 40 * i + j := g2; show t.length ≤ _; omega, g3⟩
  · refine y_bind (Q := fun (t : List Int) => t.length ≤ 40 * (i + 1) ∧ ∀ x ∈ t, 0 ≤ x ∧ x < (2 : Int) ^ 31) ?_ fun p hp => y_some hp
    refine (y_foldI _ (fun j (t : List Int) => t.length ≤ 40 * i + j ∧ ∀ x ∈ t, 0 ≤ x ∧ x < (2 : Int) ^ 31) ⟨h1, h2⟩ ?_).mono fun p hp => ⟨by have := hp.1; rw [rng_len] at this; simp at this; omega, hp.2⟩
    rintro j y t hy ⟨g2, g3⟩
    have hj := (rng_at hy).2
    have hj : j < 3 := by omega
    refine y_eq (mulI_r (by decide) (by decide)) (y_eq (mulI_r (by decide) (by decide)) (y_eq (modI_s (by decide)) (y_eq (mulI_r (by decide) (by decide)) (y_eq (divI_s (by decide) (by decide)) (y_eq (modI_s (by decide)) (y_eq (room_s (by omega)) (y_some ⟨?_, ?_⟩)))))))
    · rw [List.length_append, List.length_singleton]; omega
    · refine all_app g3 ?_
      omega
theorem draw_ok {t : List Int} {at' many : Int} (ht : TapeOk t) (h0 : 0 ≤ at') (h1 : at' < 2 ^ 62) (hm : 0 < many) : Yes (m_l_draw t at' many) fun r => 0 ≤ r ∧ r < many := by
  unfold m_l_draw
  refine y_if (fun c => ?_) (fun c => ?_)
  · have c := of_decide_eq_true c
    obtain ⟨n, rfl⟩ := Int.eq_ofNat_of_zero_le h0
    have hn : n < t.length := by omega
    refine y_eq (ixL_s (List.getElem?_eq_getElem hn) rfl) (y_eq (modI_s hm) (y_some ⟨Int.emod_nonneg _ (by omega), Int.emod_lt_of_pos _ hm⟩))
  · refine y_bind (Q := fun _ => True) (y_if (fun c => ?_) fun c => y_some trivial) fun n _ => ?_
    · have c := of_decide_eq_true c
      obtain ⟨n, hn⟩ := Int.eq_ofNat_of_zero_le (Int.emod_nonneg at' (show (t.length : Int) ≠ 0 by omega))
      have hl := Int.emod_lt_of_pos at' c
      refine y_eq (modI_s c) (y_eq (ixL_s (n := n) (List.getElem?_eq_getElem (by omega)) hn) (y_some trivial))
    · refine y_eq (mulI_r (by omega) (by omega)) (y_eq (mulI_r (by decide) (by decide)) (y_eq (mulI_r (by decide) (by decide)) (y_eq (modI_s (by decide)) (y_eq (modI_s hm) (y_some ⟨Int.emod_nonneg _ (by omega), Int.emod_lt_of_pos _ hm⟩)))))
/-- the tape and how far it is read -/
def StOk (s : List Int × Int) (n : Int) : Prop := TapeOk s.1 ∧ 0 ≤ s.2 ∧ s.2 ≤ n
theorem take_ok {s : List Int × Int} {n many : Int} (hs : StOk s n) (hn : n < 2 ^ 61) (hm : 0 < many) : Yes (m_l_take s many) fun r => (0 ≤ r.1 ∧ r.1 < many) ∧ StOk r.2 (n + 1) := by
  unfold m_l_take
  obtain ⟨h1, h2, h3⟩ := hs
  refine y_bind (draw_ok h1 (by show 0 ≤ s.2 + 1; omega) (by show s.2 + 1 < _; omega) hm) fun r hr => y_some ⟨hr, h1, by show 0 ≤ s.2 + 1; omega, by show s.2 + 1 ≤ _; omega⟩
/-- == of a kind -/
theorem eqvD_ok {a b : PyData} (ha : SeqAt.shaped a = true) (hb : SeqAt.shaped b = true) : eqvD a b = some (PyData.eqv a b) := if_pos ⟨ha, hb⟩
end L3

namespace L3
open PySem L2
/-! ### law_equal is equality -/
def okD : Nat → PyData → Prop
  | 0, _ => False
  | _ + 1, .none => True
  | _ + 1, .bool _ => True
  | _ + 1, .int _ => True
  | _ + 1, .str s => SeqAt.shaped (.str s) = true
  | n + 1, .list xs => xs.length < 2 ^ 60 ∧ ∀ x ∈ xs, okD n x
  | n + 1, .tuple xs => xs.length < 2 ^ 60 ∧ ∀ x ∈ xs, okD n x
  | _ + 1, .dict _ => False
def Is (o : Option Bool) (p : Prop) : Prop := ∃ c : Bool, o = some c ∧ (c = true ↔ p)
theorem is_t {p : Prop} (h : p) : Is (some true) p := ⟨true, rfl, fun _ => h, fun _ => rfl⟩
theorem is_f {p : Prop} (h : ¬ p) : Is (some false) p := ⟨false, rfl, fun e => absurd e (by decide), fun e => absurd e h⟩
theorem is_p {p : Prop} {b : Bool} {x y : Option Bool} (h : b = true) (k : Is x p) : Is (if b = true then x else y) p := by rw [if_pos h]; exact k
theorem is_n {p : Prop} {b : Bool} {x y : Option Bool} (h : b = false) (k : Is y p) : Is (if b = true then x else y) p := by rw [if_neg (by rw [h]; exact Bool.false_ne_true)]; exact k
theorem is_bd {α : Type} {p : Prop} {o : Option α} {a : α} {f : α → Option Bool} (h : o = some a) (k : Is (f a) p) : Is (Option.bind o f) p := by rw [h]; exact k
theorem is_bi {p : Prop} {o : Option Bool} (k : Is o p) : Is (Option.bind o fun t => some t) p := by obtain ⟨c, h, g⟩ := k; rw [h]; exact ⟨c, rfl, g⟩
theorem is_b {p : Prop} {c : Bool} (h : c = true ↔ p) : Is (some c) p := ⟨c, rfl, h⟩
theorem eq_seq {f : PyData → PyData → Option Bool} {xs ys : List PyData} {A B : PyData} (hl : xs.length = ys.length) (hb : ys.length < 2 ^ 60) (hA : ∀ i : Int, ixD A i = atI xs i) (hB : ∀ i : Int, ixD B i = atI ys i) (h : ∀ x ∈ xs, ∀ y ∈ ys, Is (f x y) (x = y)) :
    Yes (loopR (S := Unit) (R := Bool) (α := Int) (fun (s48 : Unit) (x49 : Int) => (
                  Option.bind (ixD A x49) fun t68 =>
                  Option.bind (ixD B x49) fun t70 =>
                  Option.bind (f t68 t70) fun t72 =>
                  if (!t72) = true then
                    some (Stp.rt false)
                  else
                    some (Stp.nx (()))
                )) (()) (rng 0 ys.length)) fun o => match o with | .inl _ => xs = ys | .inr b => b = false ∧ xs ≠ ys := by
  refine y_loopR _ (fun i _ => ∀ j < i, xs[j]? = ys[j]?) _ (fun j hj => absurd hj (by omega)) ?_ ?_
  · rintro i x ⟨⟩ hx hI
    obtain ⟨h1, h2⟩ := rng_at hx
    have hi : i < ys.length := by omega
    have hi' : i < xs.length := by omega
    have e1 : x = (i : Int) := by omega
    obtain ⟨v, g1, g2⟩ := h _ (List.getElem_mem hi') _ (List.getElem_mem hi)
    refine y_eq (by rw [hA]; exact ixL_s (List.getElem?_eq_getElem hi') e1) (y_eq (by rw [hB]; exact ixL_s (List.getElem?_eq_getElem hi) e1) (y_eq g1 (y_if (fun c => y_some ⟨rfl, fun e => ?_⟩) fun c => y_some ?_)))
    · subst e
      rw [g2.mpr rfl] at c
      exact absurd c (by decide)
    · intro j hj
      by_cases e : j = i
      · subst e
        rw [List.getElem?_eq_getElem hi, List.getElem?_eq_getElem hi']
        have c : v = true := by revert c; cases v <;> simp
        rw [g2.mp c]
      · exact hI j (by omega)
  · intro s hI
    rw [rng_len] at hI
    refine List.ext_getElem? fun j => ?_
    by_cases e : j < ys.length
    · exact hI j (by omega)
    · rw [List.getElem?_eq_none (by omega), List.getElem?_eq_none (by omega)]
theorem eq_seq2 {n : Nat} (IH : ∀ a b : PyData, okD n a → okD n b → Is (m_l_equal n a b) (a = b)) : ∀ xs ys : List PyData, xs.length < 2 ^ 60 → ys.length < 2 ^ 60 → (∀ x ∈ xs, okD n x) → (∀ x ∈ ys, okD n x) → ∀ A B : PyData, (∀ i : Int, ixD A i = atI xs i) → (∀ i : Int, ixD B i = atI ys i) → lenD A = some (xs.length : Int) → lenD B = some (ys.length : Int) →
        Is (Option.bind (lenD A) fun t37 => Option.bind (lenD B) fun t39 => if (!decide (t37 = t39)) = true then some false else Option.bind (lenD B) fun t44 => Option.bind (small62 t44) fun t46 =>
          Option.bind (loopR (S := Unit) (R := Bool) (α := Int) (fun (s48 : Unit) (x49 : Int) => (
                  Option.bind (ixD A x49) fun t68 =>
                  Option.bind (ixD B x49) fun t70 =>
                  Option.bind (m_l_equal n t68 t70) fun t72 =>
                  if (!t72) = true then
                    some (Stp.rt false)
                  else
                    some (Stp.nx (()))
                )) (()) ((rng 0 t44))) fun o51 => match o51 with | .inl s77 => some true | .inr q9 => some q9) (xs = ys) := by
  intro xs ys l1 l2 h1 h2 A B hA hB lA lB
  refine is_bd lA (is_bd lB ?_)
  by_cases e : xs.length = ys.length
  · refine is_n (by rw [e]; simp) (is_bd lB (is_bd (small62_s (by omega) (by omega)) ?_))
    obtain ⟨o, g1, g2⟩ := eq_seq (f := m_l_equal n) e l2 hA hB fun x hx y hy => IH x y (h1 x hx) (h2 y hy)
    refine is_bd g1 ?_
    match o, g2 with
    | .inl _, g2 => exact is_t g2
    | .inr b, ⟨g2, g3⟩ => subst g2; exact is_f g3
  · refine is_p ?_ (is_f fun h => e (congrArg List.length h))
    rw [Bool.not_eq_true']
    exact decide_eq_false fun h => e (by omega)
theorem eq_ok : ∀ (n : Nat) (a b : PyData), okD n a → okD n b → Is (m_l_equal n a b) (a = b)
  | 0, _, _, h, _ => h.elim
  | n + 1, a, b, ha, hb => by
    show Is (F_m_l_equal _ _ _) _
    unfold F_m_l_equal
    cases b with
    | none =>
      refine is_p rfl ?_
      cases a <;> first | exact is_t rfl | exact is_f (by intro e; cases e)
    | bool y =>
      refine is_n rfl (is_p rfl (is_bi ?_))
      cases a with
      | bool x => exact is_p rfl (is_bi (by rw [eqvD_ok (a := .bool x) (b := .bool y) (by rfl) (by rfl)]; exact is_b (by simp [PyData.eqv])))
      | _ => exact is_n rfl (is_f (by intro e; cases e))
    | int y =>
      refine is_n rfl (is_n rfl (is_p rfl (is_bi ?_)))
      cases a with
      | int x => exact is_p rfl (is_bi (is_p rfl (is_bi (by rw [eqvD_ok (a := .int x) (b := .int y) (by rfl) (by rfl)]; exact is_b (by simp [PyData.eqv])))))
      | bool x => exact is_p rfl (is_bi (is_n rfl (is_f (by intro e; cases e))))
      | _ => exact is_n rfl (is_f (by intro e; cases e))
    | str y =>
      refine is_n rfl (is_n rfl (is_n rfl (is_p rfl (is_bi ?_))))
      cases a with
      | str x => exact is_p rfl (is_bi (by rw [eqvD_ok (a := .str x) (b := .str y) ha hb]; exact is_b (by simp [PyData.eqv])))
      | _ => exact is_n rfl (is_f (by intro e; cases e))
    | list ys =>
      refine is_n rfl (is_n rfl (is_n rfl (is_n rfl (is_n rfl ?_))))
      cases a with
      | list xs =>
        refine is_n rfl ?_
        exact eq_seq2 (eq_ok n) xs ys ha.1 hb.1 ha.2 hb.2 (.list xs) (.list ys) (fun _ => rfl) (fun _ => rfl) rfl rfl |>.imp fun c h => ⟨h.1, h.2.trans (by simp)⟩
      | _ => exact is_p rfl (is_f (by intro e; cases e))
    | tuple ys =>
      refine is_n rfl (is_n rfl (is_n rfl (is_n rfl ?_)))
      cases a with
      | tuple xs =>
        refine is_n rfl (is_n rfl ?_)
        exact eq_seq2 (eq_ok n) xs ys ha.1 hb.1 ha.2 hb.2 (.tuple xs) (.tuple ys) (fun _ => rfl) (fun _ => rfl) rfl rfl |>.imp fun c h => ⟨h.1, h.2.trans (by simp)⟩
      | _ => exact is_p rfl (is_f (by intro e; cases e))
    | dict _ => exact hb.elim
theorem eq_typed {α : Type} [DecidableEq α] {r : Rep α} {f : α → PyData} {m n : Nat} (D : DR r f m) {a b : α} (ha : okD n (f a)) (hb : okD n (f b)) : m_l_equal n (f a) (f b) = some (decide (a = b)) := by
  obtain ⟨c, h1, h2⟩ := eq_ok n _ _ ha hb
  rw [h1]
  congr 1
  rw [Bool.eq_iff_iff, h2, decide_eq_true_iff]
  exact ⟨D.inj a b, fun h => by rw [h]⟩
end L3


namespace L3
open PySem L2
theorem y_p {α : Type} {P : α → Prop} {b : Bool} {x y : Option α} (h : b = true) (k : Yes x P) : Yes (if b = true then x else y) P := by rw [if_pos h]; exact k
theorem y_n {α : Type} {P : α → Prop} {b : Bool} {x y : Option α} (h : b = false) (k : Yes y P) : Yes (if b = true then x else y) P := by rw [if_neg (by rw [h]; exact Bool.false_ne_true)]; exact k
end L3

namespace L3
open PySem L2
/-! ### fractions -/
def rat (n d : Int) : Int × Int := if d < 0 then (-n / (Int.gcd n d : Int), -d / (Int.gcd n d : Int)) else (n / (Int.gcd n d : Int), d / (Int.gcd n d : Int))
theorem gcdI_neg (n d : Int) : gcdI (-n) (-d) = (Int.gcd n d : Int) := by
  unfold gcdI; rw [Int.natAbs_neg, Int.natAbs_neg]; rfl
theorem gcd_pos {n d : Int} (h : d ≠ 0) : 0 < Int.gcd n d := Int.gcd_pos_of_ne_zero_right n h
theorem gcd_le' {n d : Int} (h : d ≠ 0) : Int.gcd n d ≤ d.natAbs := Nat.le_of_dvd (by omega) (Int.gcd_dvd_natAbs_right n d)
theorem ratio_ok {n d : Int} (h : d ≠ 0) (hb : d.natAbs < 2 ^ 8999) : m_ratio n d = some (rat n d) := by
  have g0 := gcd_pos (n := n) h
  have g1 := gcd_le' (n := n) h
  have gl : ((Int.gcd n d : Nat) : Int).natAbs < 2 ^ 8999 := Nat.lt_of_le_of_lt (by omega) hb
  have dv : ∀ x : Int, divI x (Int.gcd n d : Int) = some (x / (Int.gcd n d : Int)) := fun x => divI_w (by omega) gl (by decide) (by decide)
  unfold m_ratio rat
  by_cases hd : d < 0
  · rw [if_pos (decide_eq_true hd), if_pos hd]
    show Option.bind (divI (-n) (gcdI (-n) (-d))) _ = _
    rw [gcdI_neg, dv]
    show Option.bind (divI (-d) (Int.gcd n d : Int)) _ = _
    rw [dv]
    rfl
  · rw [if_neg (by simp [hd]), if_neg hd]
    show Option.bind (divI n (Int.gcd n d : Int)) _ = _
    rw [dv]
    show Option.bind (divI d (Int.gcd n d : Int)) _ = _
    rw [dv]
    rfl
theorem euclid_ok {b a : Int} (hb : 0 < b) (ha : 0 ≤ a) (hp : a.natAbs * b.natAbs < 2 ^ 1990) : Yes (loopB (S := (Int × Int)) (α := Int) (fun (s24 : (Int × Int)) (x25 : Int) => (
    if (decide (s24.2 = (0 : Int))) = true then
      some (Stp.bk ((s24.1, s24.2)))
    else
      Option.bind (modI s24.1 s24.2) fun t52 =>
      some (Stp.nx ((s24.2, t52)))
  )) ((b, a)) ((rng 0 ((2000 : Int))))) fun s => s.1 = (Int.gcd a b : Int) := by
  refine y_loopB _ (fun i s => 0 < s.1 ∧ 0 ≤ s.2 ∧ Int.gcd s.2 s.1 = Int.gcd a b ∧ (i = 0 → s = (b, a)) ∧ (0 < i → s.2 < s.1 ∧ s.2.natAbs * s.1.natAbs * 2 ^ (i - 1) ≤ a.natAbs * b.natAbs)) _ ⟨hb, ha, rfl, fun _ => rfl, fun h => absurd h (by omega)⟩ ?_ ?_
  · rintro i x ⟨u, v⟩ hx ⟨h1, h2, h3, h4, h5⟩
    replace h1 : 0 < u := h1
    replace h2 : 0 ≤ v := h2
    refine y_if (fun c => y_some ?_) (fun c => ?_)
    · have c : v = 0 := of_decide_eq_true c
      subst c
      show u = _
      rw [← h3]
      show u = ((Int.gcd 0 u : Nat) : Int)
      rw [Int.gcd_zero_left]
      omega
    · have c : v ≠ 0 := fun e => c (decide_eq_true e)
      have hv : 0 < v := by omega
      have m0 := Int.emod_nonneg u c
      have m1 := Int.emod_lt_of_pos u hv
      refine y_eq (modI_s hv) (y_some ⟨hv, m0, ?_, fun e => absurd e (by omega), fun _ => ⟨m1, ?_⟩⟩)
      · show Int.gcd (u % v) v = _
        rw [← h3]
        show _ = Int.gcd v u
        obtain ⟨p, rfl⟩ := Int.eq_ofNat_of_zero_le (Int.le_of_lt h1)
        obtain ⟨q, rfl⟩ := Int.eq_ofNat_of_zero_le h2
        rw [← Int.natCast_emod]
        exact (Nat.gcd_rec q p).symm
      · show (u % v).natAbs * v.natAbs * 2 ^ i ≤ _
        obtain ⟨p, rfl⟩ := Int.eq_ofNat_of_zero_le (Int.le_of_lt h1)
        obtain ⟨q, rfl⟩ := Int.eq_ofNat_of_zero_le h2
        have e : ((p : Int) % (q : Int)).natAbs = p % q := by rw [← Int.natCast_emod]; exact Int.natAbs_natCast _
        rw [e]
        simp only [Int.natAbs_natCast]
        have hq : 0 < q := Int.ofNat_lt.mp hv
        have hm : p % q < q := Nat.mod_lt _ hq
        match i with
        | 0 =>
          have h4 := h4 rfl
          rw [← (Prod.mk.inj h4).1, ← (Prod.mk.inj h4).2]
          simp only [Int.natAbs_natCast, Nat.pow_zero, Nat.mul_one]
          rw [Nat.mul_comm]
          exact Nat.mul_le_mul_left _ (Nat.mod_le _ _)
        | i + 1 =>
          obtain ⟨h6, h7⟩ := h5 (Nat.succ_pos i)
          have h6 : q < p := by have : (q : Int) < p := h6; omega
          have h7 : q * p * 2 ^ i ≤ a.natAbs * b.natAbs := by simpa using h7
          refine Nat.le_trans ?_ h7
          have hd := Nat.div_add_mod p q
          have h8 : 1 ≤ p / q := (Nat.one_le_div_iff hq).mpr (Nat.le_of_lt h6)
          have h9 : q ≤ q * (p / q) := Nat.le_mul_of_pos_right q h8
          have h10 : 2 * (p % q) ≤ p := by omega
          have h11 : p % q * q * 2 ≤ q * p := by
            rw [Nat.mul_comm (p % q) q, Nat.mul_assoc]
            exact Nat.mul_le_mul_left q (by omega)
          rw [Nat.pow_succ, Nat.mul_comm (2 ^ i) 2, ← Nat.mul_assoc]
          exact Nat.mul_le_mul_right _ h11
  · rintro ⟨u, v⟩ ⟨h1, h2, h3, _, h5⟩
    rw [rng_len] at h5
    replace h1 : 0 < u := h1
    replace h2 : 0 ≤ v := h2
    obtain ⟨_, h7⟩ := h5 (by decide)
    replace h7 : v.natAbs * u.natAbs * 2 ^ 1999 ≤ a.natAbs * b.natAbs := h7
    have hv : v = 0 := by
      by_cases e : v = 0
      · exact e
      · have g : 1 ≤ v.natAbs * u.natAbs := Nat.mul_pos (by omega) (by omega)
        have g2 := Nat.mul_le_mul_right (2 ^ 1999) g
        have g3 := Nat.lt_of_le_of_lt (Nat.le_trans g2 h7) hp
        rw [Nat.one_mul] at g3
        exact absurd (Nat.pow_lt_pow_iff_right (by decide) |>.mp g3) (by decide)
    subst hv
    show u = _
    rw [← h3]
    show u = ((Int.gcd 0 u : Nat) : Int)
    rw [Int.gcd_zero_left]
    omega
theorem absI_nn (n : Int) : absI n = (n.natAbs : Int) := by unfold absI; split <;> omega
theorem l_ratio_ok {n d : Int} (h : d ≠ 0) (hn : n.natAbs < 2 ^ 990) (hb : d.natAbs < 2 ^ 990) : m_l_ratio n d = some (rat n d) := by
  have g0 := gcd_pos (n := n) h
  have g1 := gcd_le' (n := n) h
  have gl : ((Int.gcd n d : Nat) : Int).natAbs < 2 ^ 990 := Nat.lt_of_le_of_lt (by omega) hb
  have dv : ∀ x : Int, divI x (Int.gcd n d : Int) = some (x / (Int.gcd n d : Int)) := fun x => divI_w (by omega) gl (by decide) (by decide)
  have pr : ∀ n d : Int, n.natAbs < 2 ^ 990 → d.natAbs < 2 ^ 990 → (absI n).natAbs * d.natAbs < 2 ^ 1990 := fun n d h1 h2 => by
    rw [absI_nn, Int.natAbs_natCast]
    refine Nat.lt_of_lt_of_le (Nat.mul_lt_mul'' h1 h2) ?_
    rw [← Nat.pow_add]
    exact Nat.pow_le_pow_right (by decide) (by decide)
  have ga : ∀ n d : Int, Int.gcd (absI n) d = Int.gcd n d := fun n d => by
    rw [absI_nn]; unfold Int.gcd; rw [Int.natAbs_natCast]
  have nn : ∀ n : Int, 0 ≤ absI n := fun n => by rw [absI_nn]; omega
  unfold m_l_ratio rat
  by_cases hd : d < 0
  · rw [if_pos (decide_eq_true hd), if_pos hd]
    obtain ⟨s, e1, e2⟩ := euclid_ok (b := 0 - d) (a := absI (0 - n)) (by omega) (nn _) (pr _ _ (by omega) (by omega))
    rw [ga, show 0 - n = -n by omega, show 0 - d = -d by omega, Int.gcd_neg, Int.neg_gcd] at e2
    show Option.bind (loopB _ (0 - d, absI (0 - n)) _) _ = _
    rw [e1]
    show Option.bind (divI (0 - n) s.1) _ = _
    rw [e2, dv]
    show Option.bind (divI (0 - d) (Int.gcd n d : Int)) _ = _
    rw [dv]
    show some _ = some _
    rw [show 0 - n = -n by omega, show 0 - d = -d by omega]
  · rw [if_neg (by simp [hd]), if_neg hd]
    obtain ⟨s, e1, e2⟩ := euclid_ok (b := d) (a := absI n) (by omega) (nn _) (pr _ _ hn hb)
    rw [ga] at e2
    show Option.bind (loopB _ (d, absI n) _) _ = _
    rw [e1]
    show Option.bind (divI n s.1) _ = _
    rw [e2, dv]
    show Option.bind (divI d (Int.gcd n d : Int)) _ = _
    rw [dv]
    rfl
theorem rat_pos {n d : Int} (h : d ≠ 0) : 0 < (rat n d).2 := by
  have g0 := gcd_pos (n := n) h
  have dd := Int.gcd_dvd_right n d
  unfold rat
  split
  · exact Int.ediv_pos_of_pos_of_dvd (by omega) (by omega) (Int.dvd_neg.mpr dd)
  · exact Int.ediv_pos_of_pos_of_dvd (by omega) (by omega) dd
theorem natAbs_ediv_le (x : Int) (g : Nat) : (x / (g : Int)).natAbs ≤ x.natAbs := Int.natAbs_ediv_le_natAbs x g
theorem rat_fst_le {n d : Int} : (rat n d).1.natAbs ≤ n.natAbs := by
  unfold rat
  split
  · have := natAbs_ediv_le (-n) (Int.gcd n d); rw [Int.natAbs_neg] at this; exact this
  · exact natAbs_ediv_le n (Int.gcd n d)
theorem rat_snd_le {n d : Int} : (rat n d).2.natAbs ≤ d.natAbs := by
  unfold rat
  split
  · have := natAbs_ediv_le (-d) (Int.gcd n d); rw [Int.natAbs_neg] at this; exact this
  · exact natAbs_ediv_le d (Int.gcd n d)
theorem rat_mul {n d c : Int} (hc : 0 < c) : rat (n * c) (d * c) = rat n d := by
  have e : (Int.gcd (n * c) (d * c) : Int) = (Int.gcd n d : Int) * c := by
    rw [Int.gcd_mul_right]
    push_cast
    rw [Int.natAbs_of_nonneg (Int.le_of_lt hc)]
  have k : ∀ x : Int, x * c / ((Int.gcd n d : Int) * c) = x / (Int.gcd n d : Int) := fun x => Int.mul_ediv_mul_of_pos_left x _ hc
  unfold rat
  rw [e]
  by_cases hd : d < 0
  · rw [if_pos hd, if_pos (Int.mul_neg_of_neg_of_pos hd hc), ← Int.neg_mul, ← Int.neg_mul, k, k]
  · rw [if_neg hd, if_neg (by have := Int.mul_nonneg (show 0 ≤ d by omega) (Int.le_of_lt hc); omega), k, k]
end L3

namespace L3
open PySem L2
/-! ### general -/
theorem bnd {α β : Type} {o : Option α} {f : α → Option β} {a : α} {r : Option β} (h : o = some a) (k : f a = r) : Option.bind o f = r := by rw [h]; exact k
theorem rgO_s {b : Int} (h0 : 0 ≤ b) (h : b ≤ 1000000) : rgO 0 b = some (rng 0 b) := if_pos ⟨by decide, by decide, by omega, by omega, by omega⟩
theorem repL_s {α : Type} {x : α} {n : Nat} (h : n ≤ 1000000) : repL [x] (n : Int) = some (List.replicate n [x]).flatten := by
  have e : ((n : Int)).toNat = n := by omega
  unfold repL
  rw [if_pos ⟨by omega, by omega, by rw [e, List.length_singleton, Nat.one_mul]; exact Nat.le_of_lt (Nat.lt_of_le_of_lt h (by decide))⟩, e]
theorem rep_flat {α : Type} {x : α} (n : Nat) : (List.replicate n [x]).flatten = List.replicate n x := by simp
theorem ixO_s {n i : Nat} {x : Int} (h : x = (i : Int)) (hi : i < n) : ixO n x = some i := by
  subst h
  unfold ixO ixN
  simp [hi]
theorem mapO_map {α β : Type} {f : α → Option β} {g : α → β} : ∀ {xs : List α}, (∀ x ∈ xs, f x = some (g x)) → mapO f xs = some (xs.map g)
  | [], _ => rfl
  | x :: xs, h => by
    show (match f x, mapO f xs with | some y, some ys => some (y :: ys) | _, _ => none) = _
    rw [h x List.mem_cons_self, mapO_map fun u hu => h u (List.mem_cons_of_mem _ hu)]
    rfl
theorem compM_map {α β : Type} {f : Unit → α → Option (Option β × Unit)} {g : α → β} : ∀ {xs : List α}, (∀ x ∈ xs, f () x = some (some (g x), ())) → compM f () xs = some (xs.map g, ())
  | [], _ => rfl
  | x :: xs, h => by
    unfold compM
    rw [h x List.mem_cons_self]
    dsimp only
    rw [compM_map fun u hu => h u (List.mem_cons_of_mem _ hu)]
    rfl
theorem compM_filter {α : Type} {f : Unit → α → Option (Option α × Unit)} {p : α → Bool} : ∀ {xs : List α}, (∀ x ∈ xs, f () x = if p x = true then some (some x, ()) else some (none, ())) → compM f () xs = some (xs.filter p, ())
  | [], _ => rfl
  | x :: xs, h => by
    have ih := compM_filter (f := f) (p := p) (xs := xs) fun u hu => h u (List.mem_cons_of_mem _ hu)
    unfold compM
    rw [h x List.mem_cons_self]
    cases hp : p x with
    | true => rw [if_pos rfl]; dsimp only; rw [ih, List.filter_cons, hp]; rfl
    | false => rw [if_neg (by decide)]; dsimp only; rw [ih, List.filter_cons, hp]; rfl
theorem foldO_cons {S α : Type} {f : S → α → Option S} {s s' : S} {x : α} {xs : List α} {r : Option S} (h : f s x = some s') (k : foldO f s' xs = r) : foldO f s (x :: xs) = r := by
  unfold foldO
  rw [h]
  exact k
theorem compM_cons {S α β : Type} {f : S → α → Option (Option β × S)} {s s' s2 : S} {x : α} {xs : List α} {o : Option β} {ys : List β} (h : f s x = some (o, s')) (k : compM f s' xs = some (ys, s2)) : compM f s (x :: xs) = some (o.toList ++ ys, s2) := by
  unfold compM
  rw [h]
  dsimp only
  rw [k]
theorem any_some {α : Type} {f : α → Option Bool} {g : α → Bool} : ∀ {xs : List α}, (∀ x ∈ xs, f x = some (g x)) → anyM f xs = some (xs.any g)
  | [], _ => rfl
  | x :: xs, h => by
    unfold anyM
    rw [h x List.mem_cons_self, List.any_cons]
    cases hx : g x with
    | true => rfl
    | false =>
      dsimp only
      rw [any_some fun u hu => h u (List.mem_cons_of_mem _ hu)]
      rfl
theorem all_some {α : Type} {f : α → Option Bool} {g : α → Bool} : ∀ {xs : List α}, (∀ x ∈ xs, f x = some (g x)) → allM f xs = some (xs.all g)
  | [], _ => rfl
  | x :: xs, h => by
    unfold allM
    rw [h x List.mem_cons_self, List.all_cons]
    cases hx : g x with
    | false => rfl
    | true =>
      dsimp only
      rw [all_some fun u hu => h u (List.mem_cons_of_mem _ hu)]
      rfl
/-- a filter with a partial test -/
theorem compM_filterB {α : Type} {f : Unit → α → Option (Option α × Unit)} {p : α → Bool} {g : α → Option Bool} (hf : ∀ x, f () x = Option.bind (g x) fun t => if t = true then some (some x, ()) else some (none, ())) {xs : List α} (h : ∀ x ∈ xs, g x = some (p x)) : compM f () xs = some (xs.filter p, ()) :=
  compM_filter fun x hx => by rw [hf, h x hx]; rfl
theorem nodup_le {many : Nat} {l : List Int} (h : l.Nodup) (hm : ∀ x ∈ l, 0 ≤ x ∧ x < (many : Int)) : l.length ≤ many := by
  have e : (l.map Int.toNat).Nodup := by
    refine List.pairwise_map.mpr ?_
    refine h.imp_of_mem fun {a b} ha hb hab => ?_
    have := hm a ha; have := hm b hb
    omega
  have s : (l.map Int.toNat) ⊆ List.range many := fun x hx => by
    obtain ⟨y, hy, rfl⟩ := List.mem_map.mp hx
    have := hm y hy
    exact List.mem_range.mpr (by omega)
  have := List.Nodup.length_le_of_subset e s
  rwa [List.length_map, List.length_range] at this
end L3

namespace L3
open PySem L2
/-! ### data that law_equal compares -/
theorem okD_tup {n : Nat} (p : List Int) (h : p.length ≤ 1000) : okD (n + 2) (dTup PyData.int p) := by
  refine ⟨by rw [List.length_map]; omega, fun x hx => ?_⟩
  obtain ⟨q, _, rfl⟩ := List.mem_map.mp hx
  trivial
theorem okD_q {n : Nat} (x : Int × Int) : okD (n + 2) (dT2 PyData.int PyData.int x) := by
  refine ⟨by show 2 < _; decide, fun z hz => ?_⟩
  have hz : z ∈ [PyData.int x.1, PyData.int x.2] := hz
  rcases List.mem_cons.mp hz with rfl | hz
  · trivial
  · rw [List.mem_singleton.mp hz]; trivial
theorem okD_lst {α : Type} {n : Nat} {f : α → PyData} {l : List α} (h : l.length ≤ 1000) (hf : ∀ x ∈ l, okD n (f x)) : okD (n + 1) (dLst f l) := by
  refine ⟨by rw [List.length_map]; omega, fun x hx => ?_⟩
  obtain ⟨q, hq, rfl⟩ := List.mem_map.mp hx
  exact hf q hq
theorem okD_T2 {α β : Type} {n : Nat} {f : α → PyData} {g : β → PyData} {x : α × β} (h1 : okD n (f x.1)) (h2 : okD n (g x.2)) : okD (n + 1) (dT2 f g x) := by
  refine ⟨by show 2 < _; decide, fun z hz => ?_⟩
  have hz : z ∈ [f x.1, g x.2] := hz
  rcases List.mem_cons.mp hz with rfl | hz
  · exact h1
  · rw [List.mem_singleton.mp hz]; exact h2
theorem eq_self {d : PyData} (h : okD 8 d) : m_l_equal 8 d d = some true := by
  obtain ⟨v, v1, v2⟩ := eq_ok 8 _ _ h h
  rw [v1, v2.mpr rfl]
end L3

namespace L3
open PySem L2
/-! ### fractions as rationals -/
def ofQ (x : Rat) : Int × Int := (x.num, (x.den : Int))
theorem ofQ_inj {x y : Rat} (h : ofQ x = ofQ y) : x = y := by
  obtain ⟨h1, h2⟩ := Prod.mk.inj h
  exact Rat.ext h1 (by omega)
theorem ofQ_iff {x y : Rat} : ofQ x = ofQ y ↔ x = y := ⟨ofQ_inj, fun h => by rw [h]⟩
theorem rat_ofQ {n d : Int} (h : d ≠ 0) : rat n d = ofQ (Rat.divInt n d) := by
  have g0 := gcd_pos (n := n) h
  unfold rat ofQ
  rw [Rat.num_divInt, Rat.den_divInt, if_neg h, Int.gcd_comm d n]
  by_cases hd : d < 0
  · rw [if_pos hd, Int.sign_eq_neg_one_of_neg hd, Int.neg_one_mul]
    have e : ((d.natAbs : Nat) : Int) = -d := by omega
    rw [Int.natCast_ediv, e]
  · rw [if_neg hd, Int.sign_eq_one_of_pos (by omega), Int.one_mul]
    have e : ((d.natAbs : Nat) : Int) = d := by omega
    rw [Int.natCast_ediv, e]
/-- a fraction of so many bits -/
def Bd (k : Nat) (x : Rat) : Prop := x.num.natAbs < 2 ^ k ∧ x.den < 2 ^ k
theorem Bd.up {k l : Nat} {x : Rat} (h : Bd k x) (hl : k ≤ l) : Bd l x := ⟨Nat.lt_of_lt_of_le h.1 (Nat.pow_le_pow_right (by decide) hl), Nat.lt_of_lt_of_le h.2 (Nat.pow_le_pow_right (by decide) hl)⟩
theorem nmul_lt {a b : Int} {k l : Nat} (h1 : a.natAbs < 2 ^ k) (h2 : b.natAbs < 2 ^ l) : (a * b).natAbs < 2 ^ (k + l) := by
  rw [Int.natAbs_mul, Nat.pow_add]
  exact Nat.mul_lt_mul'' h1 h2
theorem den_pos (x : Rat) : 0 < (x.den : Int) := by have := x.den_nz; omega
theorem den_lt {k : Nat} {x : Rat} (h : Bd k x) : ((x.den : Int)).natAbs < 2 ^ k := by rw [Int.natAbs_natCast]; exact h.2
theorem nadd_lt {a b : Int} {k : Nat} (h1 : a.natAbs < 2 ^ k) (h2 : b.natAbs < 2 ^ k) : (a + b).natAbs < 2 ^ (k + 1) := by
  rw [Nat.pow_succ]; omega
theorem mulI_b {a b : Int} {k l : Nat} (h1 : a.natAbs < 2 ^ k) (h2 : b.natAbs < 2 ^ l) (hk : 0 < k) (hl : 0 < l) (h : k + l ≤ 8000) : mulI a b = some (a * b) := mulI_w h1 h2 hk hl (by omega)
theorem add_q (x y : Rat) : Rat.divInt (x.num * y.den + y.num * x.den) (x.den * y.den) = x + y := by
  have := Rat.divInt_add_divInt x.num y.num (d₁ := x.den) (d₂ := y.den) (by have := den_pos x; omega) (by have := den_pos y; omega)
  rw [Rat.num_divInt_den, Rat.num_divInt_den] at this
  exact this.symm
theorem mul_q (x y : Rat) : Rat.divInt (x.num * y.num) (x.den * y.den) = x * y := by
  have := Rat.divInt_mul_divInt x.num y.num (d₁ := x.den) (d₂ := y.den)
  rw [Rat.num_divInt_den, Rat.num_divInt_den] at this
  exact this.symm
theorem div_q (x y : Rat) (h : y ≠ 0) : Rat.divInt (x.num * y.den) (x.den * y.num) = x / y := by
  have e : y⁻¹ = Rat.divInt y.den y.num := Rat.inv_def y
  have := Rat.divInt_mul_divInt x.num y.den (d₁ := x.den) (d₂ := y.num)
  rw [Rat.num_divInt_den, ← e] at this
  exact this.symm
/-- the denominator divides it -/
def Dv (L : Nat) (x : Rat) : Prop := x.den ∣ L
theorem dv_iff {L : Nat} {x : Rat} (hL : L ≠ 0) : Dv L x ↔ ∃ a : Int, x = Rat.divInt a L := by
  constructor
  · rintro ⟨c, hc⟩
    refine ⟨x.num * c, ?_⟩
    have c0 : (c : Int) ≠ 0 := by
      intro z
      have : c = 0 := by omega
      rw [this, Nat.mul_zero] at hc
      exact hL hc
    rw [hc]
    push_cast
    rw [Rat.divInt_mul_right c0, Rat.num_divInt_den]
  · rintro ⟨a, rfl⟩
    unfold Dv
    rw [Rat.den_divInt, if_neg (by omega), Int.natAbs_natCast]
    exact Nat.div_dvd_of_dvd (by
      have := Int.gcd_dvd_natAbs_left (L : Int) a
      rwa [Int.natAbs_natCast] at this)
theorem dv_add {L : Nat} {x y : Rat} (hL : L ≠ 0) (h1 : Dv L x) (h2 : Dv L y) : Dv L (x + y) := by
  obtain ⟨a, rfl⟩ := (dv_iff hL).mp h1
  obtain ⟨b, rfl⟩ := (dv_iff hL).mp h2
  refine (dv_iff hL).mpr ⟨a + b, ?_⟩
  rw [Rat.divInt_add_divInt _ _ (by omega) (by omega), ← Int.add_mul, Rat.divInt_mul_right (by omega)]
theorem dv_mul {L M : Nat} {x y : Rat} (hL : L ≠ 0) (hM : M ≠ 0) (h1 : Dv L x) (h2 : Dv M y) : Dv (L * M) (x * y) := by
  obtain ⟨a, rfl⟩ := (dv_iff hL).mp h1
  obtain ⟨b, rfl⟩ := (dv_iff hM).mp h2
  refine (dv_iff (Nat.mul_ne_zero hL hM)).mpr ⟨a * b, ?_⟩
  rw [Rat.divInt_mul_divInt]
  push_cast
  rfl
theorem dv_up {L M : Nat} {x : Rat} (h : Dv L x) (d : L ∣ M) : Dv M x := Nat.dvd_trans h d
theorem dv_le {L : Nat} {x : Rat} (hL : L ≠ 0) (h : Dv L x) : x.den ≤ L := Nat.le_of_dvd (by omega) h
end L3

namespace L3
/-! ### fractions of a known size -/
theorem den_ne (x : Rat) : (x.den : Rat) ≠ 0 := fun z => x.den_nz (by exact_mod_cast z)
theorem den_posQ (x : Rat) : 0 < (x.den : Rat) := by
  have : 0 < x.den := Nat.pos_of_ne_zero x.den_nz
  exact_mod_cast this
theorem num_eq (x : Rat) : (x.num : Rat) = x * (x.den : Rat) := by
  have e := Rat.num_divInt_den x
  rw [Rat.divInt_eq_div, Rat.intCast_natCast] at e
  have := den_ne x
  generalize (x.den : Rat) = d at *
  generalize (x.num : Rat) = n at *
  subst e
  grind
/-- the denominator divides L, at most C -/
structure Sz (L C : Nat) (x : Rat) : Prop where
  dv : x.den ∣ L
  lo : -(C : Rat) ≤ x
  hi : x ≤ (C : Rat)
theorem cast_le {a b : Nat} (h : a ≤ b) : (a : Rat) ≤ b := by exact_mod_cast h
theorem sz_num {L C : Nat} {x : Rat} (h : Sz L C x) (hL : 0 < L) : x.num.natAbs ≤ C * L := by
  have hd : x.den ≤ L := Nat.le_of_dvd hL h.dv
  have e := num_eq x
  have hp := den_posQ x
  have hd' := cast_le hd
  have c0 : (0 : Rat) ≤ C := by exact_mod_cast Nat.zero_le C
  have a1 : x * (x.den : Rat) ≤ (C : Rat) * x.den := Rat.mul_le_mul_of_nonneg_right h.hi (by grind)
  have a2 : -(C : Rat) * (x.den : Rat) ≤ x * x.den := Rat.mul_le_mul_of_nonneg_right h.lo (by grind)
  have a3 : (C : Rat) * x.den ≤ C * L := Rat.mul_le_mul_of_nonneg_left hd' c0
  have b1 : (x.num : Rat) ≤ ((C * L : Nat) : Int) := by rw [Rat.intCast_natCast]; push_cast; grind
  have b2 : ((-((C * L : Nat) : Int) : Int) : Rat) ≤ x.num := by push_cast; grind
  have b1 : x.num ≤ ((C * L : Nat) : Int) := by exact_mod_cast b1
  have b2 : -((C * L : Nat) : Int) ≤ x.num := by exact_mod_cast b2
  omega
theorem Sz.up {L M C D : Nat} {x : Rat} (h : Sz L C x) (hL : L ∣ M) (hC : C ≤ D) : Sz M D x := ⟨Nat.dvd_trans h.dv hL, by have := h.lo; have := cast_le hC; grind, by have := h.hi; have := cast_le hC; grind⟩
theorem sz_int (L C : Nat) {w : Int} (h : w.natAbs ≤ C) : Sz L C (w : Rat) := by
  refine ⟨?_, ?_, ?_⟩
  · rw [Rat.den_intCast]; exact Nat.one_dvd _
  · have : -((C : Nat) : Int) ≤ w := by omega
    have : ((-((C : Nat) : Int) : Int) : Rat) ≤ w := by exact_mod_cast this
    push_cast at this
    exact this
  · have : w ≤ ((C : Nat) : Int) := by omega
    exact_mod_cast this
theorem sz_zero (L C : Nat) : Sz L C 0 := sz_int L C (w := 0) (by simp)
end L3

namespace L3
open PySem L2
theorem Sz.bd {L C a b : Nat} {x : Rat} (h : Sz L C x) (hL : 0 < L) (ha : L < 2 ^ a) (hb : C < 2 ^ b) : Bd (a + b) x := by
  have h1 := sz_num h hL
  have h2 : x.den ≤ L := Nat.le_of_dvd hL h.dv
  refine ⟨?_, ?_⟩
  · refine Nat.lt_of_le_of_lt h1 ?_
    rw [Nat.add_comm, Nat.pow_add]
    exact Nat.mul_lt_mul'' hb ha
  · exact Nat.lt_of_le_of_lt h2 (Nat.lt_of_lt_of_le ha (Nat.pow_le_pow_right (by decide) (by omega)))
theorem Sz.add {L C D : Nat} {x y : Rat} (hL : 0 < L) (h1 : Sz L C x) (h2 : Sz L D y) : Sz L (C + D) (x + y) := by
  refine ⟨dv_add (by omega) h1.dv h2.dv, ?_, ?_⟩
  · have := h1.lo; have := h2.lo; push_cast; grind
  · have := h1.hi; have := h2.hi; push_cast; grind
theorem abs_mul_le {x y c d : Rat} (h1 : -c ≤ x) (h2 : x ≤ c) (h3 : -d ≤ y) (h4 : y ≤ d) : -(c * d) ≤ x * y ∧ x * y ≤ c * d := by
  have p1 := Rat.mul_nonneg (show 0 ≤ c - x by grind) (show 0 ≤ d - y by grind)
  have p2 := Rat.mul_nonneg (show 0 ≤ c + x by grind) (show 0 ≤ d + y by grind)
  have p3 := Rat.mul_nonneg (show 0 ≤ c - x by grind) (show 0 ≤ d + y by grind)
  have p4 := Rat.mul_nonneg (show 0 ≤ c + x by grind) (show 0 ≤ d - y by grind)
  constructor <;> grind
theorem Sz.mul {L M C D : Nat} {x y : Rat} (hL : 0 < L) (hM : 0 < M) (h1 : Sz L C x) (h2 : Sz M D y) : Sz (L * M) (C * D) (x * y) := by
  obtain ⟨a, b⟩ := abs_mul_le h1.lo h1.hi h2.lo h2.hi
  refine ⟨dv_mul (by omega) (by omega) h1.dv h2.dv, ?_, ?_⟩
  · push_cast; exact a
  · push_cast; exact b
theorem ofQ_int (w : Int) : ofQ (w : Rat) = (w, 1) := by
  unfold ofQ
  rw [Rat.num_intCast, Rat.den_intCast]
  rfl
theorem ofQ_0 : ofQ 0 = (0, 1) := ofQ_int 0
theorem ofQ_1 : ofQ 1 = (1, 1) := ofQ_int 1
theorem eq_0 {x : Rat} : decide (ofQ x = ((0 : Int), (1 : Int))) = decide (x = 0) := by
  rw [← ofQ_0]
  simp only [ofQ_iff]
theorem eq_1 {x : Rat} : decide (ofQ x = ((1 : Int), (1 : Int))) = decide (x = 1) := by
  rw [← ofQ_1]
  simp only [ofQ_iff]
theorem lt_q (x y : Rat) : decide (x.num * (y.den : Int) < y.num * (x.den : Int)) = decide (x < y) := by
  rw [Bool.eq_iff_iff, decide_eq_true_iff, decide_eq_true_iff]
  have e1 := num_eq x
  have e2 := num_eq y
  have p1 := den_posQ x
  have p2 := den_posQ y
  have pp := Rat.mul_pos p1 p2
  have c : (x.num * (y.den : Int) < y.num * (x.den : Int)) ↔ x * ((x.den : Rat) * y.den) < y * ((x.den : Rat) * y.den) := by
    have e3 : x * ((x.den : Rat) * y.den) = ((x.num * (y.den : Int) : Int) : Rat) := by push_cast; rw [e1]; grind
    have e4 : y * ((x.den : Rat) * y.den) = ((y.num * (x.den : Int) : Int) : Rat) := by push_cast; rw [e2]; grind
    rw [e3, e4]
    exact (Rat.intCast_lt_intCast ..).symm
  rw [c]
  exact Rat.mul_lt_mul_right pp
end L3

namespace L3
open PySem L2
theorem times_q {x y : Rat} {k l : Nat} (hx : Bd k x) (hy : Bd l y) (hk : 0 < k) (hl : 0 < l) (h : k + l ≤ 4000) : m_times (ofQ x) (ofQ y) = some (ofQ (x * y)) := by
  have px := den_pos x
  have py := den_pos y
  have pos := Int.mul_pos px py
  unfold m_times ofQ
  dsimp only
  rw [mulI_b hx.1 hy.1 hk hl (by omega), mulI_b (den_lt hx) (den_lt hy) hk hl (by omega)]
  show Option.bind (m_ratio _ _) _ = _
  rw [ratio_ok (by omega) (Nat.lt_of_lt_of_le (nmul_lt (den_lt hx) (den_lt hy)) (Nat.pow_le_pow_right (by decide) (by omega))), rat_ofQ (by omega), mul_q]
  rfl
end L3

namespace L3
open PySem L2
theorem over_q {x y : Rat} {k l : Nat} (hx : Bd k x) (hy : Bd l y) (h0 : y ≠ 0) (hk : 0 < k) (hl : 0 < l) (h : k + l ≤ 4000) : m_over (ofQ x) (ofQ y) = some (ofQ (x / y)) := by
  have px := den_pos x
  have ny : y.num ≠ 0 := fun z => h0 (Rat.num_eq_zero.mp z)
  have pos : (x.den : Int) * y.num ≠ 0 := Int.mul_ne_zero (by omega) ny
  unfold m_over ofQ
  dsimp only
  rw [mulI_b hx.1 (den_lt hy) hk hl (by omega), mulI_b (den_lt hx) hy.1 hk hl (by omega)]
  show Option.bind (m_ratio _ _) _ = _
  rw [ratio_ok pos (Nat.lt_of_lt_of_le (nmul_lt (den_lt hx) hy.1) (Nat.pow_le_pow_right (by decide) (by omega))), rat_ofQ pos, div_q _ _ h0]
  rfl
end L3

namespace L3
open PySem L2
theorem sub_q (x y : Rat) : Rat.divInt (x.num * y.den - y.num * x.den) (x.den * y.den) = x - y := by
  have := Rat.divInt_sub_divInt x.num y.num (d₁ := x.den) (d₂ := y.den) (by have := den_pos x; omega) (by have := den_pos y; omega)
  rw [Rat.num_divInt_den, Rat.num_divInt_den] at this
  exact this.symm
theorem minus_q {x y : Rat} {k l : Nat} (hx : Bd k x) (hy : Bd l y) (hk : 0 < k) (hl : 0 < l) (h : k + l ≤ 4000) : m_minus (ofQ x) (ofQ y) = some (ofQ (x - y)) := by
  have px := den_pos x
  have py := den_pos y
  have pos := Int.mul_pos px py
  unfold m_minus ofQ
  dsimp only
  rw [mulI_b hx.1 (den_lt hy) hk hl (by omega), mulI_b hy.1 (den_lt hx) hl hk (by omega), mulI_b (den_lt hx) (den_lt hy) hk hl (by omega)]
  show Option.bind (m_ratio _ _) _ = _
  rw [ratio_ok (by omega) (Nat.lt_of_lt_of_le (nmul_lt (den_lt hx) (den_lt hy)) (Nat.pow_le_pow_right (by decide) (by omega))), rat_ofQ (by omega), sub_q]
  rfl
end L3

namespace L3
/-! ### sums -/
def sm : Nat → (Nat → Rat) → Rat
  | 0, _ => 0
  | n + 1, f => sm n f + f n
theorem sm_congr {n : Nat} {f g : Nat → Rat} (h : ∀ i, i < n → f i = g i) : sm n f = sm n g := by
  induction n with
  | zero => rfl
  | succ n ih => unfold sm; rw [ih fun i hi => h i (by omega), h n (by omega)]
theorem sm_zero {n : Nat} {f : Nat → Rat} (h : ∀ i, i < n → f i = 0) : sm n f = 0 := by
  induction n with
  | zero => rfl
  | succ n ih => unfold sm; rw [ih fun i hi => h i (by omega), h n (by omega)]; grind
theorem sm_add (n : Nat) (f g : Nat → Rat) : sm n (fun i => f i + g i) = sm n f + sm n g := by
  induction n with
  | zero => unfold sm; grind
  | succ n ih => unfold sm; rw [ih]; grind
theorem sm_mul (n : Nat) (a : Rat) (f : Nat → Rat) : sm n (fun i => a * f i) = a * sm n f := by
  induction n with
  | zero => unfold sm; grind
  | succ n ih => unfold sm; rw [ih]; grind
theorem sm_sub (n : Nat) (f g : Nat → Rat) : sm n (fun i => f i - g i) = sm n f - sm n g := by
  induction n with
  | zero => unfold sm; grind
  | succ n ih => unfold sm; rw [ih]; grind
/-- one term -/
theorem sm_one {n k : Nat} {f : Nat → Rat} (hk : k < n) (h : ∀ i, i < n → i ≠ k → f i = 0) : sm n f = f k := by
  induction n with
  | zero => omega
  | succ n ih =>
    unfold sm
    by_cases e : k = n
    · subst e
      rw [sm_zero fun i hi => h i (by omega) (by omega)]; grind
    · rw [ih (by omega) fun i hi hne => h i (by omega) hne, h n (by omega) (by omega)]; grind
theorem sm_two {n k : Nat} {f : Nat → Rat} (hk : k + 1 < n) (h : ∀ i, i < n → i ≠ k → i ≠ k + 1 → f i = 0) : sm n f = f k + f (k + 1) := by
  induction n with
  | zero => omega
  | succ n ih =>
    unfold sm
    by_cases e : k + 1 = n
    · subst e
      rw [sm_one (k := k) (by omega) fun i hi hne => h i (by omega) hne (by omega)]
    · rw [ih (by omega) fun i hi h1 h2 => h i (by omega) h1 h2, h n (by omega) (by omega) (by omega)]; grind
def sk (j c : Nat) : Nat := if c < j then c else c + 1
theorem sm_sk {n p : Nat} (hp : p ≤ n) (f : Nat → Rat) : sm (n + 1) f = f p + sm n fun c => f (sk p c) := by
  induction n with
  | zero =>
    have : p = 0 := by omega
    subst this
    show (0 : Rat) + f 0 = f 0 + 0; grind
  | succ n ih =>
    by_cases e : p = n + 1
    · subst e
      rw [sm]
      rw [sm_congr (f := fun c => f (sk (n + 1) c)) (g := f) fun i hi => by unfold sk; rw [if_pos hi]]
      grind
    · rw [sm, ih (by omega)]
      show _ = f p + (sm n (fun c => f (sk p c)) + f (sk p n))
      have : sk p n = n + 1 := by unfold sk; rw [if_neg (by omega)]
      rw [this]; grind
theorem sm_comm (n m : Nat) (f : Nat → Nat → Rat) : sm n (fun i => sm m fun j => f i j) = sm m fun j => sm n fun i => f i j := by
  induction n with
  | zero => exact (sm_zero fun i _ => rfl).symm
  | succ n ih =>
    show sm n (fun i => sm m fun j => f i j) + sm m (fun j => f n j) = sm m fun j => sm n (fun i => f i j) + f n j
    rw [ih, ← sm_add]
/-! ### determinants, by the first row -/
def sg (j : Nat) : Rat := if j % 2 = 0 then 1 else -1
abbrev Mx := Nat → Nat → Rat
def mn (M : Mx) (j : Nat) : Mx := fun r c => M (r + 1) (sk j c)
def det : Nat → Mx → Rat
  | 0, _ => 1
  | n + 1, M => sm (n + 1) fun j => sg j * M 0 j * det n (mn M j)
theorem sg_succ (j : Nat) : sg (j + 1) = - sg j := by
  unfold sg
  rcases Nat.mod_two_eq_zero_or_one j with h | h
  · rw [if_neg (by omega), if_pos h]
  · rw [if_pos (by omega), if_neg (by omega)]; grind
theorem sk_lt {n j c : Nat} (hc : c < n) : sk j c < n + 1 := by unfold sk; split <;> omega
theorem det_congr {n : Nat} {M N : Mx} (h : ∀ r c, r < n → c < n → M r c = N r c) : det n M = det n N := by
  induction n generalizing M N with
  | zero => rfl
  | succ n ih =>
    unfold det
    refine sm_congr fun j hj => ?_
    rw [h 0 j (by omega) hj, ih (M := mn M j) (N := mn N j) fun r c hr hc => h (r + 1) (sk j c) (by omega) (sk_lt hc)]
/-- another column -/
def cc (M : Mx) (k : Nat) (u : Nat → Rat) : Mx := fun r c => if c = k then u r else M r c
def dn (j k : Nat) : Nat := if k < j then k else k - 1
theorem sk_dn {j k : Nat} (h : k ≠ j) : sk j (dn j k) = k := by
  unfold sk dn
  by_cases e : k < j
  · rw [if_pos e, if_pos e]
  · rw [if_neg e, if_neg (by omega)]; omega
theorem dn_sk (j c : Nat) : dn j (sk j c) = c := by
  unfold sk dn
  by_cases e : c < j
  · rw [if_pos e, if_pos e]
  · rw [if_neg e, if_neg (by omega)]; omega
theorem sk_ne (j c : Nat) : sk j c ≠ j := by unfold sk; split <;> omega
theorem sk_inj {j c d : Nat} (h : sk j c = sk j d) : c = d := by
  have := congrArg (dn j) h
  rwa [dn_sk, dn_sk] at this
theorem dn_lt {n j k : Nat} (hk : k < n + 1) (hj : j < n + 1) (h : k ≠ j) : dn j k < n := by unfold dn; split <;> omega
theorem mn_cc_self (M : Mx) (k : Nat) (u : Nat → Rat) : mn (cc M k u) k = mn M k := by
  funext r c
  unfold mn cc
  rw [if_neg (sk_ne k c)]
theorem mn_cc (M : Mx) {k j : Nat} (u : Nat → Rat) (h : k ≠ j) : mn (cc M k u) j = cc (mn M j) (dn j k) fun r => u (r + 1) := by
  funext r c
  unfold mn cc
  by_cases e : sk j c = k
  · rw [if_pos e, if_pos (by rw [← e, dn_sk])]
  · rw [if_neg e, if_neg fun z => e (by rw [z, sk_dn h])]
theorem det_lin {n : Nat} {M : Mx} {k : Nat} (hk : k < n) (a b : Rat) (u v : Nat → Rat) : det n (cc M k fun r => a * u r + b * v r) = a * det n (cc M k u) + b * det n (cc M k v) := by
  induction n generalizing M k u v with
  | zero => omega
  | succ n ih =>
    unfold det
    rw [← sm_mul, ← sm_mul, ← sm_add]
    refine sm_congr fun j hj => ?_
    by_cases e : k = j
    · subst e
      rw [mn_cc_self, mn_cc_self, mn_cc_self]
      unfold cc
      rw [if_pos rfl, if_pos rfl, if_pos rfl]
      grind
    · rw [mn_cc M _ e, mn_cc M _ e, mn_cc M _ e, ih (dn_lt hk hj e)]
      unfold cc
      rw [if_neg (Ne.symm e), if_neg (Ne.symm e), if_neg (Ne.symm e)]
      grind
theorem det_adj {n : Nat} {M : Mx} {k : Nat} (hk : k + 1 < n) (h : ∀ r, M r k = M r (k + 1)) : det n M = 0 := by
  induction n generalizing M k with
  | zero => omega
  | succ n ih =>
    unfold det
    rw [sm_two (k := k) hk]
    · have e : mn M k = mn M (k + 1) := by
        funext r c
        unfold mn sk
        by_cases e : c = k
        · subst e
          rw [if_neg (by omega), if_pos (by omega), h]
        · by_cases e2 : c < k
          · rw [if_pos e2, if_pos (by omega)]
          · rw [if_neg e2, if_neg (by omega)]
      rw [e, sg_succ, h 0]
      grind
    · intro j hj h1 h2
      have : det n (mn M j) = 0 := by
        by_cases l : j < k
        · refine ih (k := k - 1) (by omega) fun r => ?_
          unfold mn sk
          rw [if_neg (by omega), if_neg (by omega), show k - 1 + 1 = k by omega]
          exact h _
        · refine ih (k := k) (by omega) fun r => ?_
          unfold mn sk
          rw [if_pos (by omega), if_pos (by omega)]
          exact h _
      rw [this]; grind
theorem cc_comm (M : Mx) {k l : Nat} (u v : Nat → Rat) (h : k ≠ l) : cc (cc M k u) l v = cc (cc M l v) k u := by
  funext r c
  unfold cc
  by_cases e : c = l
  · rw [if_pos e, if_neg (by omega), if_pos e]
  · rw [if_neg e]
    by_cases e2 : c = k
    · rw [if_pos e2, if_pos e2]
    · rw [if_neg e2, if_neg e2, if_neg e]
theorem cc_cc (M : Mx) (k : Nat) (u v : Nat → Rat) : cc (cc M k u) k v = cc M k v := by
  funext r c
  unfold cc
  split <;> rfl
theorem cc_self (M : Mx) (k : Nat) : cc M k (fun r => M r k) = M := by
  funext r c
  unfold cc
  split
  · rename_i h; rw [h]
  · rfl
/-- two neighbours change places -/
theorem det_swap {n : Nat} {M : Mx} {k : Nat} (hk : k + 1 < n) (u v : Nat → Rat) : det n (cc (cc M k u) (k + 1) v) = - det n (cc (cc M k v) (k + 1) u) := by
  have hne : k ≠ k + 1 := by omega
  have z : ∀ w, det n (cc (cc M k w) (k + 1) w) = 0 := fun w => det_adj hk fun r => by
    unfold cc
    rw [if_neg hne, if_pos rfl, if_pos rfl]
  have h0 := z fun r => 1 * u r + 1 * v r
  rw [det_lin hk, cc_comm _ _ _ hne, det_lin (by omega), cc_comm _ _ _ hne, det_lin (by omega)] at h0
  rw [cc_comm M u u hne.symm, cc_comm M v v hne.symm, cc_comm M u v hne.symm, cc_comm M v u hne.symm, z u, z v] at h0
  grind
theorem det_eqc {n : Nat} : ∀ (d : Nat) {M : Mx} {k : Nat}, k + 1 + d < n → (∀ r, M r k = M r (k + 1 + d)) → det n M = 0
  | 0, _, _, hk, h => det_adj hk h
  | d + 1, M, k, hk, h => by
    have e : M = cc (cc M (k + 1 + d) fun r => M r (k + 1 + d)) (k + 1 + d + 1) fun r => M r (k + 1 + d + 1) := by
      rw [cc_self, cc_self]
    rw [e, det_swap (by omega)]
    rw [det_eqc d (k := k) (by omega) fun r => ?_]
    · grind
    · unfold cc
      rw [if_neg (by omega), if_neg (by omega), if_neg (by omega), if_pos rfl]
      exact h r
theorem det_same {n : Nat} {M : Mx} {k l : Nat} (hk : k < n) (hl : l < n) (hne : k ≠ l) (h : ∀ r, M r k = M r l) : det n M = 0 := by
  rcases Nat.lt_or_gt_of_ne hne with g | g
  · have := det_eqc (n := n) (l - k - 1) (M := M) (k := k) (by omega)
    rw [show k + 1 + (l - k - 1) = l by omega] at this
    exact this h
  · have := det_eqc (n := n) (k - l - 1) (M := M) (k := l) (by omega)
    rw [show l + 1 + (k - l - 1) = k by omega] at this
    exact this fun r => (h r).symm
theorem det_col0 {n : Nat} {M : Mx} {k : Nat} (hk : k < n) : det n (cc M k fun _ => 0) = 0 := by
  have := det_lin (M := M) hk 0 0 (fun _ => 0) (fun _ => 0)
  rw [show (fun r : Nat => (0 : Rat) * (fun _ => 0) r + 0 * (fun _ => 0) r) = fun _ => (0 : Rat) by funext; grind] at this
  grind
theorem det_sum {n m : Nat} {M : Mx} {k : Nat} (hk : k < n) (x : Nat → Rat) (u : Nat → Nat → Rat) : det n (cc M k fun r => sm m fun i => x i * u i r) = sm m fun i => x i * det n (cc M k (u i)) := by
  induction m with
  | zero => exact det_col0 hk
  | succ m ih =>
    have := det_lin (M := M) hk 1 (x m) (fun r => sm m fun i => x i * u i r) (u m)
    rw [ih] at this
    show _ = sm m (fun i => x i * det n (cc M k (u i))) + x m * det n (cc M k (u m))
    rw [← show (1 : Rat) * sm m (fun i => x i * det n (cc M k (u i))) + x m * det n (cc M k (u m)) = sm m (fun i => x i * det n (cc M k (u i))) + x m * det n (cc M k (u m)) by grind, ← this]
    refine congrArg (fun w => det n (cc M k w)) (funext fun r => ?_)
    show sm m _ + _ = _
    grind
/-- Cramer -/
theorem cramer {n : Nat} {M : Mx} {b x : Nat → Rat} (h : ∀ r, r < n → sm n (fun j => M r j * x j) = b r) {j : Nat} (hj : j < n) : det n (cc M j b) = x j * det n M := by
  have e : det n (cc M j b) = det n (cc M j fun r => sm n fun i => x i * M r i) := det_congr fun r c hr hc => by
    unfold cc
    split
    · rw [← h r hr]; exact sm_congr fun i _ => by grind
    · rfl
  rw [e, det_sum hj x fun i r => M r i, sm_one (k := j) hj]
  · rw [cc_self]
  · intro i hi hne
    rw [det_same hi hj hne fun r => ?_]
    · grind
    · unfold cc
      rw [if_neg hne, if_pos rfl]
/-! ### kernels -/
def nN (M : Mx) (p : Nat) : Mx := fun r c => if c = p then M r p else M r c - M 0 c / M 0 p * M r p
theorem lift {m k p : Nat} {M : Mx} (hp : p ≤ k) (h0 : M 0 p ≠ 0) {y : Nat → Rat} (hy : ∃ j, j < k ∧ y j ≠ 0) (h : ∀ r, r < m → sm k (fun c => nN M p (r + 1) (sk p c) * y c) = 0) :
    ∃ x : Nat → Rat, (∃ j, j < k + 1 ∧ x j ≠ 0) ∧ ∀ r, r < m + 1 → sm (k + 1) (fun j => M r j * x j) = 0 := by
  let s := sm k fun c => M 0 (sk p c) / M 0 p * y c
  refine ⟨fun j => if j = p then -s else y (dn p j), ?_, ?_⟩
  · obtain ⟨j, hj, hn⟩ := hy
    refine ⟨sk p j, sk_lt hj, ?_⟩
    show (if sk p j = p then -s else y (dn p (sk p j))) ≠ 0
    rw [if_neg (sk_ne p j), dn_sk]
    exact hn
  · intro r hr
    rw [sm_sk hp]
    show M r p * (if p = p then -s else y (dn p p)) + sm k (fun c => M r (sk p c) * (if sk p c = p then -s else y (dn p (sk p c)))) = 0
    rw [if_pos rfl, sm_congr (g := fun c => M r (sk p c) * y c) fun c _ => by rw [if_neg (sk_ne p c), dn_sk]]
    cases r with
    | zero =>
      have e : sm k (fun c => M 0 (sk p c) * y c) = M 0 p * s := by
        rw [← sm_mul]
        exact sm_congr fun c _ => by grind
      rw [e]; grind
    | succ r =>
      have := h r (by omega)
      rw [sm_congr (g := fun c => M (r + 1) (sk p c) * y c - M (r + 1) p * (M 0 (sk p c) / M 0 p * y c)) fun c _ => by unfold nN; rw [if_neg (sk_ne p c)]; grind, sm_sub, sm_mul] at this
      grind
/-- more unknowns than equations -/
theorem under : ∀ (n : Nat) (M : Mx), ∃ x : Nat → Rat, (∃ j, j < n + 1 ∧ x j ≠ 0) ∧ ∀ r, r < n → sm (n + 1) (fun j => M r j * x j) = 0
  | 0, _ => ⟨fun _ => 1, ⟨0, by omega, by decide⟩, fun r hr => by omega⟩
  | n + 1, M => by
    by_cases h : ∃ p, p ≤ n + 1 ∧ M 0 p ≠ 0
    · obtain ⟨p, hp, h0⟩ := h
      obtain ⟨y, hy, h1⟩ := under n fun r c => nN M p (r + 1) (sk p c)
      exact lift hp h0 hy h1
    · obtain ⟨y, ⟨j, hj, hy⟩, h1⟩ := under n fun r c => M (r + 1) c
      refine ⟨fun j => if j < n + 1 then y j else 0, ⟨j, by omega, by show (if j < n + 1 then y j else 0) ≠ 0; rw [if_pos hj]; exact hy⟩, fun r hr => ?_⟩
      show sm (n + 1) (fun j => M r j * (if j < n + 1 then y j else 0)) + M r (n + 1) * (if n + 1 < n + 1 then y (n + 1) else 0) = 0
      rw [if_neg (by omega), sm_congr (g := fun j => M r j * y j) fun i hi => by rw [if_pos hi]]
      cases r with
      | zero =>
        rw [sm_zero fun i hi => ?_]
        · grind
        · have : M 0 i = 0 := Classical.byContradiction fun z => h ⟨i, by omega, z⟩
          rw [this]; grind
      | succ r => rw [h1 r (by omega)]; grind
theorem det_nN {n p : Nat} {M : Mx} (hp : p < n) (h0 : M 0 p ≠ 0) : det n (nN M p) = det n M := by
  have key : ∀ t, t ≤ n → det n (fun r c => if c < t then nN M p r c else M r c) = det n M := by
    intro t
    induction t with
    | zero => intro _; exact congrArg (det n) (by funext r c; rw [if_neg (by omega)])
    | succ t ih =>
      intro ht
      rw [← ih (by omega)]
      by_cases e : t = p
      · refine det_congr fun r c hr hc => ?_
        by_cases l : c < t
        · rw [if_pos (by omega), if_pos l]
        · by_cases l2 : c = t
          · rw [if_pos (by omega), if_neg l]; unfold nN; rw [if_pos (by omega), l2, e]
          · rw [if_neg (by omega), if_neg l]
      · let N : Mx := fun r c => if c < t then nN M p r c else M r c
        have e1 : (fun r c => if c < t + 1 then nN M p r c else M r c) = cc N t fun r => 1 * M r t + (-(M 0 t / M 0 p)) * M r p := by
          funext r c
          show _ = cc N t _ r c
          unfold cc
          by_cases l : c = t
          · rw [if_pos (by omega), if_pos l]; unfold nN; rw [if_neg (by omega), l]; grind
          · rw [if_neg l]
            show _ = if c < t then nN M p r c else M r c
            by_cases l2 : c < t
            · rw [if_pos (by omega), if_pos l2]
            · rw [if_neg (by omega), if_neg l2]
        rw [e1, det_lin (by omega)]
        have z : det n (cc N t fun r => M r p) = 0 := det_same hp (show t < n by omega) (Ne.symm e) fun r => by
          show cc N t _ r p = cc N t _ r t
          unfold cc
          rw [if_neg (Ne.symm e), if_pos rfl]
          show (if p < t then nN M p r p else M r p) = _
          split
          · unfold nN; rw [if_pos rfl]
          · rfl
        have s : cc N t (fun r => M r t) = N := by
          refine Eq.trans ?_ (cc_self N t)
          refine congrArg (cc N t) (funext fun r => ?_)
          show M r t = if t < t then nN M p r t else M r t
          rw [if_neg (by omega)]
        rw [z, s]
        show 1 * det n N + _ = det n N
        grind
  rw [← key n (Nat.le_refl n)]
  exact det_congr fun r c _ hc => by rw [if_pos hc]
theorem ker_of {n : Nat} {M : Mx} (h : det n M = 0) : ∃ x : Nat → Rat, (∃ j, j < n ∧ x j ≠ 0) ∧ ∀ r, r < n → sm n (fun j => M r j * x j) = 0 := by
  induction n generalizing M with
  | zero => exact absurd h (by unfold det; decide)
  | succ n ih =>
    by_cases hp : ∃ p, p ≤ n ∧ M 0 p ≠ 0
    · obtain ⟨p, hp, h0⟩ := hp
      have e := det_nN (n := n + 1) (by omega) h0
      rw [h] at e
      unfold det at e
      rw [sm_one (k := p) (by omega) fun j hj hne => ?_] at e
      · have hz : det n (mn (nN M p) p) = 0 := by
          have h1 : nN M p 0 p = M 0 p := by unfold nN; rw [if_pos rfl]
          rw [h1] at e
          have s : sg p ≠ 0 := by unfold sg; split <;> decide
          grind
        obtain ⟨y, hy, h1⟩ := ih hz
        exact lift hp h0 hy h1
      · have : nN M p 0 j = 0 := by unfold nN; rw [if_neg hne]; grind
        rw [this]; grind
    · obtain ⟨x, hx, h1⟩ := under n fun r c => M (r + 1) c
      refine ⟨x, hx, fun r hr => ?_⟩
      cases r with
      | zero =>
        refine sm_zero fun i hi => ?_
        have : M 0 i = 0 := Classical.byContradiction fun z => hp ⟨i, by omega, z⟩
        rw [this]; grind
      | succ r => exact h1 r (by omega)
/-! ### whole numbers -/
def IsI (A : Nat) (x : Rat) : Prop := ∃ z : Int, x = (z : Rat) ∧ z.natAbs ≤ A
theorem isI_add {A B : Nat} {x y : Rat} (h : IsI A x) (g : IsI B y) : IsI (A + B) (x + y) := by
  obtain ⟨a, rfl, ha⟩ := h; obtain ⟨b, rfl, hb⟩ := g
  exact ⟨a + b, by push_cast; rfl, by omega⟩
theorem isI_mul {A B : Nat} {x y : Rat} (h : IsI A x) (g : IsI B y) : IsI (A * B) (x * y) := by
  obtain ⟨a, rfl, ha⟩ := h; obtain ⟨b, rfl, hb⟩ := g
  exact ⟨a * b, by push_cast; rfl, by rw [Int.natAbs_mul]; exact Nat.mul_le_mul ha hb⟩
theorem isI_up {A B : Nat} {x : Rat} (h : IsI A x) (l : A ≤ B) : IsI B x := by
  obtain ⟨a, e, ha⟩ := h
  exact ⟨a, e, by omega⟩
theorem isI_sm {A n : Nat} {f : Nat → Rat} (h : ∀ i, i < n → IsI A (f i)) : IsI (n * A) (sm n f) := by
  induction n with
  | zero => exact ⟨0, by rfl, by omega⟩
  | succ n ih => rw [Nat.succ_mul]; exact isI_add (ih fun i hi => h i (by omega)) (h n (by omega))
theorem isI_sg (j : Nat) : IsI 1 (sg j) := by
  unfold sg
  split
  · exact ⟨1, by rfl, by decide⟩
  · exact ⟨-1, by rfl, by decide⟩
theorem isI_det {A n : Nat} {M : Mx} (h : ∀ r c, r < n → c < n → IsI A (M r c)) : IsI ((n * A) ^ n) (det n M) := by
  induction n generalizing M with
  | zero => exact ⟨1, by rfl, by simp⟩
  | succ n ih =>
    unfold det
    have := isI_sm (n := n + 1) (A := 1 * A * (n * A) ^ n) (f := fun j => sg j * M 0 j * det n (mn M j)) fun j hj => isI_mul (isI_mul (isI_sg j) (h 0 j (by omega) hj)) (ih fun r c hr hc => h (r + 1) (sk j c) (by omega) (sk_lt hc))
    refine isI_up this ?_
    rw [Nat.one_mul, ← Nat.mul_assoc, Nat.pow_succ, Nat.mul_comm]
    exact Nat.mul_le_mul (Nat.pow_le_pow_left (Nat.mul_le_mul_right _ (by omega)) n) (Nat.le_refl _)
end L3

namespace L3
/-! ### elimination -/
theorem sm_cut {n c : Nat} {f : Nat → Rat} (hc : c ≤ n) (h : ∀ i, c ≤ i → i < n → f i = 0) : sm n f = sm c f := by
  induction n with
  | zero => rw [show c = 0 by omega]
  | succ n ih =>
    by_cases e : c = n + 1
    · rw [e]
    · show sm n f + f n = sm c f
      rw [ih (by omega) fun i h1 h2 => h i h1 (by omega), h n (by omega) (by omega), Rat.add_zero]
structure GJ (n c : Nat) (A T : Mx) : Prop where
  le : c ≤ n
  e : ∀ r j, r < n → j ≤ n → A r j = sm c (fun l => A r l * T l j) + if c ≤ r then T r j else 0
  u : ∀ r j, r < n → j < c → T r j = if r = j then 1 else 0
  f : ∃ G : Mx, ∀ r j, r < n → j ≤ n → T r j = sm c (fun l => G r l * A l j) + if c ≤ r then A r j else 0
theorem gj_start (n : Nat) (A : Mx) : GJ n 0 A A := ⟨Nat.zero_le _, fun r j _ _ => by rw [if_pos (Nat.zero_le _)]; unfold sm; grind, fun r j _ h => by omega, fun _ _ => 0, fun r j _ _ => by rw [if_pos (Nat.zero_le _)]; unfold sm; grind⟩
def sr (c q r : Nat) : Nat := if r = c then q else if r = q then c else r
def sw (M : Mx) (c q : Nat) : Mx := fun r j => M (sr c q r) j
theorem sr_lt {n c q r : Nat} (hc : c < n) (hq : q < n) (hr : r < n) : sr c q r < n := by
  unfold sr
  split
  · exact hq
  · split <;> omega
theorem sr_low {c q l : Nat} (hq : c ≤ q) (hl : l < c) : sr c q l = l := by unfold sr; rw [if_neg (by omega), if_neg (by omega)]
theorem sr_ge {c q r : Nat} (hq : c ≤ q) : c ≤ sr c q r ↔ c ≤ r := by
  unfold sr
  split
  · omega
  · split <;> omega
theorem sr_sr (c q r : Nat) : sr c q (sr c q r) = r := by
  unfold sr
  by_cases h1 : r = c
  · rw [if_pos h1]
    by_cases h2 : q = c
    · rw [if_pos h2, h2, h1]
    · rw [if_neg h2, if_pos rfl, h1]
  · rw [if_neg h1]
    by_cases h2 : r = q
    · rw [if_pos h2, if_pos rfl, h2]
    · rw [if_neg h2, if_neg h1, if_neg h2]
theorem gj_swap {n c q : Nat} {A T : Mx} (h : GJ n c A T) (hc : c < n) (hq : c ≤ q) (hqn : q < n) : GJ n c (sw A c q) (sw T c q) := by
  obtain ⟨G, hG⟩ := h.f
  refine ⟨h.le, fun r j hr hj => ?_, fun r j hr hj => ?_, fun r l => G (sr c q r) l, fun r j hr hj => ?_⟩
  · show A (sr c q r) j = sm c (fun l => A (sr c q r) l * T (sr c q l) j) + if c ≤ r then T (sr c q r) j else 0
    rw [h.e _ j (sr_lt hc hqn hr) hj, sm_congr (g := fun l => A (sr c q r) l * T (sr c q l) j) fun l hl => by rw [sr_low hq hl]]
    congr 1
    by_cases g : c ≤ r
    · rw [if_pos g, if_pos ((sr_ge hq).mpr g)]
    · rw [if_neg g, if_neg fun z => g ((sr_ge hq).mp z)]
  · show T (sr c q r) j = _
    rw [h.u _ j (sr_lt hc hqn hr) hj]
    by_cases e : r = j
    · rw [if_pos e, if_pos (by rw [e]; exact sr_low hq hj)]
    · rw [if_neg e, if_neg fun z => e (by rw [← sr_sr c q r, z]; exact sr_low hq hj)]
  · show T (sr c q r) j = sm c (fun l => G (sr c q r) l * A (sr c q l) j) + if c ≤ r then A (sr c q r) j else 0
    rw [hG _ j (sr_lt hc hqn hr) hj, sm_congr (g := fun l => G (sr c q r) l * A (sr c q l) j) fun l hl => by rw [sr_low hq hl]]
    congr 1
    by_cases g : c ≤ r
    · rw [if_pos g, if_pos ((sr_ge hq).mpr g)]
    · rw [if_neg g, if_neg fun z => g ((sr_ge hq).mp z)]
/-- one column is cleared -/
def cl (T : Mx) (c : Nat) : Mx := fun r j => if r = c then T c j / T c c else T r j - T r c * (T c j / T c c)
theorem gj_step {n c : Nat} {A T : Mx} (h : GJ n c A T) (hc : c < n) (h0 : T c c ≠ 0) : GJ n (c + 1) A (cl T c) := by
  obtain ⟨G, hG⟩ := h.f
  refine ⟨hc, fun r j hr hj => ?_, fun r j hr hj => ?_, fun r l => if r = c then (if l = c then 1 / T c c else G c l / T c c) else (if l = c then -(T r c / T c c) else G r l - T r c * (G c l / T c c)), fun r j hr hj => ?_⟩
  · rw [sm, sm_congr (g := fun l => A r l * T l j - T c j / T c c * (A r l * T l c)) fun l hl => by unfold cl; rw [if_neg (by omega)]; grind, sm_sub, sm_mul]
    have e1 := h.e r j hr hj
    have e2 := h.e r c hr (by omega)
    unfold cl
    by_cases g : r = c
    · subst g
      rw [if_pos (Nat.le_refl _)] at e1 e2
      rw [if_pos rfl, if_neg (by omega)]
      have : T r j / T r r * T r r = T r j := Rat.div_mul_cancel h0
      grind
    · rw [if_neg g, if_pos rfl]
      by_cases g2 : c ≤ r
      · rw [if_pos g2] at e1 e2
        rw [if_pos (by omega)]
        grind
      · rw [if_neg g2] at e1 e2
        rw [if_neg (by omega)]
        grind
  · unfold cl
    by_cases g : r = c
    · rw [if_pos g]
      by_cases g2 : j = c
      · rw [if_pos (by omega), g2]; grind
      · rw [h.u c j hc (by omega), if_neg (by omega), if_neg (by omega)]; grind
    · rw [if_neg g]
      by_cases g2 : j = c
      · rw [if_neg (by omega), g2]; grind
      · rw [h.u c j hc (by omega), h.u r j hr (by omega), if_neg (show ¬ c = j by omega)]; grind
  · have e1 := hG c j hc hj
    have e2 := hG r j hr hj
    rw [if_pos (Nat.le_refl _)] at e1
    show cl T c r j = sm c (fun l => (if r = c then (if l = c then 1 / T c c else G c l / T c c) else (if l = c then -(T r c / T c c) else G r l - T r c * (G c l / T c c))) * A l j) + (if r = c then (if c = c then 1 / T c c else G c c / T c c) else (if c = c then -(T r c / T c c) else G r c - T r c * (G c c / T c c))) * A c j + if c + 1 ≤ r then A r j else 0
    unfold cl
    by_cases g : r = c
    · rw [if_pos g, if_pos g, if_pos rfl, if_neg (by omega)]
      rw [sm_congr (g := fun l => 1 / T c c * (G c l * A l j)) fun l hl => by rw [if_pos g, if_neg (by omega)]; grind, sm_mul]
      grind
    · rw [if_neg g, if_neg g, if_pos rfl]
      rw [sm_congr (g := fun l => G r l * A l j - T r c / T c c * (G c l * A l j)) fun l hl => by rw [if_neg g, if_neg (by omega)]; grind, sm_sub, sm_mul]
      by_cases g2 : c ≤ r
      · rw [if_pos g2] at e2
        rw [if_pos (by omega)]
        grind
      · rw [if_neg g2] at e2
        rw [if_neg (by omega)]
        grind
/-- what has been reached is regular -/
theorem gj_reg {n c : Nat} {A T : Mx} (h : GJ n c A T) {y : Nat → Rat} (hy : ∀ r, r < c → sm c (fun j => A r j * y j) = 0) {r : Nat} (hr : r < c) : y r = 0 := by
  obtain ⟨G, hG⟩ := h.f
  have hcn := h.le
  have e1 : y r = sm c fun j => T r j * y j := by
    rw [sm_one (k := r) hr fun i hi hne => by rw [h.u r i (by omega) hi, if_neg (Ne.symm hne)]; grind]
    rw [h.u r r (by omega) hr, if_pos rfl]; grind
  rw [e1, sm_congr (g := fun j => sm c fun l => G r l * (A l j * y j)) fun j hj => ?_, sm_comm]
  · refine sm_zero fun l hl => ?_
    rw [sm_mul, hy l hl]; grind
  · rw [hG r j (by omega) (by omega), if_neg (by omega)]
    rw [show (sm c (fun l => G r l * A l j) + 0) * y j = y j * sm c (fun l => G r l * A l j) by grind, ← sm_mul]
    exact sm_congr fun l _ => by grind
theorem gj_end {n : Nat} {A T : Mx} (h : GJ n n A T) : (∀ r, r < n → sm n (fun l => A r l * T l n) = A r n) ∧ ∀ y : Nat → Rat, (∀ r, r < n → sm n (fun j => A r j * y j) = 0) → ∀ r, r < n → y r = 0 :=
  ⟨fun r hr => by rw [h.e r n hr (Nat.le_refl _), if_neg (by omega)]; grind, fun y hy r hr => gj_reg h hy hr⟩
theorem gj_fail {n c : Nat} {A T : Mx} (h : GJ n c A T) (hc : c < n) (h0 : ∀ r, c ≤ r → r < n → T r c = 0) : ∃ x : Nat → Rat, (∃ j, j < n ∧ x j ≠ 0) ∧ ∀ r, r < n → sm n (fun j => A r j * x j) = 0 := by
  refine ⟨fun j => if j < c then -T j c else if j = c then 1 else 0, ⟨c, hc, ?_⟩, fun r hr => ?_⟩
  · show (if c < c then -T c c else if c = c then 1 else 0) ≠ (0 : Rat)
    rw [if_neg (by omega), if_pos rfl]; decide
  · rw [sm_cut (c := c + 1) (by omega) fun i h1 h2 => by show A r i * (if i < c then -T i c else if i = c then 1 else 0) = 0; rw [if_neg (by omega), if_neg (by omega)]; grind]
    show sm c (fun j => A r j * (if j < c then -T j c else if j = c then 1 else 0)) + A r c * (if c < c then -T c c else if c = c then 1 else 0) = 0
    rw [if_neg (by omega), if_pos rfl, sm_congr (g := fun j => -1 * (A r j * T j c)) fun j hj => by rw [if_pos hj]; grind, sm_mul]
    have e := h.e r c hr (by omega)
    by_cases g : c ≤ r
    · rw [if_pos g, h0 r g hr] at e; grind
    · rw [if_neg g] at e; grind
/-! ### how large the table's entries are -/
def FrQ (P S : Nat) (x : Rat) : Prop := ∃ a b : Int, b ≠ 0 ∧ x = (a : Rat) / (b : Rat) ∧ a.natAbs ≤ P ∧ b.natAbs ≤ S
theorem gj_size {n c : Nat} {A T : Mx} {W M : Nat} {s : Nat → Nat} (h : GJ n c A T) (hs : ∀ r, r < n → 1 ≤ s r ∧ s r ≤ W) (hI : ∀ r j, r < n → j ≤ n → IsI M ((s r : Rat) * A r j)) (hM : 1 ≤ M) {r j : Nat} (hr : r < n) (hj : j ≤ n) :
    FrQ ((n + 1) * M * (n * M) ^ n) (W * (n * M) ^ n) (T r j) := by
  have hcn := h.le
  let I : Mx := fun r j => (s r : Rat) * A r j
  have s0 : ∀ r, r < n → (s r : Rat) ≠ 0 := fun r hr z => by
    have : s r = 0 := by exact_mod_cast z
    have := (hs r hr).1
    omega
  have pw : (c * M) ^ c ≤ (n * M) ^ n := by
    rcases Nat.eq_zero_or_pos n with e | e
    · have : c = 0 := by omega
      rw [this, e]
      exact Nat.le_refl _
    · exact Nat.le_trans (Nat.pow_le_pow_left (Nat.mul_le_mul_right _ hcn) c) (Nat.pow_le_pow_right (Nat.mul_pos e hM) hcn)
  have D0 : det c I ≠ 0 := fun z => by
    obtain ⟨y, ⟨k, hk, hy⟩, h1⟩ := ker_of z
    refine hy (gj_reg h (fun r hr => ?_) hk)
    have := h1 r hr
    rw [sm_congr (g := fun j => (s r : Rat) * (A r j * y j)) fun j _ => by show (s r : Rat) * A r j * y j = _; grind, sm_mul] at this
    have := s0 r (by omega)
    grind
  obtain ⟨D, hD, hDb⟩ := isI_det (n := c) (A := M) (M := I) fun r j hr hj => hI r j (by omega) (by omega)
  have Dz : D ≠ 0 := fun z => D0 (by rw [hD, z]; rfl)
  have Dq : (D : Rat) ≠ 0 := fun z => Dz (by exact_mod_cast z)
  have low : ∀ l, l < c → IsI ((n * M) ^ n) ((D : Rat) * T l j) := fun l hl => by
    have hc2 := cramer (n := c) (M := I) (b := fun r => I r j) (x := fun l => T l j) (fun r hr => by
      rw [sm_congr (g := fun l => (s r : Rat) * (A r l * T l j)) fun l _ => by show (s r : Rat) * A r l * T l j = _; grind, sm_mul]
      show (s r : Rat) * _ = (s r : Rat) * A r j
      rw [h.e r j (by omega) hj, if_neg (by omega)]; grind) hl
    rw [hD] at hc2
    rw [show (D : Rat) * T l j = T l j * (D : Rat) by grind, ← hc2]
    refine isI_up (isI_det (A := M) fun r k hr hk => ?_) pw
    unfold cc
    split
    · exact hI r j (by omega) hj
    · exact hI r k (by omega) (by omega)
  by_cases g : c ≤ r
  · have e := h.e r j hr hj
    rw [if_pos g] at e
    have hz : IsI ((n * M) ^ n * M + c * (M * (n * M) ^ n)) ((D : Rat) * I r j - sm c fun l => I r l * ((D : Rat) * T l j)) := by
      have h1 := isI_mul (⟨D, rfl, Nat.le_trans hDb pw⟩ : IsI ((n * M) ^ n) (D : Rat)) (hI r j hr hj)
      have h2 := isI_sm (n := c) (A := M * (n * M) ^ n) (f := fun l => I r l * ((D : Rat) * T l j)) fun l hl => isI_mul (hI r l hr (by omega)) (low l hl)
      have h3 : IsI 1 (-1 : Rat) := ⟨-1, by rfl, by decide⟩
      have h4 := isI_mul h3 h2
      rw [Nat.one_mul] at h4
      have := isI_add h1 h4
      have e3 : (D : Rat) * I r j - sm c (fun l => I r l * ((D : Rat) * T l j)) = (D : Rat) * ((s r : Rat) * A r j) + -1 * sm c (fun l => I r l * ((D : Rat) * T l j)) := by
        show (D : Rat) * ((s r : Rat) * A r j) - _ = _
        grind
      rw [e3]
      exact this
    obtain ⟨z, hz1, hz2⟩ := hz
    refine ⟨z, (s r : Int) * D, ?_, ?_, ?_, ?_⟩
    · have := (hs r hr).1
      exact Int.mul_ne_zero (by omega) Dz
    · rw [← hz1]
      have es : ((((s r : Nat) : Int) * D : Int) : Rat) = (s r : Rat) * (D : Rat) := by push_cast; rfl
      rw [es]
      show T r j = ((D : Rat) * ((s r : Rat) * A r j) - sm c fun l => (s r : Rat) * A r l * ((D : Rat) * T l j)) / ((s r : Rat) * (D : Rat))
      rw [sm_congr (g := fun l => ((D : Rat) * (s r : Rat)) * (A r l * T l j)) fun l _ => by grind, sm_mul]
      have := s0 r hr
      grind
    · refine Nat.le_trans hz2 ?_
      have : c * (M * (n * M) ^ n) ≤ n * (M * (n * M) ^ n) := Nat.mul_le_mul_right _ hcn
      rw [show (n + 1) * M * (n * M) ^ n = (n * M) ^ n * M + n * (M * (n * M) ^ n) by rw [Nat.add_mul, Nat.add_mul, Nat.one_mul, Nat.mul_assoc, Nat.mul_comm M]; omega]
      omega
    · rw [Int.natAbs_mul, Int.natAbs_natCast]
      exact Nat.mul_le_mul (hs r hr).2 (Nat.le_trans hDb pw)
  · obtain ⟨z, hz1, hz2⟩ := low r (by omega)
    refine ⟨z, D, Dz, by rw [← hz1]; grind, ?_, ?_⟩
    · refine Nat.le_trans hz2 (Nat.le_mul_of_pos_left _ (Nat.mul_pos (by omega) hM))
    · have w1 : 1 ≤ W := Nat.le_trans (hs r hr).1 (hs r hr).2
      exact Nat.le_trans (Nat.le_trans hDb pw) (Nat.le_mul_of_pos_left _ w1)
end L3

namespace L3
open PySem L2
theorem enumI_at {α : Type} : ∀ (k : Nat) (xs : List α) (i : Nat), (enumI k xs)[i]? = xs[i]?.map fun a => (((k + i : Nat) : Int), a)
  | _, [], _ => by simp [enumI]
  | k, x :: xs, 0 => by simp [enumI]
  | k, x :: xs, i + 1 => by
    show (enumI (k + 1) xs)[i]? = _
    rw [enumI_at (k + 1) xs i]
    simp [Nat.add_assoc, Nat.add_comm 1 i]
theorem rng_ix (n : Nat) (i : Nat) : (rng 0 (n : Int))[i]? = if i < n then some (i : Int) else none := by
  unfold rng
  rw [List.getElem?_map]
  split
  · rw [List.getElem?_range (by omega)]; simp
  · rw [List.getElem?_eq_none (by rw [List.length_range]; omega)]; rfl
end L3

namespace L3
open PySem L2
/-! ### solve -/
def rowQ (n : Nat) (u : Nat → Rat) : List (Int × Int) := (List.range (n + 1)).map fun j => ofQ (u j)
def tq (n : Nat) (T : Mx) : List (List (Int × Int)) := (List.range n).map fun r => rowQ n (T r)
theorem rowQ_len {n : Nat} {u : Nat → Rat} : (rowQ n u).length = n + 1 := by unfold rowQ; rw [List.length_map, List.length_range]
theorem tq_len {n : Nat} {T : Mx} : (tq n T).length = n := by unfold tq; rw [List.length_map, List.length_range]
theorem rowQ_ix {n j : Nat} {u : Nat → Rat} (h : j ≤ n) : ixL (rowQ n u) (j : Int) = some (ofQ (u j)) := by
  refine ixL_s (n := j) ?_ rfl
  unfold rowQ
  rw [List.getElem?_map, List.getElem?_range (by omega)]; rfl
theorem tq_ix {n r : Nat} {T : Mx} (h : r < n) : ixL (tq n T) (r : Int) = some (rowQ n (T r)) := by
  refine ixL_s (n := r) ?_ rfl
  unfold tq
  rw [List.getElem?_map, List.getElem?_range h]; rfl
theorem rowQ_congr {n : Nat} {u v : Nat → Rat} (h : ∀ j, j ≤ n → u j = v j) : rowQ n u = rowQ n v := by
  unfold rowQ
  refine List.map_congr_left fun j hj => ?_
  rw [h j (by have := List.mem_range.mp hj; omega)]
theorem tq_congr {n : Nat} {T U : Mx} (h : ∀ r j, r < n → j ≤ n → T r j = U r j) : tq n T = tq n U := by
  unfold tq
  refine List.map_congr_left fun r hr => ?_
  exact rowQ_congr fun j hj => h r j (List.mem_range.mp hr) hj
theorem tq_set {n r : Nat} {T : Mx} {u : Nat → Rat} (h : r < n) : (tq n T).set r (rowQ n u) = tq n fun r' => if r' = r then u else T r' := by
  refine List.ext_getElem? fun i => ?_
  unfold tq
  by_cases e : r = i
  · subst e
    rw [List.getElem?_set_self (by rw [List.length_map, List.length_range]; exact h), List.getElem?_map, List.getElem?_range h]
    show some _ = some (rowQ n (if r = r then u else T r))
    rw [if_pos rfl]
  · rw [List.getElem?_set_ne e, List.getElem?_map, List.getElem?_map]
    by_cases hi : i < n
    · rw [List.getElem?_range hi]
      show some _ = some (rowQ n (if i = r then u else T i))
      rw [if_neg (Ne.symm e)]
    · rw [List.getElem?_eq_none (by rw [List.length_range]; omega)]; rfl
theorem fr_bd {P S k : Nat} {x : Rat} (h : FrQ P S x) (hP : P < 2 ^ k) (hS : S < 2 ^ k) : Bd k x := by
  obtain ⟨a, b, hb, e, h1, h2⟩ := h
  have e : x = Rat.divInt a b := by rw [e, Rat.divInt_eq_div]
  subst e
  refine ⟨?_, ?_⟩
  · rw [Rat.num_divInt]
    refine Nat.lt_of_le_of_lt (Int.natAbs_ediv_le_natAbs _ _) ?_
    rw [Int.natAbs_mul]
    have : b.sign.natAbs ≤ 1 := by
      rw [Int.natAbs_sign]; split <;> omega
    have := Nat.mul_le_mul_right a.natAbs this
    omega
  · rw [Rat.den_divInt, if_neg hb]
    exact Nat.lt_of_le_of_lt (Nat.div_le_self _ _) (by omega)
/-- bits of a table -/
def TB (n k : Nat) (T : Mx) : Prop := ∀ r j, r < n → j ≤ n → Bd k (T r j)
theorem pivot_ok {n c : Nat} {T : Mx} (hn : n ≤ 1000) (hc : c < n) : Yes (m_pivot_of (tq n T) (c : Int)) fun o => match o with
    | none => ∀ r, c ≤ r → r < n → T r c = 0
    | some q => ∃ p : Nat, q = (p : Int) ∧ c ≤ p ∧ p < n ∧ T p c ≠ 0 := by
  unfold m_pivot_of
  rw [tq_len]
  refine y_eq (small62_s (by omega) (by omega)) (y_eq (small62_s (by omega) (by omega)) ?_)
  refine y_bind (Q := fun o => match o with
    | .inl _ => ∀ r, c ≤ r → r < n → T r c = 0
    | .inr none => False
    | .inr (some q) => ∃ p : Nat, q = (p : Int) ∧ c ≤ p ∧ p < n ∧ T p c ≠ 0) (y_loopR _ (fun i _ => ∀ r, c ≤ r → r < c + i → T r c = 0) _ (fun r h1 h2 => by omega) ?_ ?_) fun o ho => ?_
  · rintro i x ⟨⟩ hx hI
    obtain ⟨e1, e2⟩ := rng_at hx
    have e1 : x = ((c + i : Nat) : Int) := by omega
    subst e1
    refine y_eq (tq_ix (by omega)) (y_eq (rowQ_ix (by omega)) ?_)
    rw [eq_0]
    refine y_if (fun h => y_some ⟨c + i, rfl, by omega, by omega, by simpa using h⟩) (fun h => y_some fun r h1 h2 => ?_)
    by_cases e : r = c + i
    · rw [e]; simpa using h
    · exact hI r h1 (by omega)
  · intro s hI
    rw [rng_len] at hI
    exact fun r h1 h2 => hI r h1 (by omega)
  · match o, ho with
    | .inl _, ho => exact y_some ho
    | .inr (some q), ho => exact y_some ho
theorem cleared_ok {n c k : Nat} {u v : Nat → Rat} (hn : n ≤ 1000) (hc : c ≤ n) (hk : 0 < k) (hk2 : 3 * k ≤ 4000) (hu : ∀ j, j ≤ n → Bd k (u j)) (hv : ∀ j, j ≤ n → Bd k (v j)) : m_cleared (rowQ n u) (rowQ n v) (c : Int) = some (rowQ n fun j => u j - u c * v j) := by
  unfold m_cleared
  refine bnd (rowQ_ix hc) ?_
  rw [eq_0]
  by_cases e : u c = 0
  · rw [if_pos (decide_eq_true e)]
    refine congrArg some (rowQ_congr fun j _ => ?_)
    rw [e]; grind
  · rw [if_neg (by simp [e])]
    refine bnd (room_s (by rw [enumI_len, rowQ_len]; omega)) ?_
    have en : enumI 0 (rowQ n u) = (List.range (n + 1)).map fun (j : Nat) => ((j : Int), ofQ (u j)) := by
      refine List.ext_getElem? fun i => ?_
      rw [enumI_at]
      unfold rowQ
      rw [List.getElem?_map, List.getElem?_map]
      cases h : (List.range (n + 1))[i]? with
      | none => rfl
      | some q =>
        obtain ⟨h1, h2⟩ := List.getElem?_eq_some_iff.mp h
        rw [List.getElem_range] at h2
        subst h2
        simp
    rw [en]
    refine bnd (a := ((List.range (n + 1)).map fun j => ofQ (u j - u c * v j), ())) ?_ rfl
    have : ∀ l : List Nat, (∀ j ∈ l, j ≤ n) → compM (S := Unit) (β := (Int × Int)) (fun (s18 : Unit) (x25 : (Int × (Int × Int))) => (Option.bind (ixL (rowQ n v) x25.1) fun t46 => Option.bind (m_times (ofQ (u c)) t46) fun t48 => Option.bind (m_minus x25.2 t48) fun t50 => some (some t50, ()))) (()) (l.map fun (j : Nat) => ((j : Int), ofQ (u j))) = some (l.map fun j => ofQ (u j - u c * v j), ()) := by
      intro l
      induction l with
      | nil => intro _; rfl
      | cons j l ih =>
        intro hl
        have hj := hl j List.mem_cons_self
        have b1 := hu c hc
        have b2 := hv j hj
        have bt : Bd (2 * k) (u c * v j) := by
          have h1 := nmul_lt b1.1 b2.1
          refine ⟨?_, ?_⟩
          · rw [Rat.num_mul]
            exact Nat.lt_of_le_of_lt (Int.natAbs_ediv_le_natAbs _ _) (by rw [Nat.two_mul]; exact h1)
          · rw [Rat.den_mul]
            refine Nat.lt_of_le_of_lt (Nat.div_le_self _ _) ?_
            rw [Nat.two_mul, Nat.pow_add]
            exact Nat.mul_lt_mul'' b1.2 b2.2
        rw [List.map_cons]
        exact compM_cons (o := some (ofQ (u j - u c * v j))) (bnd (rowQ_ix hj) (bnd (times_q b1 b2 hk hk (by omega)) (bnd (minus_q (hu j hj) bt hk (by omega) (by omega)) rfl))) (ih fun i hi => hl i (List.mem_cons_of_mem _ hi))
    exact this _ fun j hj => by have := List.mem_range.mp hj; omega
/-- the table one column further -/
theorem column_ok {n c p k : Nat} {T : Mx} (hn : n ≤ 1000) (hc : c < n) (hp : c ≤ p) (hpn : p < n) (hk : 0 < k) (hk2 : 3 * k ≤ 4000) (hT : TB n k T) (h0 : T p c ≠ 0) (hT2 : TB n k (cl (sw T c p) c))
    (F : List (List (Int × Int)) → Int → Option (List (List (Int × Int)))) (hF : ∀ s x, F s x = Option.bind (if (!decide (x = (c : Int))) = true then Option.bind (ixL s x) fun t170 => Option.bind (ixL s (c : Int)) fun t172 => Option.bind (m_cleared t170 t172 (c : Int)) fun t174 => Option.bind (ixO s.length x) fun t176 => some ((s.set t176 t174)) else some s) fun (s167 : (List (List (Int × Int)))) => some s167) :
    foldO F ((tq n (sw T c p)).set c (rowQ n fun j => sw T c p c j / sw T c p c c)) (rng 0 (n : Int)) = some (tq n (cl (sw T c p) c)) := by
  generalize hU : sw T c p = U at *
  have hUb : TB n k U := by
    subst hU
    exact fun r j hr hj => hT _ j (sr_lt hc hpn hr) hj
  let S : Nat → Mx := fun i r => if r < i ∨ r = c then cl U c r else U r
  have hS0 : (tq n U).set c (rowQ n fun j => U c j / U c c) = tq n (S 0) := by
    rw [tq_set hc]
    refine tq_congr fun r j _ _ => ?_
    show (if r = c then fun j => U c j / U c c else U r) j = (if r < 0 ∨ r = c then cl U c r else U r) j
    by_cases e : r = c
    · rw [if_pos e, if_pos (.inr e)]; unfold cl; rw [if_pos e]
    · rw [if_neg e, if_neg (by omega)]
  have hSb : ∀ i r, r < n → ∀ j, j ≤ n → Bd k (S i r j) := fun i r hr j hj => by
    show Bd k ((if r < i ∨ r = c then cl U c r else U r) j)
    split
    · exact hT2 r j hr hj
    · exact hUb r j hr hj
  obtain ⟨s, h1, h2⟩ := y_foldI F (fun i s => s = tq n (S i)) (xs := rng 0 (n : Int)) (s := (tq n U).set c (rowQ n fun j => U c j / U c c)) hS0 (by
    rintro i x s hx rfl
    obtain ⟨e1, e2⟩ := rng_at hx
    have e1 : x = (i : Int) := by omega
    subst e1
    have hi : i < n := by omega
    rw [hF]
    by_cases e : i = c
    · refine ⟨_, bnd (a := tq n (S i)) (by rw [if_neg (by simp [e])]) rfl, tq_congr fun r j _ _ => ?_⟩
      show (if r < i ∨ r = c then cl U c r else U r) j = (if r < i + 1 ∨ r = c then cl U c r else U r) j
      by_cases g : r < i ∨ r = c
      · rw [if_pos g, if_pos (by omega)]
      · rw [if_neg g, if_neg (by omega)]
    · refine ⟨(tq n (S i)).set i (rowQ n fun j => S i i j - S i i c * S i c j), bnd (a := (tq n (S i)).set i (rowQ n fun j => S i i j - S i i c * S i c j)) ?_ rfl, ?_⟩
      · rw [if_pos (by simp; omega)]
        exact bnd (tq_ix hi) (bnd (tq_ix hc) (bnd (cleared_ok hn (by omega) hk hk2 (hSb i i hi) (hSb i c hc)) (bnd (ixO_s rfl (by rw [tq_len]; exact hi)) rfl)))
      · rw [tq_set hi]
        refine tq_congr fun r j _ _ => ?_
        show (if r = i then fun j => S i i j - S i i c * S i c j else S i r) j = (if r < i + 1 ∨ r = c then cl U c r else U r) j
        by_cases g : r = i
        · rw [if_pos g, if_pos (by omega)]
          have s1 : ∀ j, S i i j = U i j := fun j => by
            show (if i < i ∨ i = c then cl U c i else U i) j = _
            rw [if_neg (by omega)]
          have s2 : ∀ j, S i c j = U c j / U c c := fun j => by
            show (if c < i ∨ c = c then cl U c c else U c) j = _
            rw [if_pos (.inr rfl)]; unfold cl; rw [if_pos rfl]
          show S i i j - S i i c * S i c j = cl U c r j
          rw [s1, s1, s2]
          unfold cl
          rw [if_neg (by omega), g]
        · rw [if_neg g]
          show (if r < i ∨ r = c then cl U c r else U r) j = _
          by_cases g2 : r < i ∨ r = c
          · rw [if_pos g2, if_pos (by omega)]
          · rw [if_neg g2, if_neg (by omega)])
  rw [h1, h2]
  refine congrArg some (tq_congr fun r j hr _ => ?_)
  rw [rng_len]
  show (if r < ((n : Int) - 0).toNat ∨ r = c then cl U c r else U r) j = _
  rw [if_pos (by omega)]
def PermOn (n : Nat) (π : Nat → Nat) : Prop := (∀ r, r < n → π r < n) ∧ ∀ s, s < n → ∃ r, r < n ∧ π r = s
theorem solve_ok {n k M W : Nat} {rows : List (List Rat)} {right : List Rat} {s : Nat → Nat} (hn : n ≤ 1000) (hr : rows.length = n) (hr2 : ∀ row ∈ rows, row.length = n) (hb : right.length = n)
    (hs : ∀ r, r < n → 1 ≤ s r ∧ s r ≤ W) (hI : ∀ r j, r < n → j < n → IsI M ((s r : Rat) * (rows.getD r []).getD j 0)) (hI2 : ∀ r, r < n → IsI M ((s r : Rat) * right.getD r 0)) (hM : 1 ≤ M)
    (hk : 0 < k) (hk2 : 3 * k ≤ 4000) (k1 : (n + 1) * M * (n * M) ^ n < 2 ^ k) (k2 : W * (n * M) ^ n < 2 ^ k) :
    Yes (m_solve (rows.map fun row => row.map ofQ) (right.map ofQ)) fun o => match o with
      | none => ∃ x : Nat → Rat, (∃ j, j < n ∧ x j ≠ 0) ∧ ∀ r, r < n → sm n (fun j => (rows.getD r []).getD j 0 * x j) = 0
      | some q => ∃ x : Nat → Rat, q = (List.range n).map (fun r => ofQ (x r)) ∧ (∀ r, r < n → sm n (fun j => (rows.getD r []).getD j 0 * x j) = right.getD r 0) ∧ (∀ r, r < n → Bd k (x r)) ∧
          ∀ y : Nat → Rat, (∀ r, r < n → sm n (fun j => (rows.getD r []).getD j 0 * y j) = 0) → ∀ r, r < n → y r = 0 := by
  let A : Mx := fun r j => if j < n then (rows.getD r []).getD j 0 else right.getD r 0
  have hA : ∀ r j, r < n → j ≤ n → IsI M ((s r : Rat) * A r j) := fun r j hr hj => by
    show IsI M ((s r : Rat) * if j < n then (rows.getD r []).getD j 0 else right.getD r 0)
    split
    · exact hI r j hr (by assumption)
    · exact hI2 r hr
  have size : ∀ {c : Nat} {A' T : Mx} {π : Nat → Nat}, PermOn n π → (∀ r j, r < n → A' r j = A (π r) j) → GJ n c A' T → TB n k T := fun {c A' T π} hp ha hg r j hr hj =>
    fr_bd (gj_size hg (s := fun r => s (π r)) (M := M) (W := W) (fun r hr => hs _ (hp.1 r hr)) (fun r j hr hj => by rw [ha r j hr]; exact hA _ j (hp.1 r hr) hj) hM hr hj) k1 k2
  have idp : PermOn n id := ⟨fun r h => h, fun s h => ⟨s, h, rfl⟩⟩
  unfold m_solve
  refine y_eq (room_s (by rw [enumI_len, List.length_map]; omega)) (y_eq (a := (tq n A, ())) ?_ ?_)
  · have en : enumI 0 (rows.map fun row => row.map ofQ) = (List.range n).map fun (r : Nat) => ((r : Int), ((rows.getD r []).map ofQ)) := by
      refine List.ext_getElem? fun i => ?_
      rw [enumI_at, List.getElem?_map, List.getElem?_map]
      by_cases hi : i < n
      · rw [List.getElem?_range hi, List.getElem?_eq_getElem (by omega)]
        simp [List.getD_eq_getElem?_getD, List.getElem?_eq_getElem (show i < rows.length by omega)]
      · rw [List.getElem?_eq_none (by omega), List.getElem?_eq_none (by rw [List.length_range]; omega)]; rfl
    rw [en]
    have : ∀ l : List Nat, (∀ r ∈ l, r < n) → compM (S := Unit) (β := (List (Int × Int))) (fun (s10 : Unit) (x17 : (Int × (List (Int × Int)))) => (Option.bind (ixL (right.map ofQ) x17.1) fun t38 => Option.bind (catT x17.2 ([t38])) fun t40 => some (some t40, ()))) (()) (l.map fun (r : Nat) => ((r : Int), ((rows.getD r []).map ofQ))) = some (l.map fun r => rowQ n (A r), ()) := by
      intro l
      induction l with
      | nil => intro _; rfl
      | cons r l ih =>
        intro hl
        have hrn := hl r List.mem_cons_self
        have hrow : (rows.getD r []).length = n := by
          rw [List.getD_eq_getElem?_getD, List.getElem?_eq_getElem (by omega)]
          exact hr2 _ (List.getElem_mem _)
        rw [List.map_cons]
        refine compM_cons (o := some (rowQ n (A r))) ?_ (ih fun i hi => hl i (List.mem_cons_of_mem _ hi))
        · skip
          refine bnd (a := ofQ (right.getD r 0)) (ixL_s (n := r) ?_ rfl) (bnd (a := rowQ n (A r)) ?_ rfl)
          · rw [List.getElem?_map, List.getD_eq_getElem?_getD, List.getElem?_eq_getElem (by omega)]; rfl
          · unfold catT
            rw [if_pos (by rw [List.length_map, hrow]; simp; omega)]
            refine congrArg some (List.ext_getElem? fun j => ?_)
            unfold rowQ
            rw [List.getElem?_map]
            by_cases hj : j < n
            · rw [List.getElem?_append_left (by rw [List.length_map]; omega), List.getElem?_map, List.getElem?_range (by omega)]
              show _ = some (ofQ (if j < n then (rows.getD r []).getD j 0 else right.getD r 0))
              rw [if_pos hj, List.getD_eq_getElem?_getD (l := rows.getD r []), List.getElem?_eq_getElem (by omega)]; rfl
            · by_cases hj2 : j = n
              · rw [List.getElem?_append_right (by rw [List.length_map]; omega), List.length_map, hrow, hj2, Nat.sub_self, List.getElem?_range (by omega)]
                show _ = some (ofQ (if n < n then (rows.getD r []).getD n 0 else right.getD r 0))
                rw [if_neg (by omega)]; rfl
              · rw [List.getElem?_eq_none (by rw [List.length_append, List.length_map, hrow, List.length_singleton]; omega), List.getElem?_eq_none (by rw [List.length_range]; omega)]; rfl
    exact this _ fun r hr => List.mem_range.mp hr
  · rw [tq_len]
    refine y_eq (small62_s (by omega) (by omega)) ?_
    refine y_bind (Q := fun o => match o with
      | .inl q => ∃ T A' π, q = tq n T ∧ PermOn n π ∧ (∀ r j, r < n → A' r j = A (π r) j) ∧ GJ n n A' T
      | .inr q => q = none ∧ ∃ x : Nat → Rat, (∃ j, j < n ∧ x j ≠ 0) ∧ ∀ r, r < n → sm n (fun j => A r j * x j) = 0) (y_loopR _ (fun c q => ∃ T A' π, q = tq n T ∧ PermOn n π ∧ (∀ r j, r < n → A' r j = A (π r) j) ∧ GJ n c A' T) _ ⟨A, A, id, rfl, idp, fun _ _ _ => rfl, gj_start n A⟩ ?_ ?_) fun o ho => ?_
    · rintro i x q hx ⟨T, A', π, rfl, hp, ha, hg⟩
      obtain ⟨e1, e2⟩ := rng_at hx
      have e1 : x = (i : Int) := by omega
      subst e1
      have hi : i < n := by omega
      refine y_bind (pivot_ok hn hi) fun o ho => ?_
      cases o with
      | none =>
        refine y_p rfl (y_some ⟨rfl, ?_⟩)
        obtain ⟨x, hx, h1⟩ := gj_fail hg hi ho
        refine ⟨x, hx, fun r hr => ?_⟩
        obtain ⟨r', hr', rfl⟩ := hp.2 r hr
        exact Eq.trans (sm_congr fun j _ => by rw [ha r' j hr']) (h1 r' hr')
      | some q =>
        obtain ⟨p, rfl, h1, h2, h3⟩ := ho
        refine y_n rfl (y_eq rfl (y_eq (tq_ix h2) (y_eq (tq_ix hi) (y_eq (ixO_s rfl (by rw [tq_len]; exact hi)) (y_eq rfl (y_eq (ixO_s rfl (by rw [List.length_set, tq_len]; exact h2)) ?_))))))
        have esw : ((tq n T).set i (rowQ n (T p))).set p (rowQ n (T i)) = tq n (sw T i p) := by
          rw [tq_set hi, tq_set h2]
          refine tq_congr fun r j _ _ => ?_
          show (if r = p then T i else if r = i then T p else T r) j = T (sr i p r) j
          unfold sr
          by_cases g2 : r = p
          · by_cases g : r = i
            · rw [if_pos g2, if_pos g, ← g2, ← g]
            · rw [if_pos g2, if_neg g, if_pos g2]
          · by_cases g : r = i
            · rw [if_neg g2, if_pos g, if_pos g]
            · rw [if_neg g2, if_neg g, if_neg g, if_neg g2]
        show Yes (Option.bind (ixL (((tq n T).set i (rowQ n (T p))).set p (rowQ n (T i))) (i : Int)) _) _
        simp only [esw]
        have hp' : PermOn n fun r => π (sr i p r) := ⟨fun r hr => hp.1 _ (sr_lt hi h2 hr), fun s hs => by
          obtain ⟨r, hr, e⟩ := hp.2 s hs
          exact ⟨sr i p r, sr_lt hi h2 hr, by show π (sr i p (sr i p r)) = s; rw [sr_sr]; exact e⟩⟩
        have ha' : ∀ r j, r < n → sw A' i p r j = A (π (sr i p r)) j := fun r j hr => ha _ j (sr_lt hi h2 hr)
        have hg1 := gj_swap hg hi h1 h2
        have h3' : sw T i p i i ≠ 0 := by
          show T (sr i p i) i ≠ 0
          unfold sr
          rw [if_pos rfl]; exact h3
        have hg2 := gj_step hg1 hi h3'
        have b0 := size hp ha hg
        have b1 := size hp' ha' hg1
        have b2 := size hp' ha' hg2
        refine y_eq (tq_ix hi) (y_eq (rowQ_ix (by omega)) (y_eq (tq_ix hi) (y_eq (room_s (by rw [rowQ_len]; omega)) (y_eq (a := (rowQ n fun j => sw T i p i j / sw T i p i i, ())) ?_ ?_))))
        · unfold rowQ
          rw [show ((List.range (n + 1)).map fun j => ofQ (sw T i p i j / sw T i p i i)) = ((List.range (n + 1)).map fun j => sw T i p i j).map fun v => ofQ (v / sw T i p i i) by rw [List.map_map]; rfl]
          have : ∀ l : List Rat, (∀ v ∈ l, Bd k v) → compM (S := Unit) (β := (Int × Int)) (fun (s111 : Unit) (x118 : (Int × Int)) => (Option.bind (m_over x118 (ofQ (sw T i p i i))) fun t135 => some (some t135, ()))) (()) (l.map ofQ) = some (l.map fun v => ofQ (v / sw T i p i i), ()) := by
            intro l
            induction l with
            | nil => intro _; rfl
            | cons v l ih =>
              intro hl
              rw [List.map_cons]
              exact compM_cons (o := some (ofQ (v / sw T i p i i))) (bnd (over_q (hl v List.mem_cons_self) (b1 i i hi (by omega)) h3' hk hk (by omega)) rfl) (ih fun w hw => hl w (List.mem_cons_of_mem _ hw))
          rw [show ((List.range (n + 1)).map fun j => ofQ (sw T i p i j)) = ((List.range (n + 1)).map fun j => sw T i p i j).map ofQ by rw [List.map_map]; rfl]
          exact this _ fun v hv => by
            obtain ⟨j, hj, rfl⟩ := List.mem_map.mp hv
            exact b1 i j hi (by have := List.mem_range.mp hj; omega)
        · refine y_eq (ixO_s rfl (by rw [tq_len]; exact hi)) (y_eq (small62_s (by rw [List.length_set, tq_len]; omega) (by rw [List.length_set, tq_len]; omega)) ?_)
          rw [List.length_set, tq_len]
          exact y_eq (column_ok hn hi h1 h2 hk hk2 b0 h3 b2 _ fun _ _ => rfl) (y_some ⟨_, _, _, rfl, hp', ha', hg2⟩)
    · rintro q ⟨T, A', π, rfl, hp, ha, hg⟩
      rw [rng_len] at hg
      have e : ((n : Int) - 0).toNat = n := by omega
      rw [e] at hg
      exact ⟨T, A', π, rfl, hp, ha, hg⟩
    · match o, ho with
      | .inr q, ⟨hq, x, hx, h1⟩ =>
        subst hq
        refine y_some ⟨x, hx, fun r hr => ?_⟩
        refine Eq.trans (sm_congr fun j hj => ?_) (h1 r hr)
        show _ = (if j < n then _ else _) * _
        rw [if_pos hj]
      | .inl q, ⟨T, A', π, hq, hp, ha, hg⟩ =>
        subst hq
        refine y_eq (room_s (by rw [tq_len]; omega)) (y_eq (a := ((List.range n).map fun r => ofQ (T r n), ())) ?_ (y_some ⟨fun r => T r n, rfl, ?_, fun r hr => size hp ha hg r n hr (Nat.le_refl _), ?_⟩))
        · unfold tq
          have : ∀ l : List Nat, compM (S := Unit) (β := (Int × Int)) (fun (s204 : Unit) (x211 : (List (Int × Int))) => (Option.bind (ixL x211 ((-(1 : Int)))) fun t228 => some (some t228, ()))) (()) (l.map fun r => rowQ n (T r)) = some (l.map fun r => ofQ (T r n), ()) := by
            intro l
            induction l with
            | nil => rfl
            | cons r l ih =>
              rw [List.map_cons]
              refine compM_cons (o := some (ofQ (T r n))) ?_ ih
              · skip
                refine bnd (a := ofQ (T r n)) ?_ rfl
                unfold ixL atI ixN
                rw [rowQ_len, if_neg (by decide), if_pos (by omega)]
                show (rowQ n (T r))[((-1 : Int) + ((n + 1 : Nat) : Int)).toNat]? = some (ofQ (T r n))
                rw [show ((-1 : Int) + ((n + 1 : Nat) : Int)).toNat = n by omega]
                unfold rowQ
                rw [List.getElem?_map, List.getElem?_range (by omega)]
                rfl
          exact this _
        · intro r hr
          obtain ⟨r', hr', rfl⟩ := hp.2 r hr
          have := (gj_end hg).1 r' hr'
          rw [ha r' n hr'] at this
          have e : A (π r') n = right.getD (π r') 0 := by
            show (if n < n then _ else _) = _
            rw [if_neg (by omega)]
          rw [← e, ← this]
          refine sm_congr fun j hj => ?_
          rw [ha r' j hr']
          show _ = (if j < n then _ else _) * _
          rw [if_pos hj]
        · intro y hy
          refine (gj_end hg).2 y fun r hr => ?_
          refine Eq.trans (sm_congr fun j hj => ?_) (hy (π r) (hp.1 r hr))
          rw [ha r j hr]
          show (if j < n then _ else _) * _ = _
          rw [if_pos hj]
end L3

namespace L3
open PySem L2
theorem StOk.le {s : List Int × Int} {a b : Int} (h : StOk s a) (hab : a ≤ b) : StOk s b := ⟨h.1, h.2.1, Int.le_trans h.2.2 hab⟩
theorem ixL_lit {α : Type} {xs : List α} {i : Int} {P : α → Prop} (h0 : 0 ≤ i) (h1 : i < xs.length) (h : ∀ x ∈ xs, P x) : Yes (ixL xs i) P := by
  obtain ⟨n, hn⟩ := Int.eq_ofNat_of_zero_le h0
  have hl : n < xs.length := by omega
  exact ⟨xs[n], ixL_s (List.getElem?_eq_getElem hl) hn, h _ (List.getElem_mem hl)⟩
/-- comprehensions: they answer -/
theorem y_comp {S α β : Type} (f : S → α → Option (Option β × S)) (I : Nat → List β → S → Prop) {xs : List α} {s : S} (h0 : I 0 [] s) (hs : ∀ (i : Nat) x ys s, xs[i]? = some x → I i ys s → Yes (f s x) fun r => I (i + 1) (ys ++ r.1.toList) r.2) : Yes (compM f s xs) fun r => I xs.length r.1 r.2 := by
  have key : ∀ (xs : List α) (k : Nat) (pre : List β) (s : S), I k pre s → (∀ (i : Nat) x ys s, xs[i]? = some x → I (k + i) ys s → Yes (f s x) fun r => I (k + i + 1) (ys ++ r.1.toList) r.2) → Yes (compM f s xs) fun r => I (k + xs.length) (pre ++ r.1) r.2 := by
    intro xs
    induction xs with
    | nil => intro k pre s h _; exact ⟨([], s), rfl, by simpa using h⟩
    | cons x xs ih =>
      intro k pre s h hs
      obtain ⟨⟨o, s'⟩, h1, h2⟩ := hs 0 x pre s rfl h
      obtain ⟨⟨ys, s2⟩, h3, h4⟩ := ih (k + 1) (pre ++ o.toList) s' h2 fun i y zs s hy hI => by
        have := hs (i + 1) y zs s (by simpa using hy) (by rw [show k + (i + 1) = k + 1 + i by omega]; exact hI)
        rw [show k + (i + 1) + 1 = k + 1 + i + 1 by omega] at this
        exact this
      refine ⟨(o.toList ++ ys, s2), ?_, ?_⟩
      · unfold compM
        rw [h1]
        dsimp only
        rw [h3]
      · rw [show k + (x :: xs).length = k + 1 + xs.length by simp; omega]
        show I _ (pre ++ (o.toList ++ ys)) s2
        rw [← List.append_assoc]
        exact h4
  have := key xs 0 [] s h0 fun i x ys s hx hI => by
    rw [Nat.zero_add] at hI ⊢
    exact hs i x ys s hx hI
  simpa using this
end L3

namespace L3
open PySem L2
theorem l_plus_q {x y : Rat} {k l : Nat} (hx : Bd k x) (hy : Bd l y) (hk : 0 < k) (hl : 0 < l) (h : k + l ≤ 988) : m_l_plus (ofQ x) (ofQ y) = some (ofQ (x + y)) := by
  have px := den_pos x
  have py := den_pos y
  have pos := Int.mul_pos px py
  have b1 := nmul_lt hx.1 (den_lt hy)
  have b2 := nmul_lt hy.1 (den_lt hx)
  rw [Nat.add_comm] at b2
  unfold m_l_plus ofQ
  dsimp only
  rw [mulI_b hx.1 (den_lt hy) hk hl (by omega), mulI_b hy.1 (den_lt hx) hl hk (by omega), mulI_b (den_lt hx) (den_lt hy) hk hl (by omega)]
  show Option.bind (m_l_ratio _ _) _ = _
  rw [l_ratio_ok (by omega) (Nat.lt_of_lt_of_le (nadd_lt b1 b2) (Nat.pow_le_pow_right (by decide) (by omega))) (Nat.lt_of_lt_of_le (nmul_lt (den_lt hx) (den_lt hy)) (Nat.pow_le_pow_right (by decide) (by omega))), rat_ofQ (by omega), add_q]
  rfl
theorem l_times_q {x y : Rat} {k l : Nat} (hx : Bd k x) (hy : Bd l y) (hk : 0 < k) (hl : 0 < l) (h : k + l ≤ 990) : m_l_times (ofQ x) (ofQ y) = some (ofQ (x * y)) := by
  have px := den_pos x
  have py := den_pos y
  have pos := Int.mul_pos px py
  unfold m_l_times ofQ
  dsimp only
  rw [mulI_b hx.1 hy.1 hk hl (by omega), mulI_b (den_lt hx) (den_lt hy) hk hl (by omega)]
  show Option.bind (m_l_ratio _ _) _ = _
  rw [l_ratio_ok (by omega) (Nat.lt_of_lt_of_le (nmul_lt hx.1 hy.1) (Nat.pow_le_pow_right (by decide) (by omega))) (Nat.lt_of_lt_of_le (nmul_lt (den_lt hx) (den_lt hy)) (Nat.pow_le_pow_right (by decide) (by omega))), rat_ofQ (by omega), mul_q]
  rfl
theorem l_ratio_q {n d : Int} (h : 0 < d) (hn : n.natAbs < 2 ^ 990) (hb : d.natAbs < 2 ^ 990) : m_l_ratio n d = some (ofQ ((n : Rat) / (d : Rat))) := by
  rw [l_ratio_ok (by omega) hn hb, rat_ofQ (by omega), Rat.divInt_eq_div]
end L3

namespace L3
open PySem L2
/-! ### the law of linear equations -/
def vq (n : Nat) (u : Nat → Rat) : List (Int × Int) := (List.range n).map fun j => ofQ (u j)
def mq (n m : Nat) (A : Mx) : List (List (Int × Int)) := (List.range n).map fun r => vq m (A r)
theorem vq_len {n : Nat} {u : Nat → Rat} : (vq n u).length = n := by unfold vq; rw [List.length_map, List.length_range]
theorem mq_len {n m : Nat} {A : Mx} : (mq n m A).length = n := by unfold mq; rw [List.length_map, List.length_range]
theorem vq_ix {n j : Nat} {u : Nat → Rat} (h : j < n) : ixL (vq n u) (j : Int) = some (ofQ (u j)) := by
  refine ixL_s (n := j) ?_ rfl
  unfold vq
  rw [List.getElem?_map, List.getElem?_range h]; rfl
theorem mq_ix {n m r : Nat} {A : Mx} (h : r < n) : ixL (mq n m A) (r : Int) = some (vq m (A r)) := by
  refine ixL_s (n := r) ?_ rfl
  unfold mq
  rw [List.getElem?_map, List.getElem?_range h]; rfl
theorem vq_of {n : Nat} {xs : List Rat} (h : xs.length = n) : xs.map ofQ = vq n fun j => xs.getD j 0 := by
  refine List.ext_getElem? fun i => ?_
  unfold vq
  rw [List.getElem?_map, List.getElem?_map]
  by_cases hi : i < n
  · rw [List.getElem?_range hi, List.getElem?_eq_getElem (by omega)]
    simp [List.getD_eq_getElem?_getD, List.getElem?_eq_getElem (show i < xs.length by omega)]
  · rw [List.getElem?_eq_none (by omega), List.getElem?_eq_none (by rw [List.length_range]; omega)]; rfl
theorem mq_of {n m : Nat} {R : List (List Rat)} (h : R.length = n) (h2 : ∀ row ∈ R, row.length = m) : R.map (fun row => row.map ofQ) = mq n m fun r c => (R.getD r []).getD c 0 := by
  refine List.ext_getElem? fun i => ?_
  unfold mq
  rw [List.getElem?_map, List.getElem?_map]
  by_cases hi : i < n
  · rw [List.getElem?_range hi, List.getElem?_eq_getElem (by omega)]
    show some ((R[i]'(by omega)).map ofQ) = some (vq m fun c => (R.getD i []).getD c 0)
    rw [List.getD_eq_getElem?_getD, List.getElem?_eq_getElem (show i < R.length by omega), vq_of (h2 _ (List.getElem_mem _))]
    rfl
  · rw [List.getElem?_eq_none (by omega), List.getElem?_eq_none (by rw [List.length_range]; omega)]; rfl
theorem cut_lo' {α : Type} {xs : List α} {m : Nat} (h : m ≤ xs.length) : cutL xs none (some (m : Int)) = xs.take m := by
  unfold cutL
  rw [HT.sIx_none, HT.sIx_nat, Nat.min_eq_left h]
  simp
theorem cut_hi' {α : Type} {xs : List α} {m : Nat} (h : m ≤ xs.length) : cutL xs (some (m : Int)) none = xs.drop m := by
  unfold cutL
  rw [HT.sIx_none, HT.sIx_nat, Nat.min_eq_left h]
  refine List.take_of_length_le ?_
  rw [List.length_drop]; omega
theorem vq_cut {n k : Nat} {u : Nat → Rat} (hk : k ≤ n) : (vq (n + 1) u).take k ++ (vq (n + 1) u).drop (k + 1) = vq n fun c => u (sk k c) := by
  have hl : (vq (n + 1) u).length = n + 1 := vq_len
  refine List.ext_getElem? fun i => ?_
  by_cases hi : i < k
  · rw [List.getElem?_append_left (by rw [List.length_take]; omega), List.getElem?_take, if_pos hi]
    unfold vq
    rw [List.getElem?_map, List.getElem?_map, List.getElem?_range (by omega), List.getElem?_range (by omega)]
    show some _ = some (ofQ (u (sk k i)))
    unfold sk; rw [if_pos hi]
  · rw [List.getElem?_append_right (by rw [List.length_take]; omega), List.length_take, List.getElem?_drop]
    have e : k + 1 + (i - min k (vq (n + 1) u).length) = i + 1 := by rw [hl]; omega
    rw [e]
    unfold vq
    rw [List.getElem?_map, List.getElem?_map]
    by_cases h2 : i < n
    · rw [List.getElem?_range (by omega), List.getElem?_range h2]
      show some _ = some (ofQ (u (sk k i)))
      unfold sk; rw [if_neg hi]
    · rw [List.getElem?_eq_none (by rw [List.length_range]; omega), List.getElem?_eq_none (by rw [List.length_range]; omega)]; rfl
theorem mq_drop {n m : Nat} {A : Mx} : (mq (n + 1) m A).drop 1 = mq n m fun r => A (r + 1) := by
  refine List.ext_getElem? fun i => ?_
  unfold mq
  rw [List.getElem?_drop, List.getElem?_map, List.getElem?_map]
  by_cases h : i < n
  · rw [List.getElem?_range (by omega), List.getElem?_range h, Nat.add_comm 1 i]; rfl
  · rw [List.getElem?_eq_none (by rw [List.length_range]; omega), List.getElem?_eq_none (by rw [List.length_range]; omega)]; rfl
/-- scaled by S it is whole -/
def Sc (S A : Nat) (x : Rat) : Prop := IsI A ((S : Rat) * x)
theorem sc_bd {S A k : Nat} {x : Rat} (h : Sc S A x) (hS : 0 < S) (h1 : A < 2 ^ k) (h2 : S < 2 ^ k) : Bd k x := by
  obtain ⟨z, e, hz⟩ := h
  have S0 : (S : Rat) ≠ 0 := fun z => by
    have : S = 0 := by exact_mod_cast z
    omega
  refine fr_bd (P := A) (S := S) ⟨z, (S : Int), by omega, ?_, hz, by omega⟩ h1 h2
  rw [← e, Rat.intCast_natCast]
  grind
theorem sc_add {S A B : Nat} {x y : Rat} (h : Sc S A x) (g : Sc S B y) : Sc S (A + B) (x + y) := by
  have := isI_add h g
  unfold Sc
  rw [show (S : Rat) * (x + y) = S * x + S * y by grind]; exact this
theorem sc_mul {S T A B : Nat} {x y : Rat} (h : Sc S A x) (g : Sc T B y) : Sc (S * T) (A * B) (x * y) := by
  have := isI_mul h g
  unfold Sc
  push_cast
  rw [show (S : Rat) * T * (x * y) = S * x * (T * y) by grind]; exact this
theorem sc_up {S A B : Nat} {x : Rat} (h : Sc S A x) (l : A ≤ B) : Sc S B x := isI_up h l
theorem neg_q (x : Rat) : ofQ (-x) = (-x.num, (x.den : Int)) := by
  unfold ofQ; rw [Rat.neg_num, Rat.neg_den]
theorem det_sc {S A : Nat} : ∀ {n : Nat} {M : Mx}, (∀ r c, r < n → c < n → Sc S A (M r c)) → Sc (S ^ n) ((n * A) ^ n) (det n M)
  | 0, M, _ => ⟨1, by unfold det; simp, by simp⟩
  | n + 1, M, h => by
    have hp : ∀ m, m ≤ n + 1 → Sc (S ^ (n + 1)) (m * (A * (n * A) ^ n)) (sm m fun j => sg j * M 0 j * det n (mn M j)) := by
      intro m
      induction m with
      | zero => intro _; exact ⟨0, by unfold sm; simp, by simp⟩
      | succ m ih =>
        intro hm
        unfold sm
        rw [Nat.succ_mul]
        refine sc_add (ih (by omega)) ?_
        have h1 : Sc 1 1 (sg m) := by
          unfold Sc
          rw [show ((1 : Nat) : Rat) * sg m = sg m by simp]
          exact isI_sg m
        have h2 := sc_mul (sc_mul h1 (h 0 m (by omega) (by omega))) (det_sc (n := n) (M := mn M m) fun r c hr hc => h (r + 1) (sk m c) (by omega) (sk_lt hc))
        rw [Nat.one_mul, Nat.one_mul, Nat.mul_comm S, ← Nat.pow_succ] at h2
        exact h2
    refine sc_up (hp (n + 1) (Nat.le_refl _)) ?_
    rw [← Nat.mul_assoc, Nat.pow_succ, Nat.mul_comm]
    exact Nat.mul_le_mul (Nat.pow_le_pow_left (Nat.mul_le_mul_right _ (by omega)) n) (Nat.le_refl _)
theorem det_part {S A n m : Nat} {M : Mx} (h : ∀ r c, r < n + 1 → c < n + 1 → Sc S A (M r c)) (hm : m ≤ n + 1) : Sc (S ^ (n + 1)) (((n + 1) * A) ^ (n + 1)) (sm m fun j => sg j * M 0 j * det n (mn M j)) := by
  have hp : ∀ m, m ≤ n + 1 → Sc (S ^ (n + 1)) (m * (A * (n * A) ^ n)) (sm m fun j => sg j * M 0 j * det n (mn M j)) := by
    intro m
    induction m with
    | zero => intro _; exact ⟨0, by unfold sm; simp, by simp⟩
    | succ m ih =>
      intro hm
      unfold sm
      rw [Nat.succ_mul]
      refine sc_add (ih (by omega)) ?_
      have h1 : Sc 1 1 (sg m) := by
        unfold Sc
        rw [show ((1 : Nat) : Rat) * sg m = sg m by simp]
        exact isI_sg m
      have h2 := sc_mul (sc_mul h1 (h 0 m (by omega) (by omega))) (det_sc (n := n) (M := mn M m) fun r c hr hc => h (r + 1) (sk m c) (by omega) (sk_lt hc))
      rw [Nat.one_mul, Nat.one_mul, Nat.mul_comm S, ← Nat.pow_succ] at h2
      exact h2
  refine sc_up (hp m hm) ?_
  refine Nat.le_trans (Nat.mul_le_mul_right _ hm) ?_
  rw [← Nat.mul_assoc, Nat.pow_succ, Nat.mul_comm]
  exact Nat.mul_le_mul (Nat.pow_le_pow_left (Nat.mul_le_mul_right _ (by omega)) n) (Nat.le_refl _)
def S9 : Nat := 9000
def A5 : Nat := 54000
theorem bits4 {n : Nat} (hn : n ≤ 4) : (n * A5) ^ n < 2 ^ 80 ∧ S9 ^ n < 2 ^ 80 ∧ 0 < S9 ^ n := by
  have : n = 0 ∨ n = 1 ∨ n = 2 ∨ n = 3 ∨ n = 4 := by omega
  rcases this with rfl | rfl | rfl | rfl | rfl <;> exact ⟨by decide, by decide, by decide⟩
theorem bit_and {j : Nat} (h : j ≤ 4) : Builtin.bitAnd (j : Int) 1 = ((j % 2 : Nat) : Int) := by
  have : j = 0 ∨ j = 1 ∨ j = 2 ∨ j = 3 ∨ j = 4 := by omega
  rcases this with rfl | rfl | rfl | rfl | rfl <;> decide
theorem det_ok : ∀ (n d : Nat) (M : Mx), n < d → n ≤ 4 → (∀ r c, r < n → c < n → Sc S9 A5 (M r c)) → m_l_determinant d (mq n n M) = some (ofQ (det n M))
  | 0, d + 1, M, _, _, _ => by
    show F_m_l_determinant _ _ = _
    unfold F_m_l_determinant
    rw [mq_len, if_pos (by decide)]
    show some _ = some (ofQ 1)
    rw [ofQ_1]
  | n + 1, d + 1, M, hd, hn, h => by
    show F_m_l_determinant _ _ = _
    unfold F_m_l_determinant
    rw [mq_len, if_neg (by simp; omega)]
    refine bnd (small62_s (by omega) (by omega)) ?_
    have hS : ∀ m, m ≤ n + 1 → Sc (S9 ^ (n + 1)) (((n + 1) * A5) ^ (n + 1)) (sm m fun j => sg j * M 0 j * det n (mn M j)) := fun m hm => det_part h hm
    obtain ⟨b1, b2, b3⟩ := bits4 hn
    obtain ⟨c1, c2, c3⟩ := bits4 (n := n) (by omega)
    have key := y_foldI (S := Int × Int) (α := Int) (I := fun i s => i ≤ n + 1 → s = ofQ (sm i fun j => sg j * M 0 j * det n (mn M j))) (xs := rng 0 ((n + 1 : Nat) : Int)) (s := ((0 : Int), (1 : Int))) (f := (fun (s18 : (Int × Int)) (x19 : Int) => (
      Option.bind (ixL (mq (n + 1) (n + 1) M) ((0 : Int))) fun t41 =>
      Option.bind (ixL t41 x19) fun t43 =>
      Option.bind (room ((cutL (mq (n + 1) (n + 1) M) (some ((1 : Int))) none)).length) fun t71 =>
      Option.bind (compM (S := Unit) (β := (List (Int × Int))) (fun (s45 : Unit) (x52 : (List (Int × Int))) => (Option.bind (catT ((cutL x52 none (some x19))) ((cutL x52 (some ((x19 + (1 : Int)))) none))) fun t69 => some (some t69, ()))) (()) ((cutL (mq (n + 1) (n + 1) M) (some ((1 : Int))) none))) fun t73 =>
      Option.bind (m_l_determinant d t73.1) fun t75 =>
      Option.bind (m_l_times t43 t75) fun t77 =>
      Option.bind (mulI ((2 : Int)) ((Builtin.bitAnd x19 ((1 : Int))))) fun t82 =>
      Option.bind (mulI t77.1 (((1 : Int) - t82))) fun t84 =>
      Option.bind (m_l_plus s18 ((t84, t77.2))) fun t86 =>
      some t86))) (fun _ => by show ((0 : Int), (1 : Int)) = ofQ 0; rw [ofQ_0]) ?_
    · obtain ⟨s, h1, h2⟩ := key
      have h2 := h2 (by rw [rng_len]; omega)
      refine bnd h1 ?_
      rw [h2, rng_len, show (((n + 1 : Nat) : Int) - 0).toNat = n + 1 by omega]
      rfl
    · rintro i x s hx hs
      obtain ⟨e1, e2⟩ := rng_at hx
      have e1 : x = (i : Int) := by omega
      subst e1
      have hi : i < n + 1 := by omega
      have hs := hs (by omega)
      subst hs
      have hcut : cutL (mq (n + 1) (n + 1) M) (some 1) none = mq n (n + 1) fun r => M (r + 1) := by
        rw [show (1 : Int) = ((1 : Nat) : Int) by rfl, cut_hi' (by rw [mq_len]; omega), mq_drop]
      rw [hcut]
      refine y_eq (mq_ix (r := 0) (by omega)) (y_eq (vq_ix hi) (y_eq (room_s (by rw [mq_len]; omega)) (y_eq (a := (mq n n (mn M i), ())) ?_ ?_)))
      · unfold mq
        rw [show ((List.range n).map fun r => vq (n + 1) (M (r + 1))) = (((List.range n).map fun r => M (r + 1)).map fun u => vq (n + 1) u) by rw [List.map_map]; rfl, show ((List.range n).map fun r => vq n (mn M i r)) = (((List.range n).map fun r => M (r + 1)).map fun u => vq n fun c => u (sk i c)) by rw [List.map_map]; rfl]
        have : ∀ l : List (Nat → Rat), compM (S := Unit) (β := (List (Int × Int))) (fun (s45 : Unit) (x52 : (List (Int × Int))) => (Option.bind (catT ((cutL x52 none (some (i : Int)))) ((cutL x52 (some (((i : Int) + (1 : Int)))) none))) fun t69 => some (some t69, ()))) (()) (l.map fun u => vq (n + 1) u) = some (l.map fun u => vq n fun c => u (sk i c), ()) := by
          intro l
          induction l with
          | nil => rfl
          | cons u l ih =>
            refine compM_cons (o := some (vq n fun c => u (sk i c))) (bnd (a := vq n fun c => u (sk i c)) ?_ rfl) ih
            rw [show (i : Int) + 1 = ((i + 1 : Nat) : Int) by omega, cut_lo' (by rw [vq_len]; omega), cut_hi' (by rw [vq_len]; omega)]
            unfold catT
            rw [if_pos (by rw [List.length_take, List.length_drop, vq_len]; omega), vq_cut (by omega)]
        exact this _
      · have hm : ∀ r c, r < n → c < n → Sc S9 A5 (mn M i r c) := fun r c hr hc => h (r + 1) (sk i c) (by omega) (sk_lt hc)
        have dsc := det_sc hm
        have bdet : Bd 80 (det n (mn M i)) := sc_bd dsc c3 c1 c2
        have bent : Bd 16 (M 0 i) := sc_bd (h 0 i (by omega) hi) (by decide) (by decide) (by decide)
        refine y_eq (det_ok n d _ (by omega) (by omega) hm) (y_eq (l_times_q bent bdet (by decide) (by decide) (by decide)) ?_)
        rw [bit_and (show i ≤ 4 by omega)]
        refine y_eq (mulI_l (by decide) (by decide)) ?_
        have hpsum := sc_bd (hS i (by omega)) b3 b1 b2
        have hterm : Bd 100 (sg i * M 0 i * det n (mn M i)) := by
          have h1 : Sc 1 1 (sg i) := by
            unfold Sc
            rw [show ((1 : Nat) : Rat) * sg i = sg i by simp]
            exact isI_sg i
          have h2 := sc_mul (sc_mul h1 (h 0 i (by omega) hi)) dsc
          refine sc_bd h2 (Nat.mul_pos (by decide) c3) ?_ ?_
          · exact Nat.lt_of_lt_of_le (Nat.mul_lt_mul'' (show 1 * A5 < 2 ^ 20 by decide) c1) (by rw [← Nat.pow_add]; exact Nat.le_refl _)
          · exact Nat.lt_of_lt_of_le (Nat.mul_lt_mul'' (show 1 * S9 < 2 ^ 20 by decide) c2) (by rw [← Nat.pow_add]; exact Nat.le_refl _)
        have hval : ((M 0 i * det n (mn M i)).num * (1 - 2 * ((i % 2 : Nat) : Int)), ((M 0 i * det n (mn M i)).den : Int)) = ofQ (sg i * M 0 i * det n (mn M i)) := by
          unfold sg
          rcases Nat.mod_two_eq_zero_or_one i with e | e
          · rw [if_pos e, e, show (1 : Rat) * M 0 i * det n (mn M i) = M 0 i * det n (mn M i) by grind]
            simp [ofQ]
          · rw [if_neg (by omega), e, show (-1 : Rat) * M 0 i * det n (mn M i) = -(M 0 i * det n (mn M i)) by grind, neg_q]
            simp
        refine y_eq (mulI_r ?_ ?_) ?_
        · have := Nat.mod_lt i (show 0 < 2 by decide); omega
        · have := Nat.mod_lt i (show 0 < 2 by decide); omega
        · show Yes (Option.bind (m_l_plus (ofQ _) ((M 0 i * det n (mn M i)).num * (1 - 2 * ((i % 2 : Nat) : Int)), ((M 0 i * det n (mn M i)).den : Int))) _) _
          rw [hval]
          exact y_eq (l_plus_q hpsum hterm (by decide) (by decide) (by decide)) (y_some fun _ => rfl)
end L3

namespace L3
open PySem L2
def Val (x : Rat) : Prop := Sc 3000 9000 x
theorem val9 {x : Rat} (h : Val x) : Sc S9 27000 x := by
  have h1 : Sc 3 3 (1 : Rat) := ⟨3, by rw [Rat.mul_one]; rfl, by decide⟩
  have := sc_mul h1 h
  rwa [Rat.one_mul] at this
theorem value_ok {st : List Int × Int} {n : Int} (hs : StOk st n) (hn : n < 2 ^ 50) : Yes (m_l_value st) fun r => (∃ x, r.1 = ofQ x ∧ Val x) ∧ StOk r.2 (n + 2) := by
  unfold m_l_value
  refine y_bind (take_ok hs (by omega) (by decide)) fun t10 h10 => y_bind (take_ok h10.2 (by omega) (by decide)) fun t15 h15 => ?_
  have hd : ∀ d ∈ [(1 : Int), 1, 2, 3, 12, 1000], d ∣ 3000 ∧ 0 < d ∧ d ≤ 1000 := by decide
  obtain ⟨d, e, hd⟩ : Yes (ixL [(1 : Int), 1, 2, 3, 12, 1000] t15.1) (fun d => d ∣ 3000 ∧ 0 < d ∧ d ≤ 1000) := by
    obtain ⟨k, hk⟩ := Int.eq_ofNat_of_zero_le h15.1.1
    have hl : k < [(1 : Int), 1, 2, 3, 12, 1000].length := by
      have := h15.1.2
      show k < 6
      omega
    exact ⟨_, ixL_s (List.getElem?_eq_getElem hl) hk, hd _ (List.getElem_mem hl)⟩
  refine y_eq e ?_
  obtain ⟨⟨q, hq⟩, d0, d1⟩ := hd
  have r10 := h10.1
  refine y_eq (l_ratio_q d0 (Nat.lt_of_lt_of_le (show (t10.1 - 3).natAbs < 2 ^ 10 by omega) (Nat.pow_le_pow_right (by decide) (by decide))) (Nat.lt_of_lt_of_le (show d.natAbs < 2 ^ 10 by omega) (Nat.pow_le_pow_right (by decide) (by decide)))) (y_some ⟨⟨_, rfl, ?_⟩, h15.2.le (by omega)⟩)
  have hq0 : 0 < q := Int.not_le.mp fun h => by
    have := Int.mul_le_mul_of_nonneg_left h (show 0 ≤ d by omega)
    rw [Int.mul_zero] at this
    omega
  have hq1 : q ≤ 3000 := by
    have := Int.mul_le_mul_of_nonneg_right (show 1 ≤ d by omega) (show 0 ≤ q by omega)
    omega
  refine ⟨q * (t10.1 - 3), ?_, ?_⟩
  · have dz : (d : Rat) ≠ 0 := fun z => by
      have : d = 0 := by exact_mod_cast z
      omega
    have h9 : ((3000 : Nat) : Rat) = (d : Rat) * (q : Rat) := by
      have : ((3000 : Int) : Rat) = ((d * q : Int) : Rat) := by rw [← hq]
      push_cast at this
      rw [← this]; rfl
    rw [h9]
    push_cast
    grind
  · rw [Int.natAbs_mul]
    have a1 : (t10.1 - 3).natAbs ≤ 3 := by omega
    have a2 : q.natAbs ≤ 3000 := by omega
    exact Nat.le_trans (Nat.mul_le_mul a2 a1) (by decide)
/-- a list of fractions of a kind -/
def LQ (n : Nat) (P : Rat → Prop) (l : List (Int × Int)) : Prop := ∃ xs : List Rat, l = xs.map ofQ ∧ xs.length = n ∧ ∀ x ∈ xs, P x
def MQ' (n m : Nat) (P : Rat → Prop) (l : List (List (Int × Int))) : Prop := ∃ R : List (List Rat), l = R.map (fun row => row.map ofQ) ∧ R.length = n ∧ ∀ row ∈ R, row.length = m ∧ ∀ x ∈ row, P x
theorem values_ok {st : List Int × Int} {n k : Int} (hs : StOk st n) (hn : n < 2 ^ 49) (hk : 0 ≤ k) (hk2 : k ≤ 100) : Yes (compM (S := ((List Int) × Int)) (β := (Int × Int)) (fun (s75 : ((List Int) × Int)) (x82 : Int) => (Option.bind (m_l_value s75) fun t99 => some (some t99.1, t99.2))) st ((rng 0 k))) fun r => LQ k.toNat (Val) r.1 ∧ StOk r.2 (n + 2 * k) := by
  refine (y_comp _ (fun i ys s => LQ i (Val) ys ∧ StOk s (n + 2 * i)) ⟨⟨[], rfl, rfl, by simp⟩, by simpa using hs⟩ ?_).mono fun r hr => ?_
  · rintro i x ys s hx ⟨⟨xs, rfl, h2, h3⟩, h4⟩
    obtain ⟨e1, e2⟩ := rng_at hx
    refine y_bind (value_ok h4 (by omega)) fun t ht => y_some ?_
    obtain ⟨⟨y, hy1, hy2⟩, hst⟩ := ht
    refine ⟨⟨xs ++ [y], ?_, by simp [h2], fun z hz => ?_⟩, hst.le (by omega)⟩
    · show xs.map ofQ ++ [t.1] = _
      rw [hy1]; simp
    · rcases List.mem_append.mp hz with hz | hz
      · exact h3 z hz
      · rw [List.mem_singleton.mp hz]; exact hy2
  · rw [rng_len] at hr
    have e : (((k - 0).toNat : Nat) : Int) = k := by omega
    obtain ⟨h1, h2⟩ := hr
    rw [e] at h2
    exact ⟨by rw [show k.toNat = (k - 0).toNat by omega]; exact h1, h2⟩
theorem LQ.ix {n : Nat} {P : Rat → Prop} {l : List (Int × Int)} {j : Int} (h : LQ n P l) (h0 : 0 ≤ j) (h1 : j < (n : Int)) : ∃ x, ixL l j = some (ofQ x) ∧ P x := by
  obtain ⟨xs, rfl, h2, h3⟩ := h
  obtain ⟨k, rfl⟩ := Int.eq_ofNat_of_zero_le h0
  have hk : k < xs.length := by omega
  refine ⟨xs[k], ixL_s (n := k) ?_ rfl, h3 _ (List.getElem_mem hk)⟩
  rw [List.getElem?_map, List.getElem?_eq_getElem hk]; rfl
theorem MQ'.ix {n m : Nat} {P : Rat → Prop} {l : List (List (Int × Int))} {j : Int} (h : MQ' n m P l) (h0 : 0 ≤ j) (h1 : j < (n : Int)) : ∃ row, ixL l j = some row ∧ LQ m P row := by
  obtain ⟨R, rfl, h2, h3⟩ := h
  obtain ⟨k, rfl⟩ := Int.eq_ofNat_of_zero_le h0
  have hk : k < R.length := by omega
  obtain ⟨a, b⟩ := h3 _ (List.getElem_mem hk)
  refine ⟨R[k].map ofQ, ixL_s (n := k) ?_ rfl, R[k], rfl, a, b⟩
  rw [List.getElem?_map, List.getElem?_eq_getElem hk]; rfl
theorem LQ.mono {n : Nat} {P Q : Rat → Prop} {l : List (Int × Int)} (h : LQ n P l) (g : ∀ x, P x → Q x) : LQ n Q l := by
  obtain ⟨xs, a, b, c⟩ := h
  exact ⟨xs, a, b, fun x hx => g x (c x hx)⟩
theorem MQ'.mono {n m : Nat} {P Q : Rat → Prop} {l : List (List (Int × Int))} (h : MQ' n m P l) (g : ∀ x, P x → Q x) : MQ' n m Q l := by
  obtain ⟨xs, a, b, c⟩ := h
  exact ⟨xs, a, b, fun x hx => ⟨(c x hx).1, fun y hy => g y ((c x hx).2 y hy)⟩⟩
theorem rows_ok {st : List Int × Int} {n k : Int} (hs : StOk st n) (hn : n < 2 ^ 48) (hk : 0 ≤ k) (hk2 : k ≤ 4) : Yes (compM (S := ((List Int) × Int)) (β := (List (Int × Int))) (fun (s49 : ((List Int) × Int)) (x56 : Int) => (Option.bind (small62 k) fun t73 => Option.bind (room ((rng 0 k)).length) fun t101 => Option.bind (compM (S := ((List Int) × Int)) (β := (Int × Int)) (fun (s75 : ((List Int) × Int)) (x82 : Int) => (Option.bind (m_l_value s75) fun t99 => some (some t99.1, t99.2))) s49 ((rng 0 k))) fun t103 => some (some t103.1, t103.2))) st ((rng 0 k))) fun r => MQ' k.toNat k.toNat (Val) r.1 ∧ StOk r.2 (n + 100) := by
  refine (y_comp _ (fun i ys s => MQ' i k.toNat (Val) ys ∧ StOk s (n + 20 * i)) ⟨⟨[], rfl, rfl, by simp⟩, by simpa using hs⟩ ?_).mono fun r hr => ?_
  · rintro i x ys s hx ⟨⟨R, rfl, h2, h3⟩, h4⟩
    obtain ⟨e1, e2⟩ := rng_at hx
    refine y_eq (small62_s (by omega) (by omega)) (y_eq (room_s (by rw [rng_len]; omega)) (y_bind (values_ok h4 (by omega) hk (by omega)) fun t ht => y_some ?_))
    obtain ⟨⟨y, hy1, hy2, hy3⟩, hst⟩ := ht
    refine ⟨⟨R ++ [y], ?_, by simp [h2], fun z hz => ?_⟩, hst.le (by omega)⟩
    · show R.map _ ++ [t.1] = _
      rw [hy1]; simp
    · rcases List.mem_append.mp hz with hz | hz
      · exact h3 z hz
      · rw [List.mem_singleton.mp hz]; exact ⟨hy2, hy3⟩
  · rw [rng_len] at hr
    obtain ⟨h1, h2⟩ := hr
    exact ⟨by rw [show (k - 0).toNat = k.toNat by omega] at h1; exact h1, h2.le (by omega)⟩
theorem cat_s10 {α : Type} {xs ys : List α} (h : xs.length + ys.length ≤ 1000000) : catT xs ys = some (xs ++ ys) := if_pos h
theorem bd27 {x : Rat} (h : Val x) : Bd 16 x := sc_bd (val9 h) (by decide) (by decide) (by decide)
theorem bd54 {x : Rat} (h : Sc S9 A5 x) : Bd 16 x := sc_bd h (by decide) (by decide) (by decide)
theorem spoilt_ok {st : List Int × Int} {n : Int} {l : List (List (Int × Int))} {k : Nat} (hs : StOk st n) (hn : n < 2 ^ 48) (hk : 1 ≤ k) (hk2 : k ≤ 4) (h : MQ' k k (Val) l) : Yes (m_l_spoilt st l) fun r => MQ' k k (Sc S9 A5) r.1 ∧ StOk r.2 (n + 10) := by
  have hl : l.length = k := by obtain ⟨R, rfl, h2, _⟩ := h; rw [List.length_map]; exact h2
  have h5 : MQ' k k (Sc S9 A5) l := h.mono fun x hx => sc_up (val9 hx) (by decide)
  unfold m_l_spoilt
  rw [hl]
  refine y_bind (take_ok hs (by omega) (by decide)) fun t13 h13 => y_bind (take_ok h13.2 (by omega) (by omega)) fun t18 h18 => y_bind (take_ok h18.2 (by omega) (by omega)) fun t23 h23 => ?_
  obtain ⟨r1, e1, g1⟩ := h.ix h23.1.1 h23.1.2
  refine y_eq e1 (y_bind (take_ok h23.2 (by omega) (by omega)) fun t30 h30 => ?_)
  obtain ⟨r2, e2, g2⟩ := h.ix h30.1.1 h30.1.2
  have hst := h30.2
  have r13 := h13.1
  have r18 := h18.1
  obtain ⟨m, hm⟩ := Int.eq_ofNat_of_zero_le r18.1
  obtain ⟨xs1, rfl, l1, p1⟩ := id g1
  refine y_eq e2 (y_eq (repL_s (by omega)) (y_eq (room_s (by rw [List.length_map]; omega)) (y_eq (a := (xs1.map fun x => ofQ (2 / 3 * x), ())) ?_ ?_)))
  · have hq : (((2 : Int), (3 : Int)) : Int × Int) = ofQ (2 / 3) := by decide +kernel
    have : ∀ xs : List Rat, (∀ x ∈ xs, Val x) → compM (S := Unit) (β := (Int × Int)) (fun (s40 : Unit) (x47 : (Int × Int)) => (Option.bind (m_l_times (((2 : Int), (3 : Int))) x47) fun t64 => some (some t64, ()))) (()) (xs.map ofQ) = some (xs.map fun x => ofQ (2 / 3 * x), ()) := by
      intro xs
      induction xs with
      | nil => intro _; rfl
      | cons x xs ih =>
        intro hx
        refine compM_cons (o := some (ofQ (2 / 3 * x))) (bnd ?_ rfl) (ih fun y hy => hx y (List.mem_cons_of_mem _ hy))
        rw [hq]
        exact l_times_q (k := 2) (l := 16) ⟨by decide +kernel, by decide +kernel⟩ (bd27 (hx x List.mem_cons_self)) (by decide) (by decide) (by decide)
    exact this xs1 p1
  refine y_eq (small62_s (by omega) (by omega)) (y_eq (room_s (by rw [rng_len]; omega)) ?_)
  have hsum : Yes (compM (S := Unit) (β := (Int × Int)) (fun (s74 : Unit) (x81 : Int) => (Option.bind (ixL (xs1.map ofQ) x81) fun t98 => Option.bind (ixL r2 x81) fun t100 => Option.bind (m_l_plus t98 t100) fun t102 => some (some t102, ()))) (()) ((rng 0 (k : Int)))) fun r => LQ k (Sc S9 A5) r.1 := by
    refine (y_comp _ (fun i ys _ => LQ i (Sc S9 A5) ys) ⟨[], rfl, rfl, by simp⟩ ?_).mono fun r hr => by
      rw [rng_len, show ((k : Int) - 0).toNat = k by omega] at hr
      exact hr
    rintro i x ys s hx ⟨zs, rfl, z2, z3⟩
    obtain ⟨a1, a2⟩ := rng_at hx
    obtain ⟨y1, w1, v1⟩ := g1.ix (j := x) (by omega) (by omega)
    obtain ⟨y2, w2, v2⟩ := g2.ix (j := x) (by omega) (by omega)
    refine y_eq w1 (y_eq w2 (y_eq (l_plus_q (bd27 v1) (bd27 v2) (by decide) (by decide) (by decide)) (y_some ?_)))
    refine ⟨zs ++ [y1 + y2], by simp, by simp [z2], fun z hz => ?_⟩
    rcases List.mem_append.mp hz with hz | hz
    · exact z3 z hz
    · rw [List.mem_singleton.mp hz]; exact sc_up (sc_add (val9 v1) (val9 v2)) (by decide)
  refine y_bind hsum fun t106 h106 => ?_
  refine y_eq (room_s (by simp)) ?_
  rw [rep_flat, hm]
  have zsc : Sc S9 A5 0 := ⟨0, by show (S9 : Rat) * 0 = 0; grind, by decide⟩
  refine y_if (fun c => ?_) (fun c => ?_)
  · obtain ⟨R, rfl, R2, R3⟩ := h5
    refine y_eq (room_s (by omega)) (y_eq (a := (R.map fun row => (row.take m ++ [0] ++ row.drop (m + 1)).map ofQ, ())) ?_ (y_some ⟨⟨R.map fun row => row.take m ++ [0] ++ row.drop (m + 1), by rw [List.map_map]; rfl, by rw [List.length_map]; exact R2, fun row hrow => ?_⟩, hst.le (by omega)⟩))
    · have : ∀ R : List (List Rat), (∀ row ∈ R, row.length = k) → compM (S := Unit) (β := (List (Int × Int))) (fun (s113 : Unit) (x120 : (List (Int × Int))) => (Option.bind (catT ((cutL x120 none (some (m : Int)))) ([((0 : Int), (1 : Int))])) fun t137 => Option.bind (catT t137 ((cutL x120 (some (((m : Int) + (1 : Int)))) none))) fun t139 => some (some t139, ()))) (()) (R.map fun row => row.map ofQ) = some (R.map fun row => (row.take m ++ [0] ++ row.drop (m + 1)).map ofQ, ()) := by
        intro R
        induction R with
        | nil => intro _; rfl
        | cons row R ih =>
          intro hR
          have hrl := hR row List.mem_cons_self
          refine compM_cons (o := some ((row.take m ++ [0] ++ row.drop (m + 1)).map ofQ)) ?_ (ih fun r hr => hR r (List.mem_cons_of_mem _ hr))
          rw [show (m : Int) + 1 = ((m + 1 : Nat) : Int) by omega, cut_lo' (by rw [List.length_map]; omega), cut_hi' (by rw [List.length_map]; omega)]
          refine bnd (cat_s10 (by simp; omega)) (bnd (a := (row.take m ++ [0] ++ row.drop (m + 1)).map ofQ) ?_ rfl)
          rw [cat_s10 (by simp; omega)]
          refine congrArg some ?_
          simp [ofQ_0]
      exact this R fun row hr => (R3 row hr).1
    · obtain ⟨r0, hr0, rfl⟩ := List.mem_map.mp hrow
      obtain ⟨a, b⟩ := R3 r0 hr0
      refine ⟨by simp; omega, fun x hx => ?_⟩
      rcases List.mem_append.mp hx with hx | hx
      · rcases List.mem_append.mp hx with hx | hx
        · exact b x (List.mem_of_mem_take hx)
        · rw [List.mem_singleton.mp hx]; exact zsc
      · exact b x (List.mem_of_mem_drop hx)
  · have hrow : Yes (ixL (([List.replicate k ((0 : Int), (1 : Int)), xs1.map fun x => ofQ (2 / 3 * x)] ++ [t106.1])) t13.1) (LQ k (Sc S9 A5)) := by
      obtain ⟨w, hw⟩ := Int.eq_ofNat_of_zero_le r13.1
      have c : ¬ t13.1 = 3 := fun z => c (decide_eq_true z)
      have : w = 0 ∨ w = 1 ∨ w = 2 := by omega
      rcases this with rfl | rfl | rfl
      · refine ⟨_, ixL_s (n := 0) rfl hw, List.replicate k 0, ?_, by simp, fun x hx => ?_⟩
        · rw [List.map_replicate, ofQ_0]
        · rw [List.eq_of_mem_replicate hx]; exact zsc
      · refine ⟨_, ixL_s (n := 1) rfl hw, xs1.map fun x => 2 / 3 * x, by rw [List.map_map]; rfl, by rw [List.length_map]; exact l1, fun x hx => ?_⟩
        obtain ⟨y, hy, rfl⟩ := List.mem_map.mp hx
        have h1 : Sc 3 2 (2 / 3 : Rat) := ⟨2, by decide +kernel, by decide⟩
        exact sc_up (sc_mul h1 (p1 y hy)) (by decide)
      · exact ⟨_, ixL_s (n := 2) rfl hw, h106⟩
    refine y_bind hrow fun t146 h146 => ?_
    obtain ⟨R, rfl, R2, R3⟩ := h5
    obtain ⟨v, rfl, v2, v3⟩ := h146
    rw [show (m : Int) + 1 = ((m + 1 : Nat) : Int) by omega, cut_lo' (by omega), cut_hi' (by omega)]
    refine y_eq (cat_s10 (by simp; omega)) (y_eq (cat_s10 (by simp; omega)) (y_some ⟨⟨R.take m ++ [v] ++ R.drop (m + 1), by simp, by simp; omega, fun row hx => ?_⟩, hst.le (by omega)⟩))
    rcases List.mem_append.mp hx with hx | hx
    · rcases List.mem_append.mp hx with hx | hx
      · exact R3 row (List.mem_of_mem_take hx)
      · rw [List.mem_singleton.mp hx]; exact ⟨v2, v3⟩
    · exact R3 row (List.mem_of_mem_drop hx)
end L3

namespace L3
open PySem L2
theorem isLst_some (l : List (Int × Int)) : isLstD ((dOpt (dLst (dT2 PyData.int PyData.int))) (some l)) = true := rfl
theorem vq_sum {n : Nat} {A : Nat → Rat} {x : Nat → Rat} {rowv : List (Int × Int)} {o : Option (List (Int × Int))} {rows : List (List (Int × Int))} {r : Nat} (hn : n ≤ 4) (hrow : ixL rows (r : Int) = some rowv) (hv : rowv = vq n A) (ho : o = some (vq n x)) (hA : ∀ j, j < n → Bd 16 (A j)) (hx : ∀ j, j < n → Bd 100 (x j)) :
    foldO (S := (Int × Int)) (α := Int) (fun (s250 : (Int × Int)) (x251 : Int) => (
              Option.bind (ixL rows (r : Int)) fun t272 =>
              Option.bind (ixL t272 x251) fun t274 =>
              Option.bind o fun t276 =>
              Option.bind (ixL t276 x251) fun t278 =>
              Option.bind (m_l_times t274 t278) fun t280 =>
              Option.bind (m_l_plus s250 t280) fun t282 =>
              some t282)) (((0 : Int), (1 : Int))) ((rng 0 (n : Int))) = some (ofQ (sm n fun j => A j * x j)) := by
  have bt : ∀ j, j < n → Bd 117 (A j * x j) := fun j hj => by
    have b1 := hA j hj; have b2 := hx j hj
    have h1 := nmul_lt b1.1 b2.1
    refine ⟨?_, ?_⟩
    · rw [Rat.num_mul]
      exact Nat.lt_of_le_of_lt (Int.natAbs_ediv_le_natAbs _ _) (Nat.lt_of_lt_of_le h1 (by decide))
    · rw [Rat.den_mul]
      refine Nat.lt_of_le_of_lt (Nat.div_le_self _ _) (Nat.lt_of_lt_of_le (Nat.mul_lt_mul'' b1.2 b2.2) (by decide))
  have badd : ∀ {k l : Nat} {u v : Rat}, Bd k u → Bd l v → Bd (k + l + 1) (u + v) := fun {k l u v} h1 h2 => by
    have pu := den_pos u; have pv := den_pos v
    have e := add_q u v
    have n1 := nmul_lt h1.1 (den_lt h2)
    have n2 := nmul_lt h2.1 (den_lt h1)
    rw [Nat.add_comm] at n2
    have n3 := nadd_lt n1 n2
    rw [← e]
    refine ⟨?_, ?_⟩
    · rw [Rat.num_divInt]
      refine Nat.lt_of_le_of_lt (Int.natAbs_ediv_le_natAbs _ _) ?_
      rw [Int.natAbs_mul]
      have : (((u.den : Int) * v.den).sign).natAbs ≤ 1 := by rw [Int.natAbs_sign]; split <;> omega
      have := Nat.mul_le_mul_right (u.num * v.den + v.num * u.den).natAbs this
      omega
    · rw [Rat.den_divInt, if_neg (by have := Int.mul_pos pu pv; omega)]
      refine Nat.lt_of_le_of_lt (Nat.div_le_self _ _) ?_
      have := nmul_lt (den_lt h1) (den_lt h2)
      exact Nat.lt_of_lt_of_le this (Nat.pow_le_pow_right (by decide) (by omega))
  have bp : ∀ i, i ≤ n → Bd (1 + 118 * i) (sm i fun j => A j * x j) := by
    intro i
    induction i with
    | zero => intro _; show Bd _ (0 : Rat); exact ⟨by decide, by decide⟩
    | succ i ih =>
      intro hi
      exact (badd (ih (by omega)) (bt i (by omega))).up (by omega)
  obtain ⟨s, h1, h2⟩ := y_foldI (S := Int × Int) (α := Int) (I := fun i s => i ≤ n → s = ofQ (sm i fun j => A j * x j)) (xs := rng 0 (n : Int)) (s := ((0 : Int), (1 : Int))) (f := (fun (s250 : (Int × Int)) (x251 : Int) => (
              Option.bind (ixL rows (r : Int)) fun t272 =>
              Option.bind (ixL t272 x251) fun t274 =>
              Option.bind o fun t276 =>
              Option.bind (ixL t276 x251) fun t278 =>
              Option.bind (m_l_times t274 t278) fun t280 =>
              Option.bind (m_l_plus s250 t280) fun t282 =>
              some t282))) (fun _ => by show ((0 : Int), (1 : Int)) = ofQ 0; rw [ofQ_0]) (by
    rintro i y s hy hs
    obtain ⟨e1, e2⟩ := rng_at hy
    have e1 : y = (i : Int) := by omega
    subst e1
    have hi : i < n := by omega
    have hs := hs (by omega)
    subst hs hv ho
    refine y_eq hrow (y_eq (vq_ix hi) (y_eq rfl (y_eq (vq_ix hi) (y_eq (l_times_q (hA i hi) (hx i hi) (by decide) (by decide) (by decide)) (y_eq (l_plus_q (bp i (by omega)) (bt i hi) (by omega) (by decide) (by omega)) (y_some fun _ => rfl))))))
    )
  rw [h1]
  have h2 := h2 (by rw [rng_len]; omega)
  rw [h2, rng_len, show ((n : Int) - 0).toNat = n by omega]
theorem law_true (ns : List Int) (h : ns.length ≤ 63) : m_law ns = some true := by
  suffices hy : Yes (m_law ns) (· = true) by
    obtain ⟨c, h1, rfl⟩ := hy; exact h1
  unfold m_law
  refine y_bind (tape_ok h) fun t ht => ?_
  refine y_bind (Q := fun o => ∃ s, o = .inl s) ?_ fun o ho => ?_
  rotate_left
  · obtain ⟨s, rfl⟩ := ho; exact y_some rfl
  refine y_loopR _ (fun i s => StOk s (100000 * i)) _ ⟨ht, Int.le_refl 0, by simp⟩ ?_ fun s _ => ⟨s, rfl⟩
  rintro i x st hx hst
  obtain ⟨e1, e2⟩ := rng_at hx
  refine y_bind (take_ok hst (by omega) (by decide)) fun t42 h42 => ?_
  have r42 := h42.1
  refine y_eq (small62_s (by omega) (by omega)) (y_eq (room_s (by rw [rng_len]; omega)) (y_bind (rows_ok h42.2 (by omega) (by omega) (by omega)) fun t107 h107 => ?_))
  refine y_eq (small62_s (by omega) (by omega)) (y_eq (room_s (by rw [rng_len]; omega)) (y_bind (values_ok h107.2 (by omega) (by omega) (by omega)) fun t142 h142 => ?_))
  obtain ⟨n, hn⟩ := Int.eq_ofNat_of_zero_le r42.1
  have hn4 : n ≤ 4 := by omega
  obtain ⟨h107, _⟩ := h107
  obtain ⟨h142, hst2⟩ := h142
  rw [hn] at h107 h142 hst2 ⊢
  rw [Int.toNat_natCast] at h107 h142
  refine y_bind (Q := fun (s : Bool × (List Int × Int)) => (s.1 = true → 0 < n) ∧ StOk s.2 (100000 * i + 1000)) (y_if (fun c => y_bind (take_ok hst2 (by omega) (by decide)) fun t147 h147 => y_some ⟨fun _ => by have := of_decide_eq_true c; omega, h147.2.le (by omega)⟩) (fun c => y_some ⟨fun z => (by cases z), hst2.le (by omega)⟩)) fun t149 h149 => ?_
  refine y_bind (Q := fun (s : List (List (Int × Int)) × (List Int × Int)) => MQ' n n (Sc S9 A5) s.1 ∧ StOk s.2 (100000 * i + 2000)) (y_if (fun c => y_bind (spoilt_ok h149.2 (by omega) (h149.1 c) hn4 h107) fun t156 h156 => y_some ⟨h156.1, h156.2.le (by omega)⟩) (fun c => y_some ⟨h107.mono fun x hx => sc_up (val9 hx) (by decide), h149.2.le (by omega)⟩)) fun s153 h153 => ?_
  obtain ⟨⟨R, hR, R2, R3⟩, hst3⟩ := h153
  obtain ⟨b, hb, b2, b3⟩ := h142
  refine y_eq (room_s (by rw [hR, List.length_map]; omega)) (y_eq (a := (s153.1, ())) ?_ ?_)
  · have := compM_map (f := fun (s166 : Unit) (x173 : (List (Int × Int))) => ( some (some x173, ()))) (g := id) (xs := s153.1) fun _ _ => rfl
    rw [List.map_id] at this
    exact this
  let M : Mx := fun r c => (R.getD r []).getD c 0
  have hMq : s153.1 = mq n n M := by rw [hR]; exact mq_of R2 fun row hr => (R3 row hr).1
  have hbq : t142.1 = vq n fun r => b.getD r 0 := by rw [hb]; exact vq_of b2
  have hM : ∀ r c, r < n → c < n → Sc S9 A5 (M r c) := fun r c hr hc => by
    have h1 : r < R.length := by omega
    obtain ⟨a1, a2⟩ := R3 _ (List.getElem_mem h1)
    show Sc S9 A5 ((R.getD r []).getD c 0)
    rw [List.getD_eq_getElem?_getD (l := R), List.getElem?_eq_getElem h1, Option.getD_some, List.getD_eq_getElem?_getD, List.getElem?_eq_getElem (by omega), Option.getD_some]
    exact a2 _ (List.getElem_mem _)
  have hbS : ∀ r, r < n → Sc S9 A5 (b.getD r 0) := fun r hr => by
    have h1 : r < b.length := by omega
    rw [List.getD_eq_getElem?_getD, List.getElem?_eq_getElem h1, Option.getD_some]
    exact sc_up (val9 (b3 _ (List.getElem_mem h1))) (by decide)
  have hk : (n + 1) * A5 * (n * A5) ^ n < 2 ^ 100 ∧ S9 * (n * A5) ^ n < 2 ^ 100 := by
    have h1 := (bits4 hn4).1
    have h2 : (n + 1) * A5 ≤ 2 ^ 20 := Nat.le_trans (Nat.mul_le_mul_right _ (show n + 1 ≤ 5 by omega)) (by decide)
    have h3 : S9 ≤ 2 ^ 20 := by decide
    constructor
    · exact Nat.lt_of_lt_of_le (Nat.mul_lt_mul_of_le_of_lt h2 h1 (by decide)) (by rw [← Nat.pow_add]; exact Nat.le_refl _)
    · exact Nat.lt_of_lt_of_le (Nat.mul_lt_mul_of_le_of_lt h3 h1 (by decide)) (by rw [← Nat.pow_add]; exact Nat.le_refl _)
  have hsol := solve_ok (n := n) (k := 100) (M := A5) (W := S9) (rows := R) (right := b) (s := fun _ => S9) (by omega) R2 (fun row hr => (R3 row hr).1) b2 (fun _ _ => ⟨by decide, Nat.le_refl _⟩) (fun r j hr hj => hM r j hr hj) (fun r hr => hbS r hr) (by decide) (by decide) (by decide) hk.1 hk.2
  rw [← hR, ← hb] at hsol
  refine y_bind hsol fun t197 h197 => ?_
  refine y_n (by simp) ?_
  have hdet := det_ok n 5 M (by omega) hn4 hM
  rw [← hMq] at hdet
  refine y_eq hdet ?_
  have hd0 : (decide ((ofQ (det n M)).1 = 0) : Bool) = decide (det n M = 0) := by
    rw [Bool.eq_iff_iff, decide_eq_true_iff, decide_eq_true_iff]
    exact Rat.num_eq_zero
  rw [hd0]
  cases t197 with
  | none =>
    obtain ⟨x, ⟨j, hj, hxj⟩, h1⟩ := h197
    have := cramer (n := n) (M := M) (b := fun _ => 0) (x := x) h1 hj
    rw [det_col0 hj] at this
    have hz : det n M = 0 := by grind
    exact y_p (decide_eq_true hz) (y_n rfl (y_some (hst3.le (by omega))))
  | some q =>
    obtain ⟨x, rfl, hx1, hx2, hx3⟩ := h197
    have hz : det n M ≠ 0 := fun z => by
      obtain ⟨y, ⟨j, hj, hy⟩, h1⟩ := ker_of z
      exact hy (hx3 y h1 j hj)
    have hq : (List.range n).map (fun r => ofQ (x r)) = vq n x := rfl
    refine y_n (decide_eq_false hz) ?_
    rw [hq]
    refine y_eq (a := false) ?_ (y_n rfl ?_)
    · rw [isLst_some]
      rw [if_neg (by decide)]
      refine bnd rfl ?_
      rw [vq_len]
      simp
    · refine y_eq (small62_s (by omega) (by omega)) ?_
      refine y_bind (Q := fun o => o = .inl ()) ?_ fun o ho => ?_
      rotate_left
      · subst ho; exact y_some (hst3.le (by omega))
      refine y_loopR _ (fun _ _ => True) _ trivial ?_ fun s _ => rfl
      rintro r' y ⟨⟩ hy _
      obtain ⟨d1, d2⟩ := rng_at hy
      have d1 : y = (r' : Int) := by omega
      subst d1
      have hr' : r' < n := by omega
      have hrow : ixL s153.1 (r' : Int) = some (vq n (M r')) := by rw [hMq]; exact mq_ix hr'
      refine y_eq (small62_s (by omega) (by omega)) (y_eq (vq_sum hn4 hrow rfl rfl (fun j hj => bd54 (hM r' j hr' hj)) hx2) ?_)
      rw [hbq]
      refine y_eq (vq_ix hr') ?_
      rw [show sm n (fun j => M r' j * x j) = b.getD r' 0 from hx1 r' hr']
      refine y_eq (a := false) ?_ (y_n rfl (y_some trivial))
      rw [if_neg (by simp)]
      refine bnd rfl (bnd (vq_ix hr') (bnd rfl (bnd (vq_ix hr') (bnd rfl (bnd (vq_ix hr') (bnd (a := ofQ (x r')) ?_ (bnd (eq_self ?_) rfl)))))))
      · have bx := hx2 r' hr'
        rw [show (ofQ (x r')).1 = (x r').num from rfl, show (ofQ (x r')).2 = ((x r').den : Int) from rfl]
        rw [l_ratio_ok (by have := den_pos (x r'); omega) (Nat.lt_of_lt_of_le bx.1 (Nat.pow_le_pow_right (by decide) (by decide))) (Nat.lt_of_lt_of_le (den_lt bx) (Nat.pow_le_pow_right (by decide) (by decide))), rat_ofQ (by have := den_pos (x r'); omega), Rat.num_divInt_den]
      · exact okD_q (n := 6) _
end L3

namespace L3
open PySem PySem.Spec PyProof.Rows L2
/-! ### the end -/
namespace End
def d_ratio : He.DefD := ⟨("ratio", none), "ratio", "ratio", defArgs s_ratio, defBody s_ratio, defScope s_ratio, [], []⟩
def d_pivot_of : He.DefD := ⟨("pivot_of", none), "pivot_of", "pivot_of", defArgs s_pivot_of, defBody s_pivot_of, defScope s_pivot_of, [], []⟩
def d__law_tape : He.DefD := ⟨("_law_tape", none), "_law_tape", "_law_tape", defArgs s__law_tape, defBody s__law_tape, defScope s__law_tape, [], []⟩
def d__law_draw : He.DefD := ⟨("_law_draw", none), "_law_draw", "_law_draw", defArgs s__law_draw, defBody s__law_draw, defScope s__law_draw, [], []⟩
def d__law_ratio : He.DefD := ⟨("_law_ratio", none), "_law_ratio", "_law_ratio", defArgs s__law_ratio, defBody s__law_ratio, defScope s__law_ratio, [], []⟩
def d_minus : He.DefD := ⟨("minus", none), "minus", "minus", defArgs s_minus, defBody s_minus, defScope s_minus, [], []⟩
def d_times : He.DefD := ⟨("times", none), "times", "times", defArgs s_times, defBody s_times, defScope s_times, [], []⟩
def d_over : He.DefD := ⟨("over", none), "over", "over", defArgs s_over, defBody s_over, defScope s_over, [], []⟩
def d__law_take : He.DefD := ⟨("_law_take", none), "_law_take", "_law_take", defArgs s__law_take, defBody s__law_take, defScope s__law_take, [], []⟩
def d__law_plus : He.DefD := ⟨("_law_plus", none), "_law_plus", "_law_plus", defArgs s__law_plus, defBody s__law_plus, defScope s__law_plus, [], []⟩
def d__law_times : He.DefD := ⟨("_law_times", none), "_law_times", "_law_times", defArgs s__law_times, defBody s__law_times, defScope s__law_times, [], []⟩
def d_cleared : He.DefD := ⟨("cleared", none), "cleared", "cleared", defArgs s_cleared, defBody s_cleared, defScope s_cleared, [], []⟩
def d__law_value : He.DefD := ⟨("_law_value", none), "_law_value", "_law_value", defArgs s__law_value, defBody s__law_value, defScope s__law_value, [], []⟩
def d__law_spoilt : He.DefD := ⟨("_law_spoilt", none), "_law_spoilt", "_law_spoilt", defArgs s__law_spoilt, defBody s__law_spoilt, defScope s__law_spoilt, [], []⟩
def d_solve : He.DefD := ⟨("solve", none), "solve", "solve", defArgs s_solve, defBody s_solve, defScope s_solve, [], []⟩
def d__law_determinant : He.DefD := ⟨("_law_determinant", none), "_law_determinant", "_law_determinant", defArgs s__law_determinant, defBody s__law_determinant, defScope s__law_determinant, [], []⟩
def d__law_equal : He.DefD := ⟨("_law_equal", none), "_law_equal", "_law_equal", defArgs s__law_equal, defBody s__law_equal, defScope s__law_equal, [], []⟩
def d_law : He.DefD := ⟨("law", none), "law", "law", defArgs s_law, defBody s_law, defScope s_law, [], []⟩
def fn : List He.DefD := [d_ratio, d_pivot_of, d__law_tape, d__law_draw, d__law_ratio, d_minus, d_times, d_over, d__law_take, d__law_plus, d__law_times, d_cleared, d__law_value, d__law_spoilt, d_solve, d__law_determinant, d__law_equal, d_law]
def fa : List He.Fa := [.glo "ratio", .glo "pivot_of", .glo "_law_tape", .glo "_law_draw", .glo "_law_ratio", .glo "minus", .glo "times", .glo "over", .glo "_law_take", .glo "_law_plus", .glo "_law_times", .glo "cleared", .glo "_law_value", .glo "_law_spoilt", .glo "solve", .glo "_law_determinant", .glo "_law_equal", .glo "law", .free "range", .free "len", .free "int", .free "abs", .free "enumerate", .free "list", .free "isinstance", .free "bool", .free "str", .free "tuple"]
def tf : List He.Defn := []
def ts : List He.Tab := []
def ex : PySem.W.Frag → Bool := fun K => true && He.eqO (PySem.W.nsIn K mainGlobals "gcd") (some (some (.builtin "math.gcd"))) && pairG K "ZERO" 0 1
def loose0 : List PySem.Str := ["ZERO", "ratio", "minus", "times", "over", "pivot_of", "cleared", "solve", "_law_tape", "_law_draw", "_law_equal", "_law_take", "_law_ratio", "_law_plus", "_law_times", "_law_over", "_law_value", "_law_determinant", "_law_spoilt"]
abbrev loose : List PySem.Str := loose0
abbrev R : PySem.W.OpenRow := PySem.W.OpenLaw.row PySem.Challenge.rw_bestodds_k10_linear_equations
abbrev hk : PySem.W.Hook := He.hookX 6 fa fn ts tf ex
def ob (s : PySem.W.SharedT) : He.AlX := He.obsX 6 fa fn ts tf ex (HandSHeadRun.getT s)
theorem ob_eq (s : PySem.W.SharedT) : ob s = hk.obs s.abs := He.obsX_eq (HandSHeadRun.getT_eq s)
theorem run (w : World) : HandSHeadRun.RunEqI R (PySem.W.view R.prog [0, 23]) hk ob 4000 loose w := by
  unfold HandSHeadRun.RunEqI
  kernel_rfl
theorem facts {w : World} {K : PySem.W.Frag} {h : Heap} {mg : Str → Option Value} {f : Addr} (X : K.In h) (G : h.Ns mainGlobals mg) (hfa : mg ("law" : Str) = some (.ref f)) (c : He.SaysX fa fn ts tf ex w h K) (hm : ∀ ns : List Int, ns.length ≤ 63 → m_law ns = some true) :
    LamX.LawAtS PySem.Challenge.rw_bestodds_k10_linear_equations w K CX0 9 63 "_law_script" mg f h := by
  obtain ⟨fd0, D0⟩ := c.t.d.def_ 0 (d := d_ratio) rfl
  have F0 : FunC K "ratio" s_ratio (He.fAd K ("ratio", none)) fd0 (He.codeOf K ("ratio", none)) := funC_of D0
  have n0 : mg "ratio" = some (.ref (He.fAd K ("ratio", none))) := He.glo_ok X G (c.t.d.fact 0 (f := .glo "ratio") rfl)
  obtain ⟨fd1, D1⟩ := c.t.d.def_ 1 (d := d_pivot_of) rfl
  have F1 : FunC K "pivot_of" s_pivot_of (He.fAd K ("pivot_of", none)) fd1 (He.codeOf K ("pivot_of", none)) := funC_of D1
  have n1 : mg "pivot_of" = some (.ref (He.fAd K ("pivot_of", none))) := He.glo_ok X G (c.t.d.fact 1 (f := .glo "pivot_of") rfl)
  obtain ⟨fd2, D2⟩ := c.t.d.def_ 2 (d := d__law_tape) rfl
  have F2 : FunC K "_law_tape" s__law_tape (He.fAd K ("_law_tape", none)) fd2 (He.codeOf K ("_law_tape", none)) := funC_of D2
  have n2 : mg "_law_tape" = some (.ref (He.fAd K ("_law_tape", none))) := He.glo_ok X G (c.t.d.fact 2 (f := .glo "_law_tape") rfl)
  obtain ⟨fd3, D3⟩ := c.t.d.def_ 3 (d := d__law_draw) rfl
  have F3 : FunC K "_law_draw" s__law_draw (He.fAd K ("_law_draw", none)) fd3 (He.codeOf K ("_law_draw", none)) := funC_of D3
  have n3 : mg "_law_draw" = some (.ref (He.fAd K ("_law_draw", none))) := He.glo_ok X G (c.t.d.fact 3 (f := .glo "_law_draw") rfl)
  obtain ⟨fd4, D4⟩ := c.t.d.def_ 4 (d := d__law_ratio) rfl
  have F4 : FunC K "_law_ratio" s__law_ratio (He.fAd K ("_law_ratio", none)) fd4 (He.codeOf K ("_law_ratio", none)) := funC_of D4
  have n4 : mg "_law_ratio" = some (.ref (He.fAd K ("_law_ratio", none))) := He.glo_ok X G (c.t.d.fact 4 (f := .glo "_law_ratio") rfl)
  obtain ⟨fd5, D5⟩ := c.t.d.def_ 5 (d := d_minus) rfl
  have F5 : FunC K "minus" s_minus (He.fAd K ("minus", none)) fd5 (He.codeOf K ("minus", none)) := funC_of D5
  have n5 : mg "minus" = some (.ref (He.fAd K ("minus", none))) := He.glo_ok X G (c.t.d.fact 5 (f := .glo "minus") rfl)
  obtain ⟨fd6, D6⟩ := c.t.d.def_ 6 (d := d_times) rfl
  have F6 : FunC K "times" s_times (He.fAd K ("times", none)) fd6 (He.codeOf K ("times", none)) := funC_of D6
  have n6 : mg "times" = some (.ref (He.fAd K ("times", none))) := He.glo_ok X G (c.t.d.fact 6 (f := .glo "times") rfl)
  obtain ⟨fd7, D7⟩ := c.t.d.def_ 7 (d := d_over) rfl
  have F7 : FunC K "over" s_over (He.fAd K ("over", none)) fd7 (He.codeOf K ("over", none)) := funC_of D7
  have n7 : mg "over" = some (.ref (He.fAd K ("over", none))) := He.glo_ok X G (c.t.d.fact 7 (f := .glo "over") rfl)
  obtain ⟨fd8, D8⟩ := c.t.d.def_ 8 (d := d__law_take) rfl
  have F8 : FunC K "_law_take" s__law_take (He.fAd K ("_law_take", none)) fd8 (He.codeOf K ("_law_take", none)) := funC_of D8
  have n8 : mg "_law_take" = some (.ref (He.fAd K ("_law_take", none))) := He.glo_ok X G (c.t.d.fact 8 (f := .glo "_law_take") rfl)
  obtain ⟨fd9, D9⟩ := c.t.d.def_ 9 (d := d__law_plus) rfl
  have F9 : FunC K "_law_plus" s__law_plus (He.fAd K ("_law_plus", none)) fd9 (He.codeOf K ("_law_plus", none)) := funC_of D9
  have n9 : mg "_law_plus" = some (.ref (He.fAd K ("_law_plus", none))) := He.glo_ok X G (c.t.d.fact 9 (f := .glo "_law_plus") rfl)
  obtain ⟨fd10, D10⟩ := c.t.d.def_ 10 (d := d__law_times) rfl
  have F10 : FunC K "_law_times" s__law_times (He.fAd K ("_law_times", none)) fd10 (He.codeOf K ("_law_times", none)) := funC_of D10
  have n10 : mg "_law_times" = some (.ref (He.fAd K ("_law_times", none))) := He.glo_ok X G (c.t.d.fact 10 (f := .glo "_law_times") rfl)
  obtain ⟨fd11, D11⟩ := c.t.d.def_ 11 (d := d_cleared) rfl
  have F11 : FunC K "cleared" s_cleared (He.fAd K ("cleared", none)) fd11 (He.codeOf K ("cleared", none)) := funC_of D11
  have n11 : mg "cleared" = some (.ref (He.fAd K ("cleared", none))) := He.glo_ok X G (c.t.d.fact 11 (f := .glo "cleared") rfl)
  obtain ⟨fd12, D12⟩ := c.t.d.def_ 12 (d := d__law_value) rfl
  have F12 : FunC K "_law_value" s__law_value (He.fAd K ("_law_value", none)) fd12 (He.codeOf K ("_law_value", none)) := funC_of D12
  have n12 : mg "_law_value" = some (.ref (He.fAd K ("_law_value", none))) := He.glo_ok X G (c.t.d.fact 12 (f := .glo "_law_value") rfl)
  obtain ⟨fd13, D13⟩ := c.t.d.def_ 13 (d := d__law_spoilt) rfl
  have F13 : FunC K "_law_spoilt" s__law_spoilt (He.fAd K ("_law_spoilt", none)) fd13 (He.codeOf K ("_law_spoilt", none)) := funC_of D13
  have n13 : mg "_law_spoilt" = some (.ref (He.fAd K ("_law_spoilt", none))) := He.glo_ok X G (c.t.d.fact 13 (f := .glo "_law_spoilt") rfl)
  obtain ⟨fd14, D14⟩ := c.t.d.def_ 14 (d := d_solve) rfl
  have F14 : FunC K "solve" s_solve (He.fAd K ("solve", none)) fd14 (He.codeOf K ("solve", none)) := funC_of D14
  have n14 : mg "solve" = some (.ref (He.fAd K ("solve", none))) := He.glo_ok X G (c.t.d.fact 14 (f := .glo "solve") rfl)
  obtain ⟨fd15, D15⟩ := c.t.d.def_ 15 (d := d__law_determinant) rfl
  have F15 : FunC K "_law_determinant" s__law_determinant (He.fAd K ("_law_determinant", none)) fd15 (He.codeOf K ("_law_determinant", none)) := funC_of D15
  have n15 : mg "_law_determinant" = some (.ref (He.fAd K ("_law_determinant", none))) := He.glo_ok X G (c.t.d.fact 15 (f := .glo "_law_determinant") rfl)
  obtain ⟨fd16, D16⟩ := c.t.d.def_ 16 (d := d__law_equal) rfl
  have F16 : FunC K "_law_equal" s__law_equal (He.fAd K ("_law_equal", none)) fd16 (He.codeOf K ("_law_equal", none)) := funC_of D16
  have n16 : mg "_law_equal" = some (.ref (He.fAd K ("_law_equal", none))) := He.glo_ok X G (c.t.d.fact 16 (f := .glo "_law_equal") rfl)
  obtain ⟨fd17, D17⟩ := c.t.d.def_ 17 (d := d_law) rfl
  have F17 : FunC K "law" s_law (He.fAd K ("law", none)) fd17 (He.codeOf K ("law", none)) := funC_of D17
  have n17 : mg "law" = some (.ref (He.fAd K ("law", none))) := He.glo_ok X G (c.t.d.fact 17 (f := .glo "law") rfl)
  have y_gcd : mg "gcd" = some (.builtin "math.gcd") := PySem.W.mg_of X G (He.eqO_ok (He.ba (He.ba c.more).1).2)
  have y_range : mg "range" = none := He.free_ok X G (c.t.d.fact 18 (f := .free "range") rfl)
  have y_len : mg "len" = none := He.free_ok X G (c.t.d.fact 19 (f := .free "len") rfl)
  have y_int : mg "int" = none := He.free_ok X G (c.t.d.fact 20 (f := .free "int") rfl)
  have y_abs : mg "abs" = none := He.free_ok X G (c.t.d.fact 21 (f := .free "abs") rfl)
  have y_enumerate : mg "enumerate" = none := He.free_ok X G (c.t.d.fact 22 (f := .free "enumerate") rfl)
  have y_list : mg "list" = none := He.free_ok X G (c.t.d.fact 23 (f := .free "list") rfl)
  have y_isinstance : mg "isinstance" = none := He.free_ok X G (c.t.d.fact 24 (f := .free "isinstance") rfl)
  have y_bool : mg "bool" = none := He.free_ok X G (c.t.d.fact 25 (f := .free "bool") rfl)
  have y_str : mg "str" = none := He.free_ok X G (c.t.d.fact 26 (f := .free "str") rfl)
  have y_tuple : mg "tuple" = none := He.free_ok X G (c.t.d.fact 27 (f := .free "tuple") rfl)
  have v_ZERO : GV K mg "ZERO" (rT2 rInt rInt) ((0 : Int), (1 : Int)) := pairG_ok X G (He.ba c.more).2
  have e := hfa.symm.trans n17
  cases e
  have mem : ∀ p ∈ tf.map (He.cT K), ∃ q ∈ tf, He.cT K q = p := fun p hp => List.mem_map.mp hp
  refine ⟨fd17, tf.map (He.cT K), spV K ((tf.map (He.cT K)).map (·.2)) C_law, fun p hp => ?_, fun p hp => ?_, fun p hp => ?_, fun s v => ?_, fun H a ns hl _ hH hS => ?_, fun base KB GB hTB => ?_⟩
  · obtain ⟨q, hq, rfl⟩ := mem p hp; exact c.empty q hq
  · obtain ⟨q, hq, rfl⟩ := mem p hp; exact c.out q hq
  · obtain ⟨q, hq, rfl⟩ := mem p hp; exact PySem.W.codeHd_of_K X (c.hd q hq)
  · exact F17.bindsA (ps := ["_law_script"]) (fun _ _ _ _ _ _ us hl => match us, hl with | [_], _ => rfl) s [v] rfl
  · have hT : ∀ P ∈ (tf.map (He.cT K)).map (·.2), GxR.TabG H P := fun P hP => by
      obtain ⟨p, hp, rfl⟩ := List.mem_map.mp hP
      exact ⟨#[], hH p hp, trivial⟩
    exact ⟨noT H _, ⟨fun _ => none, _⟩, [], [⟨rScr rInt, ns⟩], ⟨rBool, true⟩, [], rfl, Own.start K H _ hT, ⟨⟨a, _, rfl, sq_noT hT hS, paired_ints ns⟩, trivial⟩, ⟨ns, true, rfl, rfl, hm ns hl, rfl, rfl⟩, fun v _ _ _ _ h => h⟩
  · have tbs : ∀ q ∈ tf, ∃ P0, GxR.TabB base mg (He.codeOf K q) P0 ∧ P0 ∈ (tf.map (He.cT K)).map (·.2) := fun q hq => by
      have t := hTB (He.cT K q) (List.mem_map.mpr ⟨q, hq, rfl⟩)
      exact ⟨(He.cT K q).2, ⟨t.code, t.bm, t.gP⟩, List.mem_map.mpr ⟨_, List.mem_map.mpr ⟨q, hq, rfl⟩, rfl⟩⟩
    have b0 := F0.binds (ps := ["n", "d"]) fun _ _ _ _ _ _ us hl => match us, hl with | [_, _], _ => rfl
    have C_0 : Cl PySem.Challenge.rw_bestodds_k10_linear_equations.prog w K mg base 1 "ratio" (spV K ((tf.map (He.cT K)).map (·.2)) C_ratio) [] := ⟨_, _, ["n", "d"], [], ok_ratio F0 y_gcd, n0, F0.kp, b0, .nil⟩
    have b1 := F1.binds (ps := ["table", "column"]) fun _ _ _ _ _ _ us hl => match us, hl with | [_, _], _ => rfl
    have C_1 : Cl PySem.Challenge.rw_bestodds_k10_linear_equations.prog w K mg base 1 "pivot_of" (spV K ((tf.map (He.cT K)).map (·.2)) C_pivot_of) [] := ⟨_, _, ["table", "column"], [], ok_pivot_of F1 v_ZERO y_range y_len, n1, F1.kp, b1, .nil⟩
    have b2 := F2.binds (ps := ["_law_script"]) fun _ _ _ _ _ _ us hl => match us, hl with | [_], _ => rfl
    have C_2 : Cl PySem.Challenge.rw_bestodds_k10_linear_equations.prog w K mg base 1 "_law_tape" (spV K ((tf.map (He.cT K)).map (·.2)) C__law_tape) [] := ⟨_, _, ["_law_script"], [], ok__law_tape F2 y_int y_range, n2, F2.kp, b2, .nil⟩
    have b3 := F3.binds (ps := ["_law_tape_here", "_law_at", "_law_many"]) fun _ _ _ _ _ _ us hl => match us, hl with | [_, _, _], _ => rfl
    have C_3 : Cl PySem.Challenge.rw_bestodds_k10_linear_equations.prog w K mg base 1 "_law_draw" (spV K ((tf.map (He.cT K)).map (·.2)) C__law_draw) [] := ⟨_, _, ["_law_tape_here", "_law_at", "_law_many"], [], ok__law_draw F3 y_len y_int, n3, F3.kp, b3, .nil⟩
    have b4 := F4.binds (ps := ["_law_n", "_law_d"]) fun _ _ _ _ _ _ us hl => match us, hl with | [_, _], _ => rfl
    have C_4 : Cl PySem.Challenge.rw_bestodds_k10_linear_equations.prog w K mg base 1 "_law_ratio" (spV K ((tf.map (He.cT K)).map (·.2)) C__law_ratio) [] := ⟨_, _, ["_law_n", "_law_d"], [], ok__law_ratio F4 y_abs y_range y_int, n4, F4.kp, b4, .nil⟩
    have b5 := F5.binds (ps := ["a", "b"]) fun _ _ _ _ _ _ us hl => match us, hl with | [_, _], _ => rfl
    have C_5 : Cl PySem.Challenge.rw_bestodds_k10_linear_equations.prog w K mg base 2 "minus" (spV K ((tf.map (He.cT K)).map (·.2)) C_minus) [] := ⟨_, _, ["a", "b"], [], ok_minus F5 C_0, n5, F5.kp, b5, .nil⟩
    have b6 := F6.binds (ps := ["a", "b"]) fun _ _ _ _ _ _ us hl => match us, hl with | [_, _], _ => rfl
    have C_6 : Cl PySem.Challenge.rw_bestodds_k10_linear_equations.prog w K mg base 2 "times" (spV K ((tf.map (He.cT K)).map (·.2)) C_times) [] := ⟨_, _, ["a", "b"], [], ok_times F6 C_0, n6, F6.kp, b6, .nil⟩
    have b7 := F7.binds (ps := ["a", "b"]) fun _ _ _ _ _ _ us hl => match us, hl with | [_, _], _ => rfl
    have C_7 : Cl PySem.Challenge.rw_bestodds_k10_linear_equations.prog w K mg base 2 "over" (spV K ((tf.map (He.cT K)).map (·.2)) C_over) [] := ⟨_, _, ["a", "b"], [], ok_over F7 C_0, n7, F7.kp, b7, .nil⟩
    have b8 := F8.binds (ps := ["_law_state", "_law_many"]) fun _ _ _ _ _ _ us hl => match us, hl with | [_, _], _ => rfl
    have C_8 : Cl PySem.Challenge.rw_bestodds_k10_linear_equations.prog w K mg base 2 "_law_take" (spV K ((tf.map (He.cT K)).map (·.2)) C__law_take) [] := ⟨_, _, ["_law_state", "_law_many"], [], ok__law_take F8 C_3, n8, F8.kp, b8, .nil⟩
    have b9 := F9.binds (ps := ["_law_a", "_law_b"]) fun _ _ _ _ _ _ us hl => match us, hl with | [_, _], _ => rfl
    have C_9 : Cl PySem.Challenge.rw_bestodds_k10_linear_equations.prog w K mg base 2 "_law_plus" (spV K ((tf.map (He.cT K)).map (·.2)) C__law_plus) [] := ⟨_, _, ["_law_a", "_law_b"], [], ok__law_plus F9 C_4, n9, F9.kp, b9, .nil⟩
    have b10 := F10.binds (ps := ["_law_a", "_law_b"]) fun _ _ _ _ _ _ us hl => match us, hl with | [_, _], _ => rfl
    have C_10 : Cl PySem.Challenge.rw_bestodds_k10_linear_equations.prog w K mg base 2 "_law_times" (spV K ((tf.map (He.cT K)).map (·.2)) C__law_times) [] := ⟨_, _, ["_law_a", "_law_b"], [], ok__law_times F10 C_4, n10, F10.kp, b10, .nil⟩
    have b11 := F11.binds (ps := ["row", "other", "column"]) fun _ _ _ _ _ _ us hl => match us, hl with | [_, _, _], _ => rfl
    have C_11 : Cl PySem.Challenge.rw_bestodds_k10_linear_equations.prog w K mg base 3 "cleared" (spV K ((tf.map (He.cT K)).map (·.2)) C_cleared) [] := ⟨_, _, ["row", "other", "column"], [], ok_cleared F11 C_5 C_6 v_ZERO y_enumerate, n11, F11.kp, b11, .nil⟩
    have b12 := F12.binds (ps := ["_law_state"]) fun _ _ _ _ _ _ us hl => match us, hl with | [_], _ => rfl
    have C_12 : Cl PySem.Challenge.rw_bestodds_k10_linear_equations.prog w K mg base 3 "_law_value" (spV K ((tf.map (He.cT K)).map (·.2)) C__law_value) [] := ⟨_, _, ["_law_state"], [], ok__law_value F12 C_8 C_4, n12, F12.kp, b12, .nil⟩
    have b13 := F13.binds (ps := ["_law_state", "_law_rows"]) fun _ _ _ _ _ _ us hl => match us, hl with | [_, _], _ => rfl
    have C_13 : Cl PySem.Challenge.rw_bestodds_k10_linear_equations.prog w K mg base 3 "_law_spoilt" (spV K ((tf.map (He.cT K)).map (·.2)) C__law_spoilt) [] := ⟨_, _, ["_law_state", "_law_rows"], [], ok__law_spoilt F13 C_8 C_10 C_9 y_len y_range, n13, F13.kp, b13, .nil⟩
    have b14 := F14.binds (ps := ["rows", "right"]) fun _ _ _ _ _ _ us hl => match us, hl with | [_, _], _ => rfl
    have C_14 : Cl PySem.Challenge.rw_bestodds_k10_linear_equations.prog w K mg base 4 "solve" (spV K ((tf.map (He.cT K)).map (·.2)) C_solve) [] := ⟨_, _, ["rows", "right"], [], ok_solve F14 C_1 C_7 C_11 y_enumerate y_list y_range y_len, n14, F14.kp, b14, .nil⟩
    have b15 := F15.binds (ps := ["_law_rows"]) fun _ _ _ _ _ _ us hl => match us, hl with | [_], _ => rfl
    have C_15 : Cl PySem.Challenge.rw_bestodds_k10_linear_equations.prog w K mg base 7 "_law_determinant" (spV K ((tf.map (He.cT K)).map (·.2)) (C__law_determinant 5)) [] := ⟨_, _, ["_law_rows"], [], all__law_determinant F15 C_10 C_9 y_len y_range n15 F15.kp b15 5, n15, F15.kp, b15, .nil⟩
    have b16 := F16.binds (ps := ["_law_actual", "_law_due"]) fun _ _ _ _ _ _ us hl => match us, hl with | [_, _], _ => rfl
    have C_16 : Cl PySem.Challenge.rw_bestodds_k10_linear_equations.prog w K mg base 8 "_law_equal" (spV K ((tf.map (He.cT K)).map (·.2)) (C__law_equal 8)) [] := ⟨_, _, ["_law_actual", "_law_due"], [], all__law_equal F16 y_isinstance y_bool y_int y_str y_tuple y_list y_len y_range n16 F16.kp b16 8, n16, F16.kp, b16, .nil⟩
    exact ok_law F17 C_2 C_8 C_12 C_13 C_14 C_15 C_9 C_10 C_16 C_4 y_range y_list y_isinstance y_len
end End
end L3
open PySem PySem.W PySem.Calls PyProof.Rows
set_option maxHeartbeats 0 in
theorem PySem.Challenge.cw_bestodds_k10_linear_equations_holds : PySem.Challenge.rw_bestodds_k10_linear_equations.Holds := by
  w_on; o_law
  refine HandSHeadRun.head_imp (r := OpenLaw.row PySem.Challenge.rw_bestodds_k10_linear_equations) (q := view (OpenLaw.row PySem.Challenge.rw_bestodds_k10_linear_equations).prog [0, 23]) (H := L3.End.hk) (ob := L3.End.ob) (M := 4000) (loose := L3.End.loose) (d := HandSHeadRun.topDef (OpenLaw.row PySem.Challenge.rw_bestodds_k10_linear_equations).prog 23) (kwd := []) L3.End.ob_eq
    L3.End.run (by kernel_rfl) (by kernel_rfl) (by kernel_rfl) (by rfl) (by first | assumption | decide +kernel) (by decide +kernel) ⟨rfl, rfl, rfl, rfl, rfl, by decide +kernel⟩ ?hw ?hc
  case hw => w_witness2
  case hc =>
    refine LamX.walk_ofTsE (l := PySem.Challenge.rw_bestodds_k10_linear_equations) (n := 63) (k := 9) (x := "_law_script") (CX := fun _ => L2.CX0) rfl (by decide) (by kernel_rfl) ⟨rfl, by decide, by decide⟩ ?F (fun _ _ _ _ _ z => z)
    intro w mg fa h Y G hmg0
    obtain ⟨K, KX, c⟩ := Y
    have hmg : mg ("law" : PySem.Str) = some (.ref fa) := by
      have e : (HandSHeadRun.topDef (OpenLaw.row PySem.Challenge.rw_bestodds_k10_linear_equations).prog 23).name = ("law" : PySem.Str) := by kernel_rfl
      rw [← e]
      exact hmg0
    exact ⟨K, KX, L3.End.facts KX G hmg c L3.law_true⟩
#print axioms PySem.Challenge.cw_bestodds_k10_linear_equations_holds

