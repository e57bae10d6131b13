import PyProof.Rows.All
import Wide.All
import OpenK.AllK
import Wide.FinOn
import HandS.ForMost
import HandS.Evl
import HandS.Gcd
import HandS.Wide
import HandS.Conv
import HandS.IsInst
import HandS.Codes
import PySem.Challenge.RW_bestodds_k08_whole_sure_states_hang_toge
import HandS.AnyAll
import HandS.Comp
import HandS.GenOver
import HandS.GenList
import HandS.HeadHook4
import HandS.HeadWalk
import HandS.Head0
import HandS.Head1
import HandS.Head2
import KE.GoesMore
import HandS.Iter
import HandS.TupAny
import HandS.TupMul
import HandS.Style
import HandS.ListItems
import HandS.SortRule
import HandS.CallLocal
import HandS.SortInts
import HandS.NoneIn
import HandS.Head3
import HandS.HeadEnd
import HandS.HeadHook1
import HandS.HeadHook2
set_option Elab.async false
set_option linter.all false
set_option maxRecDepth 100000
set_option maxHeartbeats 4000000
namespace L3
open PySem L2
open Evl (Ex ex_rd ex_l ex_t sq_of st_of fresh_back)

abbrev Fg := PySem.W.Frag

/-! ### how data stands in the heap -/
structure Rep (α : Type) where
  is : Fg → Hp → V → α → Prop
  mono : ∀ {K : Fg} {B B' : Hp} {v : V} {a : α}, Ex B B' → is K B v a → is K B' v a
structure CRep (α : Type) where
  is : Fg → Hp → HO → α → Prop
  mono : ∀ {K : Fg} {B B' : Hp} {o : HO} {a : α}, Ex B B' → is K B o a → is K B' o a

theorem paired_mono {α : Type} {r : Rep α} {K : Fg} {B B' : Hp} (e : Ex B B') : ∀ {xs : List V} {as : List α}, Paired (r.is K B) xs as → Paired (r.is K B') xs as
  | _, _, .nil => .nil
  | _, _, .cons h t => .cons (r.mono e h) (paired_mono e t)
theorem paired_len {α β : Type} {F : α → β → Prop} : ∀ {xs : List α} {as : List β}, Paired F xs as → xs.length = as.length
  | _, _, .nil => rfl
  | _, _, .cons _ t => congrArg (· + 1) (paired_len t)
theorem paired_get {α β : Type} {F : α → β → Prop} : ∀ {xs : List α} {as : List β} {i : Nat} {a : β}, Paired F xs as → as[i]? = some a → ∃ x, xs[i]? = some x ∧ F x a
  | _, _, _, _, .nil, e => by simp at e
  | _, _, 0, _, .cons r _, e => by simp at e; subst e; exact ⟨_, rfl, r⟩
  | _, _, i + 1, a, .cons _ t, e => by
    obtain ⟨u, h1, h2⟩ := paired_get (i := i) (a := a) t (by simpa using e)
    exact ⟨u, by simpa using h1, h2⟩
theorem paired_app {α β : Type} {F : α → β → Prop} : ∀ {xs ys : List α} {as bs : List β}, Paired F xs as → Paired F ys bs → Paired F (xs ++ ys) (as ++ bs)
  | _, _, _, _, .nil, s => s
  | _, _, _, _, .cons r t, s => .cons r (paired_app t s)
theorem paired_set {α β : Type} {F : α → β → Prop} {x : α} {a : β} (r : F x a) : ∀ {xs : List α} {as : List β} (i : Nat), Paired F xs as → Paired F (xs.set i x) (as.set i a)
  | _, _, _, .nil => .nil
  | _, _, 0, .cons _ t => .cons r t
  | _, _, i + 1, .cons q t => .cons q (paired_set r i t)
theorem paired_drop {α β : Type} {F : α → β → Prop} : ∀ {xs : List α} {as : List β} (n : Nat), Paired F xs as → Paired F (xs.drop n) (as.drop n)
  | _, _, 0, r => r
  | _, _, _ + 1, .nil => .nil
  | _, _, n + 1, .cons _ t => paired_drop n t
theorem paired_take {α β : Type} {F : α → β → Prop} : ∀ {xs : List α} {as : List β} (n : Nat), Paired F xs as → Paired F (xs.take n) (as.take n)
  | _, _, 0, _ => .nil
  | _, _, _ + 1, .nil => .nil
  | _, _, n + 1, .cons r t => .cons r (paired_take n t)
theorem paired_rev {α β : Type} {F : α → β → Prop} : ∀ {xs : List α} {as : List β}, Paired F xs as → Paired F xs.reverse as.reverse
  | _, _, .nil => .nil
  | _, _, .cons r t => by
    rw [List.reverse_cons, List.reverse_cons]
    exact paired_app (paired_rev t) (.cons r .nil)
theorem paired_map {α β γ : Type} {F : γ → β → Prop} {f : α → γ} {g : α → β} (h : ∀ a, F (f a) (g a)) : ∀ (l : List α), Paired F (l.map f) (l.map g)
  | [] => .nil
  | a :: l => .cons (h a) (paired_map h l)
theorem paired_imp {α β : Type} {F G : α → β → Prop} (h : ∀ a b, F a b → G a b) : ∀ {xs : List α} {as : List β}, Paired F xs as → Paired G xs as
  | _, _, .nil => .nil
  | _, _, .cons r t => .cons (h _ _ r) (paired_imp h t)

def rInt : Rep Int := ⟨fun _ _ v a => v = .int a, fun _ h => h⟩
def rBool : Rep Bool := ⟨fun _ _ v a => v = .bl a, fun _ h => h⟩
def rStr : Rep Str := ⟨fun _ _ v a => v = .str a, fun _ h => h⟩
def rNon : Rep Unit := ⟨fun _ _ v _ => v = .non, fun _ h => h⟩
def rRef : Rep Addr := ⟨fun _ _ v a => v = .ref a, fun _ h => h⟩
def rVal : Rep V := ⟨fun _ _ v a => v = a, fun _ h => h⟩
def rOpt {α : Type} (r : Rep α) : Rep (Option α) := ⟨fun K B v a => match a with | none => v = .non | some x => r.is K B v x, fun {K B B' v a} e h => by
  cases a with
  | none => exact h
  | some x => exact r.mono e h⟩
def rTup {α : Type} (r : Rep α) : Rep (List α) := ⟨fun K B v as => ∃ p xs, v = .ref p ∧ SqT K B p xs ∧ Paired (r.is K B) xs as, fun e ⟨p, xs, h1, h2, h3⟩ => ⟨p, xs, h1, ex_t e h2, paired_mono e h3⟩⟩
/-- the script -/
def rScr {α : Type} (r : Rep α) : Rep (List α) := ⟨fun K B v as => ∃ p xs, v = .ref p ∧ SqL K B p xs ∧ Paired (r.is K B) xs as, fun e ⟨p, xs, h1, h2, h3⟩ => ⟨p, xs, h1, ex_l e h2, paired_mono e h3⟩⟩
def rLst {α : Type} (r : Rep α) : Rep (List α) := ⟨fun K B v as => ∃ p xs, v = .ref p ∧ B p = some (.lst xs) ∧ Paired (r.is K B) xs as, fun e ⟨p, xs, h1, h2, h3⟩ => ⟨p, xs, h1, e _ _ h2, paired_mono e h3⟩⟩
def rSeq {α : Type} (r : Rep α) : Rep (List α) := ⟨fun K B v as => ∃ p xs, v = .ref p ∧ (SqL K B p xs ∨ SqT K B p xs) ∧ Paired (r.is K B) xs as, fun e ⟨p, xs, h1, h2, h3⟩ => ⟨p, xs, h1, h2.imp (ex_l e) (ex_t e), paired_mono e h3⟩⟩
def rT2 {α β : Type} (r : Rep α) (s : Rep β) : Rep (α × β) := ⟨fun K B v a => ∃ p x y, v = .ref p ∧ SqT K B p [x, y] ∧ r.is K B x a.1 ∧ s.is K B y a.2,
  fun e ⟨p, x, y, h1, h2, h3, h4⟩ => ⟨p, x, y, h1, ex_t e h2, r.mono e h3, s.mono e h4⟩⟩
def rT3 {α β γ : Type} (r : Rep α) (s : Rep β) (t : Rep γ) : Rep (α × β × γ) := ⟨fun K B v a => ∃ p x y z, v = .ref p ∧ SqT K B p [x, y, z] ∧ r.is K B x a.1 ∧ s.is K B y a.2.1 ∧ t.is K B z a.2.2,
  fun e ⟨p, x, y, z, h1, h2, h3, h4, h5⟩ => ⟨p, x, y, z, h1, ex_t e h2, r.mono e h3, s.mono e h4, t.mono e h5⟩⟩
def cLst {α : Type} (r : Rep α) : CRep (List α) := ⟨fun K B o as => ∃ xs, o = .lst xs ∧ Paired (r.is K B) xs as, fun e ⟨xs, h1, h2⟩ => ⟨xs, h1, paired_mono e h2⟩⟩
/-- a list [u, v] of two kinds -/
def cL2 {α β : Type} (r : Rep α) (s : Rep β) : CRep (α × β) := ⟨fun K B o a => ∃ x y, o = .lst [x, y] ∧ r.is K B x a.1 ∧ s.is K B y a.2, fun e ⟨x, y, h1, h2, h3⟩ => ⟨x, y, h1, r.mono e h2, s.mono e h3⟩⟩
theorem rTup_seq {α : Type} {r : Rep α} {K : Fg} {B : Hp} {v : V} {as : List α} (h : (rTup r).is K B v as) : (rSeq r).is K B v as := by
  obtain ⟨p, xs, h1, h2, h3⟩ := h
  exact ⟨p, xs, h1, .inr h2, h3⟩
theorem rLst_seq {α : Type} {r : Rep α} {K : Fg} {B : Hp} {v : V} {as : List α} (h : (rLst r).is K B v as) : (rSeq r).is K B v as := by
  obtain ⟨p, xs, h1, h2, h3⟩ := h
  exact ⟨p, xs, h1, .inl (sq_of h2), h3⟩
theorem rl_sc {α : Type} {r : Rep α} {K : Fg} {B : Hp} {v : V} {as : List α} (h : (rLst r).is K B v as) : (rScr r).is K B v as := by
  obtain ⟨p, xs, h1, h2, h3⟩ := h
  exact ⟨p, xs, h1, sq_of h2, h3⟩
theorem rScr_seq {α : Type} {r : Rep α} {K : Fg} {B : Hp} {v : V} {as : List α} (h : (rScr r).is K B v as) : (rSeq r).is K B v as := by
  obtain ⟨p, xs, h1, h2, h3⟩ := h
  exact ⟨p, xs, h1, .inl h2, h3⟩

/-! ### the heap in three: B stays, M is not ours, L may change -/
structure Cell : Type 1 where
  {α : Type}
  p : Addr
  c : CRep α
  a : α
def Cell.ok (K : Fg) (B H : Hp) (x : Cell) : Prop := ∃ o, H x.p = some o ∧ x.c.is K B o x.a
/-- what is not ours; the code objects' tables that may grow -/
structure Fr where
  h : Hp
  T : List Addr
instance : CoeFun Fr fun _ => Addr → Option HO := ⟨Fr.h⟩
instance : CoeOut Fr Hp := ⟨Fr.h⟩
structure Own (K : Fg) (B : Hp) (M : Fr) (L : List Cell) (H : Hp) : Prop where
  b : Ex B H
  m : Ex M.h H
  bm : ∀ a, B a = none ∨ M a = none
  l : ∀ x ∈ L, x.ok K B H ∧ B x.p = none ∧ M x.p = none
  nd : (L.map (·.p)).Nodup
  t : ∀ P ∈ M.T, GxR.TabG H P ∧ B P = none ∧ M P = none ∧ P ∉ L.map (·.p)
section
variable {K : Fg} {B B' H H' : Hp} {M : Fr} {L L' : List Cell} {p : Addr} {o : HO} {α : Type} {c : CRep α} {a a' : α}
theorem Cell.ok.mono {x : Cell} (e : Ex B B') (h : x.ok K B H) : x.ok K B' H := by
  obtain ⟨o, h1, h2⟩ := h
  exact ⟨o, h1, x.c.mono e h2⟩
theorem tab_upd {H : Hp} {P p : Addr} {o : HO} (h : GxR.TabG H P) (ne : P ≠ p) : GxR.TabG (upd H p o) P := by
  obtain ⟨ps, h1, h2⟩ := h
  exact ⟨ps, by rw [upd_ne ne]; exact h1, h2⟩
theorem tab_ne {H : Hp} {P p : Addr} (h : GxR.TabG H P) (hp : H p = none) : P ≠ p := fun e => by
  obtain ⟨ps, h1, _⟩ := h
  rw [e, hp] at h1
  cases h1
/-- without the tables -/
def noT (H : Hp) (T : List Addr) : Hp := fun a => if a ∈ T then none else H a
theorem Own.start (K : Fg) (H : Hp) (T : List Addr) (hT : ∀ P ∈ T, GxR.TabG H P) : Own K (noT H T) ⟨fun _ => none, T⟩ [] H := ⟨fun a u h => by
    unfold noT at h
    split at h
    · cases h
    · exact h, fun _ _ h => (by cases h), fun _ => .inr rfl, fun _ h => absurd h (by simp), by simp, fun P hP => ⟨hT P hP, by unfold noT; rw [if_pos hP], rfl, by simp⟩⟩
theorem sq_noT {K : Fg} {H : Hp} {T : List Addr} {a : Addr} {xs : List V} (hT : ∀ P ∈ T, GxR.TabG H P) (h : SqL K H a xs) : SqL K (noT H T) a xs := by
  have ne : ∀ u, H a = some u → (∀ ps, u ≠ .tbl ps) → noT H T a = some u := fun u e n => by
    unfold noT
    split
    · rename_i hm
      obtain ⟨ps, h1, _⟩ := hT a hm
      rw [e] at h1
      exact absurd (Option.some.inj h1) (n ps)
    · exact e
  rcases h with (h | ⟨o, h⟩) | h
  · exact .inl (.inl (ne _ h fun _ e => by cases e))
  · exact .inl (.inr ⟨o, ne _ h fun _ e => by cases e⟩)
  · exact .inr h
/-- a new thing that stays -/
theorem Own.ext (w : Own K B M L H) (hp : H p = none) : Own K (upd B p o) M L (upd H p o) := by
  have hB : B p = none := fresh_back w.b hp
  have hM : M p = none := fresh_back w.m hp
  refine ⟨fun b u e => ?_, fun b u e => ?_, fun b => ?_, fun x hx => ?_, w.nd, fun P hP => ?_⟩
  rotate_right
  · obtain ⟨h1, h2, h3, h4⟩ := w.t P hP
    have ne := tab_ne h1 hp
    exact ⟨tab_upd h1 ne, by rw [upd_ne ne]; exact h2, h3, h4⟩
  · by_cases hb : b = p
    · rw [hb, upd_same] at e; rw [hb, upd_same]; exact e
    · rw [upd_ne hb] at e; rw [upd_ne hb]; exact w.b b u e
  · rw [upd_ne (ne_of_none e hM)]; exact w.m b u e
  · by_cases hb : b = p
    · right; rw [hb]; exact hM
    · rw [upd_ne hb]; exact w.bm b
  · obtain ⟨⟨u, h1, h2⟩, h3, h4⟩ := w.l x hx
    have ne : x.p ≠ p := ne_of_none h1 hp
    exact ⟨⟨u, by rw [upd_ne ne]; exact h1, x.c.mono (Ex.new hB) h2⟩, by rw [upd_ne ne]; exact h3, h4⟩
/-- a new thing that may change -/
theorem Own.new (w : Own K B M L H) (hp : H p = none) (h : c.is K B o a) : Own K B M (⟨p, c, a⟩ :: L) (upd H p o) := by
  have hB : B p = none := fresh_back w.b hp
  have hM : M p = none := fresh_back w.m hp
  refine ⟨fun b u e => ?_, fun b u e => ?_, w.bm, fun x hx => ?_, ?_, fun P hP => ?_⟩
  rotate_right
  · obtain ⟨h1, h2, h3, h4⟩ := w.t P hP
    have ne := tab_ne h1 hp
    exact ⟨tab_upd h1 ne, h2, h3, fun z => (List.mem_cons.mp z).elim ne h4⟩
  · rw [upd_ne (ne_of_none e hB)]; exact w.b b u e
  · rw [upd_ne (ne_of_none e hM)]; exact w.m b u e
  · rcases List.mem_cons.mp hx with rfl | hx
    · exact ⟨⟨o, upd_same, h⟩, hB, hM⟩
    · obtain ⟨⟨u, h1, h2⟩, h3, h4⟩ := w.l x hx
      exact ⟨⟨u, by rw [upd_ne (ne_of_none h1 hp)]; exact h1, h2⟩, h3, h4⟩
  · rw [List.map_cons, List.nodup_cons]
    refine ⟨fun hm => ?_, w.nd⟩
    obtain ⟨x, hx, e⟩ := List.mem_map.mp hm
    obtain ⟨⟨u, h1, _⟩, _⟩ := w.l x hx
    rw [e, show (Cell.mk p c a).p = p from rfl, hp] at h1
    cases h1
theorem nodup_at : ∀ {l : List Addr} {i j : Nat} {x : Addr}, l.Nodup → l[i]? = some x → l[j]? = some x → i = j := fun {l i j x} h a b => by
  obtain ⟨h1, e1⟩ := List.getElem?_eq_some_iff.mp a
  obtain ⟨h2, e2⟩ := List.getElem?_eq_some_iff.mp b
  exact (List.getElem_inj h).mp (e1.trans e2.symm)
theorem Own.at {i : Nat} {x : Cell} (w : Own K B M L H) (h : L[i]? = some x) : x.ok K B H ∧ B x.p = none ∧ M x.p = none := w.l x (List.mem_of_getElem? h)
theorem Own.ne {i j : Nat} {x y : Cell} (w : Own K B M L H) (h : L[i]? = some x) (h' : L[j]? = some y) (hij : i ≠ j) : x.p ≠ y.p := fun e => hij (nodup_at w.nd (by rw [List.getElem?_map, h]; rfl) (by rw [List.getElem?_map, h']; exact congrArg some e.symm))
/-- a change in place -/
theorem Own.set {i : Nat} (w : Own K B M L H) (h : L[i]? = some ⟨p, c, a⟩) {β : Type} {c' : CRep β} {a' : β} (h' : c'.is K B o a') : Own K B M (L.set i ⟨p, c', a'⟩) (upd H p o) := by
  obtain ⟨_, hB, hM⟩ := w.at h
  have ek : (L.set i ⟨p, c', a'⟩).map (·.p) = L.map (·.p) := by
    rw [List.map_set]
    refine List.ext_getElem? fun j => ?_
    by_cases hij : i = j
    · subst hij
      have hl : i < (L.map (·.p)).length := by rw [List.length_map]; exact (List.getElem?_eq_some_iff.mp h).1
      rw [List.getElem?_set_self hl, List.getElem?_map, h]; rfl
    · rw [List.getElem?_set_ne hij]
  refine ⟨fun b u e => ?_, fun b u e => ?_, w.bm, fun x hx => ?_, ?_, fun P hP => ?_⟩
  rotate_right
  · obtain ⟨h1, h2, h3, h4⟩ := w.t P hP
    have ne : P ≠ p := fun e => h4 (by rw [e]; exact List.mem_map.mpr ⟨_, List.mem_of_getElem? h, rfl⟩)
    exact ⟨tab_upd h1 ne, h2, h3, by rw [ek]; exact h4⟩
  · rw [upd_ne (ne_of_none e hB)]; exact w.b b u e
  · rw [upd_ne (ne_of_none e hM)]; exact w.m b u e
  · obtain ⟨j, hj⟩ := List.getElem?_of_mem hx
    by_cases hij : i = j
    · subst hij
      have hl : i < L.length := (List.getElem?_eq_some_iff.mp h).1
      rw [List.getElem?_set_self hl] at hj
      cases hj
      exact ⟨⟨o, upd_same, h'⟩, hB, hM⟩
    · rw [List.getElem?_set_ne hij] at hj
      obtain ⟨⟨u, h1, h2⟩, h3, h4⟩ := w.at hj
      have ne : x.p ≠ p := w.ne hj h (Ne.symm hij)
      exact ⟨⟨u, by rw [upd_ne ne]; exact h1, h2⟩, h3, h4⟩
  · have e : (L.set i ⟨p, c', a'⟩).map (·.p) = L.map (·.p) := by
      rw [List.map_set]
      refine List.ext_getElem? fun j => ?_
      by_cases hij : i = j
      · subst hij
        have hl : i < (L.map (·.p)).length := by rw [List.length_map]; exact (List.getElem?_eq_some_iff.mp h).1
        rw [List.getElem?_set_self hl, List.getElem?_map, h]; rfl
      · rw [List.getElem?_set_ne hij]
    rw [e]; exact w.nd
theorem Own.perm {L' : List Cell} (w : Own K B M L H) (h : ∀ x ∈ L', x ∈ L) (nd : (L'.map (·.p)).Nodup) : Own K B M L' H := ⟨w.b, w.m, w.bm, fun x hx => w.l x (h x hx), nd, fun P hP => by
  obtain ⟨h1, h2, h3, h4⟩ := w.t P hP
  refine ⟨h1, h2, h3, fun z => h4 ?_⟩
  obtain ⟨x, hx, e⟩ := List.mem_map.mp z
  exact List.mem_map.mpr ⟨x, h x hx, e⟩⟩
theorem Own.erase (w : Own K B M L H) (i : Nat) : Own K B M (L.eraseIdx i) H := by
  refine w.perm (fun x hx => List.mem_of_mem_eraseIdx hx) ?_
  exact w.nd.sublist ((List.eraseIdx_sublist L i).map _)
theorem Own.tail {x : Cell} (w : Own K B M (x :: L) H) : Own K B M L H := w.erase 0
theorem Own.nil (w : Own K B M L H) : Own K B M [] H := w.perm (fun _ h => absurd h (by simp)) (by simp)
/-- what may change stays from now on -/
theorem Own.freeze {i : Nat} {x : Cell} (w : Own K B M L H) (h : L[i]? = some x) : ∃ o, H x.p = some o ∧ x.c.is K B o x.a ∧ B x.p = none ∧ Own K (upd B x.p o) M (L.eraseIdx i) H := by
  obtain ⟨⟨o, h1, h2⟩, hB, hM⟩ := w.at h
  refine ⟨o, h1, h2, hB, fun b u e => ?_, w.m, fun b => ?_, fun y hy => ?_, w.nd.sublist ((List.eraseIdx_sublist L i).map _), fun P hP => ?_⟩
  rotate_right
  · obtain ⟨t1, t2, t3, t4⟩ := w.t P hP
    have ne : P ≠ x.p := fun e => t4 (by rw [e]; exact List.mem_map.mpr ⟨_, List.mem_of_getElem? h, rfl⟩)
    exact ⟨t1, by rw [upd_ne ne]; exact t2, t3, fun z => t4 (((List.eraseIdx_sublist L i).map _).subset z)⟩
  · by_cases hb : b = x.p
    · rw [hb, upd_same] at e; rw [hb, h1]; exact e
    · rw [upd_ne hb] at e; exact w.b b u e
  · by_cases hb : b = x.p
    · right; rw [hb]; exact hM
    · rw [upd_ne hb]; exact w.bm b
  · obtain ⟨⟨u, h3, h4⟩, h5, h6⟩ := w.l y (List.mem_of_mem_eraseIdx hy)
    have ne : y.p ≠ x.p := by
      obtain ⟨j, hj, hne⟩ := List.mem_eraseIdx_iff_getElem?.mp hy
      exact w.ne hne h hj
    exact ⟨⟨u, h3, y.c.mono (Ex.new hB) h4⟩, by rw [upd_ne ne]; exact h5, h6⟩
/-- what is ours as a part of what is not ours -/
def absorb (M : Fr) (L : List Cell) (H : Hp) : Fr := ⟨fun a => if a ∈ L.map (·.p) then H a else M a, M.T⟩
theorem absorb_in {x : Cell} (h : x ∈ L) : absorb M L H x.p = H x.p := by
  exact if_pos (List.mem_map.mpr ⟨x, h, rfl⟩)
theorem absorb_out (h : p ∉ L.map (·.p)) : absorb M L H p = M p := by
  exact if_neg h
/-- L1 is lent, L2 is set aside -/
theorem Own.lend {L1 L2 : List Cell} (w : Own K B M L H) (h1 : ∀ x ∈ L1, x ∈ L) (h2 : ∀ x ∈ L2, x ∈ L) (nd1 : (L1.map (·.p)).Nodup) (dj : ∀ x ∈ L1, x.p ∉ L2.map (·.p)) : Own K B (absorb M L2 H) L1 H := by
  refine ⟨w.b, fun b u e => ?_, fun b => ?_, fun x hx => ?_, nd1, fun P hP => ?_⟩
  rotate_right
  · obtain ⟨t1, t2, t3, t4⟩ := w.t P hP
    have sub : ∀ {L' : List Cell}, (∀ x ∈ L', x ∈ L) → P ∉ L'.map (·.p) := fun {L'} hs z => by
      obtain ⟨x, hx, e⟩ := List.mem_map.mp z
      exact t4 (List.mem_map.mpr ⟨x, hs x hx, e⟩)
    exact ⟨t1, t2, by rw [absorb_out (sub h2)]; exact t3, sub h1⟩
  · by_cases hb : b ∈ L2.map (·.p)
    · have e : (if b ∈ L2.map (·.p) then H b else M b) = some u := e; rw [if_pos hb] at e; exact e
    · rw [absorb_out hb] at e; exact w.m b u e
  · by_cases hb : b ∈ L2.map (·.p)
    · left
      obtain ⟨x, hx, rfl⟩ := List.mem_map.mp hb
      exact (w.l x (h2 x hx)).2.1
    · rw [absorb_out hb]; exact w.bm b
  · obtain ⟨a1, a2, a3⟩ := w.l x (h1 x hx)
    refine ⟨a1, a2, ?_⟩
    rw [absorb_out (dj x hx)]; exact a3
/-- it comes back changed -/
theorem Own.back {L1' L2 : List Cell} (w : Own K B M L H) (h2 : ∀ x ∈ L2, x ∈ L) (nd2 : (L2.map (·.p)).Nodup) (e : Ex B B') (w' : Own K B' (absorb M L2 H) L1' H') (dj : ∀ x ∈ L1', x.p ∉ L2.map (·.p)) : Own K B' M (L1' ++ L2) H' := by
  have inL : ∀ x ∈ L2, ∃ o, H x.p = some o ∧ H' x.p = some o ∧ x.c.is K B o x.a := fun x hx => by
    obtain ⟨⟨o, a1, a2⟩, _⟩ := w.l x (h2 x hx)
    exact ⟨o, a1, w'.m x.p o (by rw [absorb_in hx]; exact a1), a2⟩
  have Min : ∀ b u, M b = some u → b ∉ L2.map (·.p) := fun b u hm hb => by
    obtain ⟨x, hx, rfl⟩ := List.mem_map.mp hb
    rw [(w.l x (h2 x hx)).2.2] at hm
    cases hm
  refine ⟨w'.b, fun b u hm => w'.m b u (by rw [absorb_out (Min b u hm)]; exact hm), fun b => ?_, fun x hx => ?_, ?_, fun P hP => ?_⟩
  rotate_right
  · obtain ⟨t1, t2, t3, t4⟩ := w.t P hP
    obtain ⟨s1, s2, s3, s4⟩ := w'.t P hP
    refine ⟨s1, s2, t3, fun z => ?_⟩
    rw [List.map_append, List.mem_append] at z
    rcases z with z | z
    · exact s4 z
    · obtain ⟨x, hx, e⟩ := List.mem_map.mp z
      exact t4 (List.mem_map.mpr ⟨x, h2 x hx, e⟩)
  · rcases w'.bm b with h | h
    · exact .inl h
    · right
      by_cases hb : b ∈ L2.map (·.p)
      · obtain ⟨x, hx, rfl⟩ := List.mem_map.mp hb
        exact (w.l x (h2 x hx)).2.2
      · rw [absorb_out hb] at h; exact h
  · rcases List.mem_append.mp hx with hx | hx
    · obtain ⟨a1, a2, a3⟩ := w'.l x hx
      refine ⟨a1, a2, ?_⟩
      rw [absorb_out (dj x hx)] at a3; exact a3
    · obtain ⟨o, a1, a2, a3⟩ := inL x hx
      refine ⟨⟨o, a2, x.c.mono e a3⟩, ?_, (w.l x (h2 x hx)).2.2⟩
      rcases w'.bm x.p with h | h
      · exact h
      · rw [absorb_in hx, a1] at h; cases h
  · rw [List.map_append, List.nodup_append]
    refine ⟨w'.nd, nd2, fun a ha b hb hab => ?_⟩
    obtain ⟨x, hx, rfl⟩ := List.mem_map.mp ha
    exact dj x hx (by rw [hab]; exact hb)
end
end L3

namespace L3
open PySem L2
open Evl (Ex ex_rd ex_l ex_t sq_of st_of fresh_back)

/-! ### what an expression gives -/
def EV (K : Fg) (M : Fr) {α : Type} (te : TE) (σ : St) (B : Hp) (L : List Cell) (r : Rep α) (a : α) (L' : List Cell) : Prop :=
  ∀ B1 H, Ex B B1 → Own K B1 M L H → ∀ Q : VK, (∀ v B2 H2, Ex B1 B2 → Own K B2 M L' H2 → r.is K B2 v a → Q v H2) → te σ H Q
/-- a new list that may change -/
def EVL (K : Fg) (M : Fr) {α : Type} (te : TE) (σ : St) (B : Hp) (L : List Cell) (r : Rep α) (as : List α) (L' : List Cell) : Prop :=
  ∀ B1 H, Ex B B1 → Own K B1 M L H → ∀ Q : VK, (∀ p B2 H2, Ex B1 B2 → Own K B2 M (⟨p, cLst r, as⟩ :: L') H2 → Q (.ref p) H2) → te σ H Q
def ET (K : Fg) (M : Fr) (tt : TT) (σ : St) (B : Hp) (L : List Cell) (b : Bool) (L' : List Cell) : Prop :=
  ∀ B1 H, Ex B B1 → Own K B1 M L H → ∀ Q : Bool → Hp → Prop, (∀ B2 H2, Ex B1 B2 → Own K B2 M L' H2 → Q b H2) → tt σ H Q
structure Arg : Type 1 where
  {α : Type}
  r : Rep α
  a : α
def Arg.is (K : Fg) (B : Hp) (v : V) (x : Arg) : Prop := x.r.is K B v x.a
def ArgsIs (K : Fg) (B : Hp) : List V → List Arg → Prop
  | [], [] => True
  | v :: vs, a :: as => a.is K B v ∧ ArgsIs K B vs as
  | _, _ => False
theorem args_mono {K : Fg} {B B' : Hp} (e : Ex B B') : ∀ {vs : List V} {as : List Arg}, ArgsIs K B vs as → ArgsIs K B' vs as
  | [], [], _ => trivial
  | _ :: _, a :: _, h => ⟨a.r.mono e h.1, args_mono e h.2⟩
  | [], _ :: _, h => h
  | _ :: _, [], h => h
def EA (K : Fg) (M : Fr) (ta : TA) (σ : St) (B : Hp) (L : List Cell) (as : List Arg) (L' : List Cell) : Prop :=
  ∀ B1 H, Ex B B1 → Own K B1 M L H → ∀ Q : List V → Hp → Prop, (∀ vs B2 H2, Ex B1 B2 → Own K B2 M L' H2 → ArgsIs K B2 vs as → Q vs H2) → ta σ H Q

/-! ### partial operations of the mirrors -/
theorem bindS {α β : Type} {o : Option α} {f : α → Option β} {b : β} (h : Option.bind o f = some b) : ∃ a, o = some a ∧ f a = some b := by
  cases o with
  | none => cases h
  | some a => exact ⟨a, rfl, h⟩
def CMulX (i j : Int) : Prop := ((-(2 ^ 64) < i ∧ i < 2 ^ 64) ∨ (-(2 ^ 64) < j ∧ j < 2 ^ 64)) ∨ i.natAbs.log2 + j.natAbs.log2 < 1000000
instance (i j : Int) : Decidable (CMulX i j) := by unfold CMulX; infer_instance
theorem op_mulX {X : Cx} : OpR X (binaryOp .Mult) (rI CMulX fun i j => .int (i * j)) := opI fun _ _ _ _ _ _ _ hc q => PyProof.Rows.mul_int q (Or.elim hc CMul.ok CMulW.ok)
def mulI (i j : Int) : Option Int := if CMulX i j then some (i * j) else none
def divI (i j : Int) : Option Int := if 0 < j ∧ j.natAbs.log2 < 9000 then some (i / j) else none
def modI (i j : Int) : Option Int := if 0 < j then some (i % j) else none
def powI (i j : Int) : Option Int := if 0 ≤ j ∧ j ≤ 1000000 ∧ i.natAbs < 2 ^ 64 then some (i ^ j.toNat) else none
def ixL {α : Type} (xs : List α) (i : Int) : Option α := atI xs i
def room (n : Nat) : Option Unit := if n < sizeLine then some () else none
theorem mulI_some {i j k : Int} (h : mulI i j = some k) : CMulX i j ∧ k = i * j := by
  unfold mulI at h
  split at h
  · rename_i hc; exact ⟨hc, (Option.some.inj h).symm⟩
  · cases h
theorem divI_some {i j k : Int} (h : divI i j = some k) : CDivW i j ∧ k = i / j := by
  unfold divI at h
  split at h
  · rename_i hc; exact ⟨hc, (Option.some.inj h).symm⟩
  · cases h
theorem modI_some {i j k : Int} (h : modI i j = some k) : 0 < j ∧ k = i % j := by
  unfold modI at h
  split at h
  · rename_i hc; exact ⟨hc, (Option.some.inj h).symm⟩
  · cases h
theorem powI_some {i j k : Int} (h : powI i j = some k) : CPow i j ∧ k = i ^ j.toNat := by
  unfold powI at h
  split at h
  · rename_i hc; exact ⟨hc, (Option.some.inj h).symm⟩
  · cases h
theorem room_some {n : Nat} {u : Unit} (h : room n = some u) : n < sizeLine := by
  unfold room at h
  split at h
  · rename_i hc; exact hc
  · cases h
/-- an index in the mirror's list is one in the heap's -/
theorem atI_paired {α : Type} {F : V → α → Prop} {xs : List V} {as : List α} {i : Int} {a : α} (h : Paired F xs as) (e : atI as i = some a) : ∃ x, atI xs i = some x ∧ F x a := by
  unfold atI at e ⊢
  rw [paired_len h]
  revert e
  cases ixN as.length i with
  | none => intro e; simp at e
  | some j => intro e; exact paired_get h (by simpa using e)

section
variable {K : Fg} {M : Fr} {σ : St} {B : Hp} {L L1 L2 L' : List Cell} {α β γ δ : Type} {r : Rep α} {s : Rep β} {t : Rep γ} {ta tb tc te : TE} {tt tu : TT} {tA : TA} {i j k : Int} {b c : Bool}
/-! ### expressions -/
theorem ev_var {n : Nat} {v : V} {a : α} (h : σ[n]? = some (some v)) (hr : r.is K B v a) : EV K M (tVar n) σ B L r a L := fun B1 H e w Q q => ⟨v, h, q v B1 H (Ex.refl _) w (r.mono e hr)⟩
theorem ev_varI {n : Nat} {v : V} (h : σ[n]? = some (some v)) (hr : v = .int i) : EV K M (tVar n) σ B L rInt i L := ev_var h hr
theorem ev_varB {n : Nat} {v : V} (h : σ[n]? = some (some v)) (hr : v = .bl b) : EV K M (tVar n) σ B L rBool b L := ev_var h hr
theorem ev_varS {n : Nat} {v : V} {x : Str} (h : σ[n]? = some (some v)) (hr : v = .str x) : EV K M (tVar n) σ B L rStr x L := ev_var h hr
theorem ev_varR {n : Nat} {p : Addr} (h : σ[n]? = some (some (.ref p))) : EV K M (tVar n) σ B L rRef p L := ev_var h rfl
theorem ev_k {v : V} {a : α} (hr : ∀ B, r.is K B v a) : EV K M (tC v) σ B L r a L := fun B1 H e w Q q => q v B1 H (Ex.refl _) w (hr B1)
theorem ev_int : EV K M (tC (.int i)) σ B L rInt i L := ev_k fun _ => rfl
theorem ev_bl : EV K M (tC (.bl b)) σ B L rBool b L := ev_k fun _ => rfl
theorem ev_str {x : Str} : EV K M (tC (.str x)) σ B L rStr x L := ev_k fun _ => rfl
theorem ev_non : EV K M (tC .non) σ B L (rOpt r) none L := ev_k fun _ => rfl
theorem ev_as {a : α} {b : β} (h : EV K M te σ B L r a L') (f : ∀ B v, r.is K B v a → s.is K B v b) : EV K M te σ B L s b L' := fun B1 H e w Q q => h B1 H e w Q fun v B2 H2 e2 w2 h2 => q v B2 H2 e2 w2 (f _ _ h2)
theorem ev_seqT {as : List α} (h : EV K M te σ B L (rTup r) as L') : EV K M te σ B L (rSeq r) as L' := ev_as h fun _ _ => rTup_seq
theorem ev_seqS {as : List α} (h : EV K M te σ B L (rScr r) as L') : EV K M te σ B L (rSeq r) as L' := ev_as h fun _ _ => rScr_seq
theorem ev_scr {as : List α} (h : EV K M te σ B L (rLst r) as L') : EV K M te σ B L (rScr r) as L' := ev_as h fun _ _ => rl_sc
theorem ev_seqL {as : List α} (h : EV K M te σ B L (rLst r) as L') : EV K M te σ B L (rSeq r) as L' := ev_as h fun _ _ => rLst_seq
theorem ev_sm {a : α} (h : EV K M te σ B L r a L') : EV K M te σ B L (rOpt r) (some a) L' := ev_as h fun _ _ h => h
/-- a new list, left as it is -/
theorem ev_frz {as : List α} (h : EVL K M te σ B L r as L') : EV K M te σ B L (rLst r) as L' := fun B1 H e w Q q => h B1 H e w Q fun p B2 H2 e2 w2 => by
  obtain ⟨o, h1, ⟨xs, h2, h3⟩, h4, w3⟩ := w2.freeze (i := 0) rfl
  have h4 : B2 p = none := h4
  have e3 : Ex B2 (upd B2 p o) := Ex.new h4
  refine q _ (upd B2 p o) H2 (e2.trans e3) w3 ⟨p, xs, rfl, ?_, paired_mono e3 h3⟩
  rw [upd_same, h2]
/-- two values, one operation -/
theorem ev_op {R : R2} {a : α} {b : β} {c : γ} (ha : EV K M ta σ B L r a L1) (hb : EV K M tb σ B L1 s b L2)
    (h : ∀ B1 H1 x y (Q : VK), Own K B1 M L2 H1 → r.is K B1 x a → s.is K B1 y b → (∀ v, t.is K B1 v c → Q v H1) → R x y H1 Q) : EV K M (tOp R ta tb) σ B L t c L2 := fun B1 H e w Q q =>
  ha B1 H e w _ fun x B2 H2 e2 w2 hx => hb B2 H2 (e.trans e2) w2 _ fun y B3 H3 e3 w3 hy => h B3 H3 x y Q w3 (r.mono e3 hx) hy fun v hv => q v B3 H3 (e2.trans e3) w3 hv
theorem ev_un {R : V → Hp → VK → Prop} {a : α} {c : γ} (ha : EV K M ta σ B L r a L1) (h : ∀ B1 H1 x (Q : VK), Own K B1 M L1 H1 → r.is K B1 x a → (∀ v, t.is K B1 v c → Q v H1) → R x H1 Q) : EV K M (tUn R ta) σ B L t c L1 := fun B1 H e w Q q =>
  ha B1 H e w _ fun x B2 H2 e2 w2 hx => h B2 H2 x Q w2 hx fun v hv => q v B2 H2 e2 w2 hv
theorem ev_I0 {g : Int → Int → Int} (ha : EV K M ta σ B L rInt i L1) (hb : EV K M tb σ B L1 rInt j L2) : EV K M (tOp (rI0 fun i j => .int (g i j)) ta tb) σ B L rInt (g i j) L2 :=
  ev_op ha hb fun _ _ _ _ _ _ hx hy q => ⟨i, j, hx, hy, q _ rfl⟩
theorem ev_B0 {g : Int → Int → Bool} (ha : EV K M ta σ B L rInt i L1) (hb : EV K M tb σ B L1 rInt j L2) : EV K M (tOp (rI0 fun i j => .bl (g i j)) ta tb) σ B L rBool (g i j) L2 :=
  ev_op ha hb fun _ _ _ _ _ _ hx hy q => ⟨i, j, hx, hy, q _ rfl⟩
theorem ev_mul (ha : EV K M ta σ B L rInt i L1) (hb : EV K M tb σ B L1 rInt j L2) (h : mulI i j = some k) : EV K M (tOp (rI CMulX fun i j => .int (i * j)) ta tb) σ B L rInt k L2 :=
  ev_op ha hb fun _ _ _ _ _ _ hx hy q => ⟨i, j, hx, hy, (mulI_some h).1, q _ (by rw [(mulI_some h).2]; rfl)⟩
theorem ev_div (ha : EV K M ta σ B L rInt i L1) (hb : EV K M tb σ B L1 rInt j L2) (h : divI i j = some k) : EV K M (tOp (rI CDivW fun i j => .int (i / j)) ta tb) σ B L rInt k L2 :=
  ev_op ha hb fun _ _ _ _ _ _ hx hy q => ⟨i, j, hx, hy, (divI_some h).1, q _ (by rw [(divI_some h).2]; rfl)⟩
theorem ev_mod (ha : EV K M ta σ B L rInt i L1) (hb : EV K M tb σ B L1 rInt j L2) (h : modI i j = some k) : EV K M (tOp (rI (fun _ j => 0 < j) fun i j => .int (i % j)) ta tb) σ B L rInt k L2 :=
  ev_op ha hb fun _ _ _ _ _ _ hx hy q => ⟨i, j, hx, hy, (modI_some h).1, q _ (by rw [(modI_some h).2]; rfl)⟩
theorem ev_pow (ha : EV K M ta σ B L rInt i L1) (hb : EV K M tb σ B L1 rInt j L2) (h : powI i j = some k) : EV K M (tOp (rI CPow fun i j => .int (i ^ j.toNat)) ta tb) σ B L rInt k L2 :=
  ev_op ha hb fun _ _ _ _ _ _ hx hy q => ⟨i, j, hx, hy, (powI_some h).1, q _ (by rw [(powI_some h).2]; rfl)⟩
theorem ev_neg (ha : EV K M ta σ B L rInt i L1) : EV K M (tUn (rU fun i => .int (-i)) ta) σ B L rInt (-i) L1 := ev_un ha fun _ _ _ _ _ hx q => ⟨i, hx, q _ rfl⟩
theorem ev_eqI (ha : EV K M ta σ B L rInt i L1) (hb : EV K M tb σ B L1 rInt j L2) : EV K M (tOp rEq ta tb) σ B L rBool (decide (i = j)) L2 :=
  ev_op ha hb fun _ _ _ _ _ _ hx hy q => by
    have hx : _ = V.int i := hx
    have hy : _ = V.int j := hy
    subst hx hy
    exact ⟨rfl, q _ (by show V.bl _ = V.bl _; congr 1; simp)⟩
theorem ev_neI (ha : EV K M ta σ B L rInt i L1) (hb : EV K M tb σ B L1 rInt j L2) : EV K M (tOp rNe ta tb) σ B L rBool (!decide (i = j)) L2 :=
  ev_op ha hb fun _ _ _ _ _ _ hx hy q => by
    have hx : _ = V.int i := hx
    have hy : _ = V.int j := hy
    subst hx hy
    exact ⟨rfl, q _ (by show V.bl _ = V.bl _; congr 1; simp)⟩
theorem ev_eqS {x y : Str} (ha : EV K M ta σ B L rStr x L1) (hb : EV K M tb σ B L1 rStr y L2) : EV K M (tOp rEq ta tb) σ B L rBool (decide (x = y)) L2 :=
  ev_op ha hb fun _ _ _ _ _ _ hx hy q => by
    have hx : _ = V.str x := hx
    have hy : _ = V.str y := hy
    subst hx hy
    exact ⟨rfl, q _ (by show V.bl _ = V.bl _; congr 1; simp)⟩
theorem ev_neS {x y : Str} (ha : EV K M ta σ B L rStr x L1) (hb : EV K M tb σ B L1 rStr y L2) : EV K M (tOp rNe ta tb) σ B L rBool (!decide (x = y)) L2 :=
  ev_op ha hb fun _ _ _ _ _ _ hx hy q => by
    have hx : _ = V.str x := hx
    have hy : _ = V.str y := hy
    subst hx hy
    exact ⟨rfl, q _ (by show V.bl _ = V.bl _; congr 1; simp)⟩
theorem ev_eqB {x y : Bool} (ha : EV K M ta σ B L rBool x L1) (hb : EV K M tb σ B L1 rBool y L2) : EV K M (tOp rEq ta tb) σ B L rBool (decide (x = y)) L2 :=
  ev_op ha hb fun _ _ _ _ _ _ hx hy q => by
    have hx : _ = V.bl x := hx
    have hy : _ = V.bl y := hy
    subst hx hy
    exact ⟨rfl, q _ (by show V.bl _ = V.bl _; congr 1; simp)⟩
/-- x is None -/
theorem ev_isN {a : Option α} (ha : EV K M ta σ B L (rOpt r) a L1) (hn : ∀ B v x, r.is K B v x → v ≠ .non) : EV K M (tIsN ta) σ B L rBool a.isNone L1 := fun B1 H e w Q q =>
  ha B1 H e w _ fun x B2 H2 e2 w2 hx => q _ B2 H2 e2 w2 (by
    show V.bl _ = V.bl _
    congr 1
    cases a with
    | none => exact decide_eq_true (show x = V.non from hx)
    | some a => exact decide_eq_false (hn _ _ _ hx))
theorem ev_notN {a : Option α} (ha : EV K M ta σ B L (rOpt r) a L1) (hn : ∀ B v x, r.is K B v x → v ≠ .non) : EV K M (tNotN ta) σ B L rBool a.isSome L1 := fun B1 H e w Q q =>
  ha B1 H e w _ fun x B2 H2 e2 w2 hx => q _ B2 H2 e2 w2 (by
    show V.bl _ = V.bl _
    congr 1
    cases a with
    | none => rw [decide_eq_true (show x = V.non from hx)]; rfl
    | some a => rw [decide_eq_false (hn _ _ _ hx)]; rfl)
/-! ### tuples and lists -/
theorem ea_nil : EA K M tNil σ B L [] L := fun B1 H e w Q q => q [] B1 H (Ex.refl _) w trivial
theorem ea_cons {a : α} {as : List Arg} (ha : EV K M ta σ B L r a L1) (hr : EA K M tA σ B L1 as L2) : EA K M (tCons ta tA) σ B L (⟨r, a⟩ :: as) L2 := fun B1 H e w Q q =>
  ha B1 H e w _ fun x B2 H2 e2 w2 hx => hr B2 H2 (e.trans e2) w2 _ fun vs B3 H3 e3 w3 hvs => q (x :: vs) B3 H3 (e2.trans e3) w3 ⟨r.mono e3 hx, hvs⟩
theorem ev_T2 {a : α} {b : β} (h : EA K M tA σ B L [⟨r, a⟩, ⟨s, b⟩] L') : EV K M (tTup tA) σ B L (rT2 r s) (a, b) L' := fun B1 H e w Q q =>
  h B1 H e w _ fun vs B2 H2 e2 w2 hv => by
    match vs, hv with
    | [_, _], ⟨h1, h2, _⟩ => exact ⟨by show 2 ≤ sizeLine; decide, fun p hp => q _ (upd B2 p _) _ (e2.trans (Ex.new (fresh_back w2.b hp))) (w2.ext hp) ⟨p, _, _, rfl, st_of upd_same, r.mono (Ex.new (fresh_back w2.b hp)) h1, s.mono (Ex.new (fresh_back w2.b hp)) h2⟩⟩
theorem ev_T3 {a : α} {b : β} {c : γ} (h : EA K M tA σ B L [⟨r, a⟩, ⟨s, b⟩, ⟨t, c⟩] L') : EV K M (tTup tA) σ B L (rT3 r s t) (a, b, c) L' := fun B1 H e w Q q =>
  h B1 H e w _ fun vs B2 H2 e2 w2 hv => by
    match vs, hv with
    | [_, _, _], ⟨h1, h2, h3, _⟩ => exact ⟨by show 3 ≤ sizeLine; decide, fun p hp => q _ (upd B2 p _) _ (e2.trans (Ex.new (fresh_back w2.b hp))) (w2.ext hp) ⟨p, _, _, _, rfl, st_of upd_same, r.mono (Ex.new (fresh_back w2.b hp)) h1, s.mono (Ex.new (fresh_back w2.b hp)) h2, t.mono (Ex.new (fresh_back w2.b hp)) h3⟩⟩
theorem homog : ∀ {as : List α} {vs : List V}, ArgsIs K B vs (as.map (Arg.mk r)) → Paired (r.is K B) vs as
  | [], [], _ => .nil
  | _ :: _, _ :: _, h => .cons h.1 (homog h.2)
  | [], _ :: _, h => h.elim
  | _ :: _, [], h => h.elim
theorem ev_tup (as : List α) (h : EA K M tA σ B L (as.map (Arg.mk r)) L') (hl : Nat.ble as.length 100000 = true := by rfl) : EV K M (tTup tA) σ B L (rTup r) as L' := fun B1 H e w Q q =>
  h B1 H e w _ fun vs B2 H2 e2 w2 hv => ⟨by rw [paired_len (homog hv)]; exact Evl.sz_of (Nat.le_of_ble_eq_true hl), fun p hp => q _ (upd B2 p _) _ (e2.trans (Ex.new (fresh_back w2.b hp))) (w2.ext hp) ⟨p, _, rfl, st_of upd_same, paired_mono (Ex.new (fresh_back w2.b hp)) (homog hv)⟩⟩
theorem el_lst (as : List α) (h : EA K M tA σ B L (as.map (Arg.mk r)) L') (hl : Nat.ble as.length 100000 = true := by rfl) : EVL K M (tLst tA) σ B L r as L' := fun B1 H e w Q q =>
  h B1 H e w _ fun vs B2 H2 e2 w2 hv => ⟨by rw [paired_len (homog hv)]; exact Evl.sz_of (Nat.le_of_ble_eq_true hl), fun p hp => q p B2 _ e2 (w2.new hp ⟨vs, rfl, homog hv⟩)⟩
theorem ev_fst {a : α × β} (ha : EV K M ta σ B L (rT2 r s) a L1) : EV K M (tOp (rIx K) ta (tC (.int 0))) σ B L r a.1 L1 := fun B1 H e w Q q =>
  ha B1 H e w _ fun x B2 H2 e2 w2 hx => by
    obtain ⟨p, x0, x1, rfl, hs, h0, h1⟩ := hx
    exact .inr (.inl ⟨p, _, 0, x0, rfl, rfl, ex_t w2.b hs, rfl, q _ B2 H2 e2 w2 h0⟩)
theorem ev_snd {a : α × β} (ha : EV K M ta σ B L (rT2 r s) a L1) : EV K M (tOp (rIx K) ta (tC (.int 1))) σ B L s a.2 L1 := fun B1 H e w Q q =>
  ha B1 H e w _ fun x B2 H2 e2 w2 hx => by
    obtain ⟨p, x0, x1, rfl, hs, h0, h1⟩ := hx
    exact .inr (.inl ⟨p, _, 1, x1, rfl, rfl, ex_t w2.b hs, rfl, q _ B2 H2 e2 w2 h1⟩)
theorem ev_ix {xs : List α} {a : α} (ha : EV K M ta σ B L (rSeq r) xs L1) (hb : EV K M tb σ B L1 rInt i L2) (h : ixL xs i = some a) : EV K M (tOp (rIx K) ta tb) σ B L r a L2 :=
  ev_op ha hb fun B1 H1 x y Q w hx hy q => by
    obtain ⟨p, vs, rfl, hs, hv⟩ := hx
    obtain ⟨x, e, hx⟩ := atI_paired hv h
    rcases hs with hs | hs
    · exact .inl ⟨p, vs, i, x, rfl, hy, ex_l w.b hs, e, q _ hx⟩
    · exact .inr (.inl ⟨p, vs, i, x, rfl, hy, ex_t w.b hs, e, q _ hx⟩)
/-- of a list that may change -/
theorem ev_ixC {n : Nat} {p : Addr} {xs : List α} {a : α} (ha : EV K M ta σ B L rRef p L1) (hb : EV K M tb σ B L1 rInt i L2) (hc : L2[n]? = some ⟨p, cLst r, xs⟩) (h : ixL xs i = some a) : EV K M (tOp (rIx K) ta tb) σ B L r a L2 :=
  ev_op ha hb fun B1 H1 x y Q w hx hy q => by
    obtain ⟨⟨o, h1, vs, h2, hv⟩, _⟩ := w.at hc
    obtain ⟨x, e, hx'⟩ := atI_paired hv h
    exact .inl ⟨p, vs, i, x, hx, hy, sq_of (by rw [h1, h2]), e, q _ hx'⟩
def rLen (K : Fg) : List V → Hp → VK → Prop := fun xs H Q => ∃ p ys, xs = [.ref p] ∧ (SqL K H p ys ∨ SqT K H p ys) ∧ Q (.int ys.length) H
theorem ev_cb {R : List V → Hp → VK → Prop} {as : List Arg} {c : γ} (ha : EA K M tA σ B L as L1) (h : ∀ B1 H1 vs (Q : VK), Own K B1 M L1 H1 → ArgsIs K B1 vs as → (∀ v, t.is K B1 v c → Q v H1) → R vs H1 Q) : EV K M (tCB R tA) σ B L t c L1 := fun B1 H e w Q q =>
  ha B1 H e w _ fun vs B2 H2 e2 w2 hv => h B2 H2 vs Q w2 hv fun v hr => q v B2 H2 e2 w2 hr
theorem ev_cb1 {R : List V → Hp → VK → Prop} {a : α} {c : γ} (ha : EV K M ta σ B L r a L1) (h : ∀ B1 H1 x (Q : VK), Own K B1 M L1 H1 → r.is K B1 x a → (∀ v, t.is K B1 v c → Q v H1) → R [x] H1 Q) : EV K M (tCB R (tCons ta tNil)) σ B L t c L1 := fun B1 H e w Q q =>
  ha B1 H e w _ fun v B2 H2 e2 w2 hv => h B2 H2 v Q w2 hv fun v hr => q v B2 H2 e2 w2 hr
theorem ev_len {xs : List α} (ha : EV K M ta σ B L (rSeq r) xs L1) : EV K M (tCB (rLen K) (tCons ta tNil)) σ B L rInt (xs.length : Int) L1 :=
  ev_cb1 ha fun B1 H1 x Q w hx q => by
    obtain ⟨p, vs, rfl, hs, hv⟩ := hx
    exact ⟨p, vs, rfl, hs.imp (ex_l w.b) (ex_t w.b), q _ (by rw [paired_len hv]; rfl)⟩
theorem ev_lenC {n : Nat} {p : Addr} {xs : List α} (ha : EV K M ta σ B L rRef p L1) (hc : L1[n]? = some ⟨p, cLst r, xs⟩) : EV K M (tCB (rLen K) (tCons ta tNil)) σ B L rInt (xs.length : Int) L1 :=
  ev_cb1 ha fun B1 H1 x Q w hx q => by
    obtain ⟨⟨o, h1, vs, h2, hv⟩, _⟩ := w.at hc
    have h1 : H1 p = some o := h1
    exact ⟨p, vs, congrArg (fun z => [z]) hx, .inl (sq_of (by rw [h1, h2])), q _ (by rw [paired_len hv]; rfl)⟩
theorem ev_abs (ha : EV K M ta σ B L rInt i L1) : EV K M (tCB (fun xs H Q => ∃ i, xs = [.int i] ∧ Q (.int (if i < 0 then -i else i)) H) (tCons ta tNil)) σ B L rInt (if i < 0 then -i else i) L1 :=
  ev_cb1 ha fun B1 H1 x Q w hx q => ⟨i, congrArg (fun z => [z]) hx, q _ rfl⟩
def rInt1 : List V → Hp → VK → Prop := fun xs H Q => (∃ i, xs = [.int i] ∧ Q (.int i) H) ∨ ∃ k, xs = [.bl k] ∧ Q (.int (if k then 1 else 0)) H
theorem ev_intI (ha : EV K M ta σ B L rInt i L1) : EV K M (tCB rInt1 (tCons ta tNil)) σ B L rInt i L1 := ev_cb1 ha fun B1 H1 x Q w hx q => .inl ⟨i, congrArg (fun z => [z]) hx, q _ rfl⟩
theorem ev_intB (ha : EV K M ta σ B L rBool b L1) : EV K M (tCB rInt1 (tCons ta tNil)) σ B L rInt (if b then 1 else 0) L1 := ev_cb1 ha fun B1 H1 x Q w hx q => .inr ⟨b, congrArg (fun z => [z]) hx, q _ rfl⟩
theorem ev_gcd (ha : EV K M ta σ B L rInt i L1) (hb : EV K M tb σ B L1 rInt j L2) : EV K M (tCB rGcd (tCons ta (tCons tb tNil))) σ B L rInt ((Nat.gcd i.natAbs j.natAbs : Nat) : Int) L2 :=
  ev_cb (ea_cons ha (ea_cons hb ea_nil)) fun B1 H1 vs Q w hv q => by
    match vs, hv with
    | [_, _], ⟨h1, h2, _⟩ => exact ⟨i, j, by rw [show _ = V.int i from h1, show _ = V.int j from h2], q _ rfl⟩
/-! ### tests, and, or, not -/
theorem et_test (h : EV K M te σ B L rBool b L') : ET K M (tTest te) σ B L b L' := fun B1 H e w Q q => h B1 H e w _ fun v B2 H2 e2 w2 hv => ⟨b, hv, q B2 H2 e2 w2⟩
theorem et_B (h : EV K M te σ B L rBool b L') : ET K M (tB te) σ B L b L' := fun B1 H e w Q q => h B1 H e w _ fun v B2 H2 e2 w2 hv => ⟨b, hv, q B2 H2 e2 w2⟩
theorem et_not (h : ET K M tt σ B L b L') : ET K M (tNot tt) σ B L (!b) L' := fun B1 H e w Q q => h B1 H e w _ fun B2 H2 e2 w2 => q B2 H2 e2 w2
theorem et_and {b c : Bool} (h1 : ET K M tt σ B L b L1) (h2 : b = true → ET K M tu σ B L1 c L1) : ET K M (tAnd tt tu) σ B L (b && c) L1 := fun B1 H e w Q q => h1 B1 H e w _ fun B2 H2 e2 w2 => by
  cases b with
  | true => exact h2 rfl B2 H2 (e.trans e2) w2 Q fun B3 H3 e3 w3 => q B3 H3 (e2.trans e3) w3
  | false => exact q B2 H2 e2 w2
theorem et_or {b c : Bool} (h1 : ET K M tt σ B L b L1) (h2 : b = false → ET K M tu σ B L1 c L1) : ET K M (tOr tt tu) σ B L (b || c) L1 := fun B1 H e w Q q => h1 B1 H e w _ fun B2 H2 e2 w2 => by
  cases b with
  | true => exact q B2 H2 e2 w2
  | false => exact h2 rfl B2 H2 (e.trans e2) w2 Q fun B3 H3 e3 w3 => q B3 H3 (e2.trans e3) w3
/-- where the right side changes things -/
theorem et_and' {b d : Bool} (h1 : ET K M tt σ B L b L1) (h2 : b = true → ET K M tu σ B L1 d L2) (h3 : b = false → d = false ∧ L2 = L1) : ET K M (tAnd tt tu) σ B L d L2 := fun B1 H e w Q q => h1 B1 H e w _ fun B2 H2 e2 w2 => by
  cases b with
  | true => exact h2 rfl B2 H2 (e.trans e2) w2 Q fun B3 H3 e3 w3 => q B3 H3 (e2.trans e3) w3
  | false => obtain ⟨rfl, rfl⟩ := h3 rfl; exact q B2 H2 e2 w2
theorem et_or' {b d : Bool} (h1 : ET K M tt σ B L b L1) (h2 : b = false → ET K M tu σ B L1 d L2) (h3 : b = true → d = true ∧ L2 = L1) : ET K M (tOr tt tu) σ B L d L2 := fun B1 H e w Q q => h1 B1 H e w _ fun B2 H2 e2 w2 => by
  cases b with
  | true => obtain ⟨rfl, rfl⟩ := h3 rfl; exact q B2 H2 e2 w2
  | false => exact h2 rfl B2 H2 (e.trans e2) w2 Q fun B3 H3 e3 w3 => q B3 H3 (e2.trans e3) w3
theorem ev_andV {b d : Bool} (h1 : EV K M ta σ B L rBool b L1) (h2 : b = true → EV K M tb σ B L1 rBool d L2) (h3 : b = false → d = false ∧ L2 = L1) : EV K M (tAndV ta tb) σ B L rBool d L2 := fun B1 H e w Q q => h1 B1 H e w _ fun x B2 H2 e2 w2 hx => ⟨b, hx, by
  cases b with
  | true => exact h2 rfl B2 H2 (e.trans e2) w2 Q fun v B3 H3 e3 w3 hv => q v B3 H3 (e2.trans e3) w3 hv
  | false => obtain ⟨rfl, rfl⟩ := h3 rfl; exact q _ B2 H2 e2 w2 rfl⟩
theorem ev_orV {b d : Bool} (h1 : EV K M ta σ B L rBool b L1) (h2 : b = false → EV K M tb σ B L1 rBool d L2) (h3 : b = true → d = true ∧ L2 = L1) : EV K M (tOrV ta tb) σ B L rBool d L2 := fun B1 H e w Q q => h1 B1 H e w _ fun x B2 H2 e2 w2 hx => ⟨b, hx, by
  cases b with
  | true => obtain ⟨rfl, rfl⟩ := h3 rfl; exact q _ B2 H2 e2 w2 rfl
  | false => exact h2 rfl B2 H2 (e.trans e2) w2 Q fun v B3 H3 e3 w3 hv => q v B3 H3 (e2.trans e3) w3 hv⟩
theorem ev_notV (h : EV K M ta σ B L rBool b L1) : EV K M (tNotV ta) σ B L rBool (!b) L1 := fun B1 H e w Q q => h B1 H e w _ fun x B2 H2 e2 w2 hx => ⟨b, hx, q _ B2 H2 e2 w2 rfl⟩
theorem ev_if {a : α} (h : ET K M tt σ B L b L1) (h1 : b = true → EV K M ta σ B L1 r a L2) (h2 : b = false → EV K M tb σ B L1 r a L2) : EV K M (tIf tt ta tb) σ B L r a L2 := fun B1 H e w Q q => h B1 H e w _ fun B2 H2 e2 w2 => by
  cases b with
  | true => exact h1 rfl B2 H2 (e.trans e2) w2 Q fun v B3 H3 e3 w3 hv => q v B3 H3 (e2.trans e3) w3 hv
  | false => exact h2 rfl B2 H2 (e.trans e2) w2 Q fun v B3 H3 e3 w3 hv => q v B3 H3 (e2.trans e3) w3 hv
end
end L3

namespace L3
open PySem L2
open Evl (Ex ex_rd ex_l ex_t sq_of st_of fresh_back)

/-! ### promises -/
def spV (K : Fg) (T : List Addr) (C : List Arg → List Cell → Arg → List Cell → Prop) : Sp := fun vs H Q _ => ∃ B M L as r L', M.T = T ∧ Own K B M L H ∧ ArgsIs K B vs as ∧ C as L r L' ∧
  ∀ v B' H', Ex B B' → Own K B' M L' H' → r.is K B' v → Q v H'
theorem args_len {K : Fg} {B : Hp} : ∀ {vs : List V} {as : List Arg}, ArgsIs K B vs as → vs.length = as.length
  | [], [], _ => rfl
  | _ :: _, _ :: _, h => congrArg (· + 1) (args_len h.2)
  | [], _ :: _, h => h.elim
  | _ :: _, [], h => h.elim
theorem FnScope.of {N ps : List Str} {sc : Scope} (h1 : sc.kind = .function) (h2 : sc.isCoroutine = false) (h3 : sc.isGenerator = false) (h : FnScope N ps sc) : FnScope N ps sc := h

section
variable {K : Fg} {M : Fr} {σ : St} {B : Hp} {L L1 L2 L' : List Cell} {α β γ δ : Type} {r : Rep α} {s : Rep β} {t : Rep γ} {ta tb tc te : TE} {tt tu : TT} {tA : TA} {i j k : Int} {b c : Bool}
theorem nodup_one {x : Cell} : ([x].map (·.p)).Nodup := by simp
/-- a def that changes nothing of ours -/
theorem ev_call {C : List Arg → List Cell → Arg → List Cell → Prop} {E : XK} {as : List Arg} {a : α} (ha : EA K M tA σ B L as L1) (h : C as [] ⟨r, a⟩ []) : EV K M (tCall (spV K M.T C) [] E tA) σ B L r a L1 := fun B1 H e w Q q =>
  ha B1 H e w _ fun vs B2 H2 e2 w2 hv => by
    show spV K M.T C (vs ++ []) H2 Q E
    rw [List.append_nil]
    refine ⟨B2, absorb M L1 H2, [], as, ⟨r, a⟩, [], rfl, w2.lend (L1 := []) (L2 := L1) (fun _ h => absurd h (by simp)) (fun _ h => h) (by simp) (fun _ h => absurd h (by simp)), hv, h, fun v B' H' e3 w3 hr => ?_⟩
    exact q v B' H' (e2.trans e3) (w2.back (L1' := []) (fun _ h => h) w2.nd e3 w3 (fun _ h => absurd h (by simp))) hr
theorem erase_mem {x : Cell} {n : Nat} (w : (L.map (·.p)).Nodup) (h : L[n]? = some x) : x.p ∉ (L.eraseIdx n).map (·.p) := fun hm => by
  obtain ⟨y, hy, e⟩ := List.mem_map.mp hm
  obtain ⟨j, hj, hne⟩ := List.mem_eraseIdx_iff_getElem?.mp hy
  exact hj (nodup_at w (by rw [List.getElem?_map, hne]; rfl) (by rw [List.getElem?_map, h]; exact congrArg some e.symm))
theorem set_perm {x x' : Cell} {n : Nat} (h : L[n]? = some x) : ∀ y ∈ L.set n x', y ∈ x' :: L.eraseIdx n := fun y hy => by
  obtain ⟨m, hm⟩ := List.getElem?_of_mem hy
  by_cases e : n = m
  · subst e
    rw [List.getElem?_set_self (List.getElem?_eq_some_iff.mp h).1] at hm
    cases hm
    exact List.mem_cons_self
  · rw [List.getElem?_set_ne e] at hm
    exact List.mem_cons_of_mem _ (List.mem_eraseIdx_iff_getElem?.mpr ⟨m, Ne.symm e, hm⟩)
theorem set_keys {x x' : Cell} {n : Nat} (h : L[n]? = some x) (hp : x'.p = x.p) : (L.set n x').map (·.p) = L.map (·.p) := by
  rw [List.map_set, hp]
  refine List.ext_getElem? fun j => ?_
  by_cases hij : n = j
  · subst hij
    have hl : n < (L.map (·.p)).length := by rw [List.length_map]; exact (List.getElem?_eq_some_iff.mp h).1
    rw [List.getElem?_set_self hl, List.getElem?_map, h]; rfl
  · rw [List.getElem?_set_ne hij]
/-- a def that changes the one at n -/
theorem ev_callC {C : List Arg → List Cell → Arg → List Cell → Prop} {E : XK} {as : List Arg} {a : α} (n : Nat) {x x' : Cell} (ha : EA K M tA σ B L as L1) (hx : L1[n]? = some x) (h : C as [x] ⟨r, a⟩ [x']) (hp : x'.p = x.p) : EV K M (tCall (spV K M.T C) [] E tA) σ B L r a (L1.set n x') := fun B1 H e w Q q =>
  ha B1 H e w _ fun vs B2 H2 e2 w2 hv => by
    show spV K M.T C (vs ++ []) H2 Q E
    rw [List.append_nil]
    have nd := w2.nd
    have hn := erase_mem nd hx
    have sub : ∀ y ∈ L1.eraseIdx n, y ∈ L1 := fun y hy => List.mem_of_mem_eraseIdx hy
    refine ⟨B2, absorb M (L1.eraseIdx n) H2, [x], as, ⟨r, a⟩, [x'], rfl, w2.lend (L1 := [x]) (L2 := L1.eraseIdx n) (fun y h => by rw [List.mem_singleton.mp h]; exact List.mem_of_getElem? hx) sub nodup_one (fun y h => by rw [List.mem_singleton.mp h]; exact hn), hv, h, fun v B' H' e3 w3 hr => ?_⟩
    have w4 : Own K B' M ([x'] ++ L1.eraseIdx n) H' := w2.back (L1' := [x']) sub (nd.sublist ((List.eraseIdx_sublist L1 n).map _)) e3 w3 (fun y h => by rw [List.mem_singleton.mp h, hp]; exact hn)
    exact q v B' H' (e2.trans e3) (w4.perm (set_perm hx) (by rw [set_keys hx hp]; exact nd)) hr

/-! ### statements -/
variable {D : Ends} {tz t1 t2 : TS} {H : Hp}
theorem q_asg {n : Nat} {a : α} (w : Own K B M L H) (h : EV K M te σ B L r a L') (q : ∀ v B' H', Ex B B' → Own K B' M L' H' → r.is K B' v a → tz D (σ.set n (some v)) H') : tSeq (tAsg te (gName n)) tz D σ H := h B H (Ex.refl _) w _ q
theorem q_asgL {n : Nat} {as : List α} (w : Own K B M L H) (h : EVL K M te σ B L r as L') (q : ∀ p B' H', Ex B B' → Own K B' M (⟨p, cLst r, as⟩ :: L') H' → tz D (σ.set n (some (.ref p))) H') : tSeq (tAsg te (gName n)) tz D σ H := h B H (Ex.refl _) w _ q
theorem q_drop {a : α} (w : Own K B M L H) (h : EV K M te σ B L r a L') (q : ∀ B' H', Ex B B' → Own K B' M L' H' → tz D σ H') : tSeq (tDrop te) tz D σ H := h B H (Ex.refl _) w _ fun _ B' H' e w' _ => q B' H' e w'
theorem q_ret {a : α} (w : Own K B M L H) (h : EV K M te σ B L r a L') (q : ∀ v B' H', Ex B B' → Own K B' M L' H' → r.is K B' v a → D.rt v H') : tSeq (tRet te) tz D σ H := h B H (Ex.refl _) w _ q
theorem q_retN (w : Own K B M L H) (q : D.rt .non H) : tSeq tRetN tz D σ H := q
/-- a list of ours goes out -/
theorem q_retC {n m : Nat} {p : Addr} {as : List α} (w : Own K B M L H) (hs : σ[m]? = some (some (.ref p))) (hc : L[n]? = some ⟨p, cLst r, as⟩) (q : ∀ v B', Ex B B' → Own K B' M (L.eraseIdx n) H → (rLst r).is K B' v as → D.rt v H) : tSeq (tRet (tVar m)) tz D σ H := by
  obtain ⟨o, h1, ⟨xs, h2, h3⟩, h4, w'⟩ := w.freeze hc
  have h4 : B p = none := h4
  refine ⟨_, hs, q _ _ (Ex.new h4) w' ⟨p, xs, rfl, ?_, paired_mono (Ex.new h4) h3⟩⟩
  show upd B p o p = _
  rw [upd_same, h2]
theorem q_if (w : Own K B M L H) (h : ET K M tt σ B L b L') (h1 : b = true → ∀ B' H', Ex B B' → Own K B' M L' H' → t1 { D with nx := tz D } σ H') (h2 : b = false → ∀ B' H', Ex B B' → Own K B' M L' H' → t2 { D with nx := tz D } σ H') : tSeq (tIfS tt t1 t2) tz D σ H :=
  h B H (Ex.refl _) w _ fun B' H' e w' => by
    cases b with
    | true => exact h1 rfl B' H' e w'
    | false => exact h2 rfl B' H' e w'
theorem q_ifc (w : Own K B M L H) (h : ET K M tt σ B L b L') (h1 : b = true → ∀ B' H', Ex B B' → Own K B' M L' H' → t1 D σ H') (h2 : b = false → ∀ B' H', Ex B B' → Own K B' M L' H' → t2 D σ H') : tIfS tt t1 t2 D σ H :=
  h B H (Ex.refl _) w _ fun B' H' e w' => by
    cases b with
    | true => exact h1 rfl B' H' e w'
    | false => exact h2 rfl B' H' e w'
theorem q_cut {t : TS} (Mid : St → Hp → Prop) (h : t { D with nx := Mid } σ H) (k : ∀ σ' H', Mid σ' H' → tz D σ' H') : Evl.tCut t tz D σ H := ⟨Mid, h, k⟩
theorem q_app {n m : Nat} {p : Addr} {as : List α} {a : α} (w : Own K B M L H) (hs : σ[m]? = some (some (.ref p))) (h : EV K M te σ B L r a L') (hc : L'[n]? = some ⟨p, cLst r, as⟩) (hc0 : ∃ n0 : Nat, ∃ a0 : List α, L[n0]? = some ⟨p, cLst r, a0⟩) (hr : room as.length = some ())
    (q : ∀ B' H', Ex B B' → Own K B' M (L'.set n ⟨p, cLst r, as ++ [a]⟩) H' → tz D σ H') : tSeq (tDrop (tBM K "list" rAppend (tVar m) (tCons te tNil))) tz D σ H := by
  obtain ⟨n0, a0, hc0⟩ := hc0
  obtain ⟨⟨o, h1, ys, h2, h3⟩, _⟩ := w.at hc0
  have h1 : H p = some o := h1
  refine ⟨_, hs, .inl ⟨rfl, _, sq_of (xs := ys) (by rw [h1, h2])⟩, h B H (Ex.refl _) w _ fun v B' H' e w' hv => ?_⟩
  obtain ⟨⟨o', g1, xs, g2, g3⟩, _⟩ := w'.at hc
  have g1 : H' p = some o' := g1
  exact ⟨p, xs, v, rfl, rfl, by rw [g1, g2], by rw [paired_len g3]; exact room_some hr, q B' _ e (w'.set hc ⟨_, rfl, paired_app g3 (.cons hv .nil)⟩)⟩
/-- l[i] = e -/
theorem q_setC {n m : Nat} {p : Addr} {as : List α} {a : α} {l : Nat} (w : Own K B M L H) (h : EV K M te σ B L r a L1) (hs : σ[m]? = some (some (.ref p))) (hb : EV K M tb σ B L1 rInt i L2) (hc : L2[n]? = some ⟨p, cLst r, as⟩) (hi : ixN as.length i = some l)
    (q : ∀ B' H', Ex B B' → Own K B' M (L2.set n ⟨p, cLst r, as.set l a⟩) H' → tz D σ H') : tSeq (tAsg te (gSub (tVar m) tb rSetL)) tz D σ H :=
  h B H (Ex.refl _) w _ fun v B1 H1 e1 w1 hv => ⟨_, hs, hb B1 H1 e1 w1 _ fun y B2 H2 e2 w2 hy => by
    obtain ⟨⟨o', g1, xs, g2, g3⟩, _⟩ := w2.at hc
    have g1 : H2 p = some o' := g1
    refine ⟨p, xs, i, l, rfl, hy, by rw [g1, g2], by rw [paired_len g3]; exact hi, q B2 _ (e1.trans e2) (w2.set hc ⟨_, rfl, paired_set (r.mono e2 hv) l g3⟩)⟩⟩
/-- l[1] = e of a list [u, v] -/
theorem q_set1 {n m : Nat} {p : Addr} {a : α × β} {x : β} (w : Own K B M L H) (h : EV K M te σ B L s x L1) (hs : σ[m]? = some (some (.ref p))) (hc : L1[n]? = some ⟨p, cL2 r s, a⟩)
    (q : ∀ B' H', Ex B B' → Own K B' M (L1.set n ⟨p, cL2 r s, (a.1, x)⟩) H' → tz D σ H') : tSeq (tAsg te (gSub (tVar m) (tC (.int 1)) rSetL)) tz D σ H :=
  h B H (Ex.refl _) w _ fun v B1 H1 e1 w1 hv => ⟨_, hs, by
    obtain ⟨⟨o', g1, x0, x1, g2, g3, g4⟩, _⟩ := w1.at hc
    have g1 : H1 p = some o' := g1
    exact ⟨p, [x0, x1], 1, 1, rfl, rfl, by rw [g1, g2], rfl, q B1 _ e1 (w1.set hc ⟨x0, v, rfl, g3, hv⟩)⟩⟩
theorem ev_l2fst {n m : Nat} {p : Addr} {a : α × β} (hs : σ[m]? = some (some (.ref p))) (hc : L[n]? = some ⟨p, cL2 r s, a⟩) : EV K M (tOp (rIx K) (tVar m) (tC (.int 0))) σ B L r a.1 L := fun B1 H e w Q q => by
  obtain ⟨⟨o', g1, x0, x1, g2, g3, g4⟩, _⟩ := w.at hc
  have g1 : H p = some o' := g1
  exact ⟨_, hs, .inl ⟨p, [x0, x1], 0, x0, rfl, rfl, sq_of (by rw [g1, g2]), rfl, q _ B1 H (Ex.refl _) w g3⟩⟩
theorem ev_l2snd {n m : Nat} {p : Addr} {a : α × β} (hs : σ[m]? = some (some (.ref p))) (hc : L[n]? = some ⟨p, cL2 r s, a⟩) : EV K M (tOp (rIx K) (tVar m) (tC (.int 1))) σ B L s a.2 L := fun B1 H e w Q q => by
  obtain ⟨⟨o', g1, x0, x1, g2, g3, g4⟩, _⟩ := w.at hc
  have g1 : H p = some o' := g1
  exact ⟨_, hs, .inl ⟨p, [x0, x1], 1, x1, rfl, rfl, sq_of (by rw [g1, g2]), rfl, q _ B1 H (Ex.refl _) w g4⟩⟩
/-- a new list [u, v] -/
theorem q_asgL2 {n : Nat} {a : α} {b : β} (w : Own K B M L H) (h : EA K M tA σ B L [⟨r, a⟩, ⟨s, b⟩] L') (q : ∀ p B' H', Ex B B' → Own K B' M (⟨p, cL2 r s, (a, b)⟩ :: L') H' → tz D (σ.set n (some (.ref p))) H') : tSeq (tAsg (tLst tA) (gName n)) tz D σ H :=
  h B H (Ex.refl _) w _ fun vs B' H' e w' hv => by
    match vs, hv with
    | [_, _], ⟨h1, h2, _⟩ => exact ⟨by show 2 ≤ sizeLine; decide, fun p hp => q p B' _ e (w'.new hp ⟨_, _, rfl, h1, h2⟩)⟩
theorem q_par {n m : Nat} {a : α} {b : β} (w : Own K B M L H) (h : EA K M tA σ B L [⟨r, a⟩, ⟨s, b⟩] L') (q : ∀ u v B' H', Ex B B' → Own K B' M L' H' → r.is K B' u a → s.is K B' v b → tz D ((σ.set n (some u)).set m (some v)) H') : tSeq (tPar n m tA) tz D σ H :=
  h B H (Ex.refl _) w _ fun vs B' H' e w' hv => by
    match vs, hv with
    | [_, _], ⟨h1, h2, _⟩ => exact ⟨_, _, rfl, q _ _ B' H' e w' h1 h2⟩

/-! ### loops -/
inductive Stp (S R : Type) where
  | nx (s : S)
  | bk (s : S)
  | rt (r : R)
def loopM {S R α : Type} (f : S → α → Option (Stp S R)) : S → List α → Option (Stp S R)
  | s, [] => some (.nx s)
  | s, x :: xs => match f s x with
    | some (.nx s') => loopM f s' xs
    | o => o
def foldO {S α : Type} (f : S → α → Option S) : S → List α → Option S
  | s, [] => some s
  | s, x :: xs => match f s x with
    | some s' => foldO f s' xs
    | none => none
theorem loop_fold {S R α : Type} (f : S → α → Option S) : ∀ (xs : List α) (s : S), loopM (R := R) (fun s x => (f s x).map Stp.nx) s xs = (foldO f s xs).map Stp.nx
  | [], _ => rfl
  | x :: xs, s => by
    unfold loopM foldO
    cases f s x with
    | none => rfl
    | some s' => exact loop_fold f xs s'
/-- what is walked: xs, item by item, whatever is ours -/
structure Wk (K : Fg) (M : Fr) (J : It) (B : Hp) (r : Rep α) (xs : List α) : Prop where
  go : ∀ (i : Nat) a B' L' H', Ex B B' → Own K B' M L' H' → xs[i]? = some a → J.go i H' ∧ ∀ x H2, J.yld i H' x H2 → ∃ B2, Ex B' B2 ∧ Own K B2 M L' H2 ∧ r.is K B2 x a
  stop : ∀ B' L' H', Ex B B' → Own K B' M L' H' → J.stop xs.length H'
def EI (K : Fg) (M : Fr) (wi : TI) (σ : St) (B : Hp) (L : List Cell) (r : Rep α) (xs : List α) (L' : List Cell) : Prop :=
  ∀ B1 H, Ex B B1 → Own K B1 M L H → ∀ R : It → Hp → Prop, (∀ J B2 H2, Ex B1 B2 → Own K B2 M L' H2 → Wk K M J B2 r xs → R J H2) → wi σ H R
theorem ei_tup {xs : List α} (h : EV K M te σ B L (rTup r) xs L') : EI K M (iTup K te) σ B L r xs L' := fun B1 H e w R q => h B1 H e w _ fun v B2 H2 e2 w2 hv => by
  obtain ⟨p, vs, rfl, hs, hp⟩ := hv
  refine ⟨p, rfl, ⟨vs, ex_t w2.b hs⟩, q _ B2 H2 e2 w2 ⟨fun i a B' L' H' e' w' hi => ?_, fun B' L' H' e' w' => ⟨vs, ex_t (e'.trans w'.b) hs, by rw [paired_len hp]; exact Nat.le_refl _⟩⟩⟩
  obtain ⟨x, hx, hr⟩ := paired_get hp hi
  refine ⟨⟨vs, x, ex_t (e'.trans w'.b) hs, hx⟩, fun y H3 hy => ?_⟩
  obtain ⟨rfl, hy⟩ := hy
  have := hy vs (ex_t (e'.trans w'.b) hs)
  rw [hx] at this
  cases this
  exact ⟨B', Ex.refl _, w', r.mono e' hr⟩
theorem ei_scr {xs : List α} (h : EV K M te σ B L (rScr r) xs L') : EI K M (iList K te) σ B L r xs L' := fun B1 H e w R q => h B1 H e w _ fun v B2 H2 e2 w2 hv => by
  obtain ⟨p, vs, rfl, hs, hp⟩ := hv
  refine ⟨p, rfl, ⟨vs, ex_l w2.b hs⟩, q _ B2 H2 e2 w2 ⟨fun i a B' L' H' e' w' hi => ?_, fun B' L' H' e' w' => ⟨vs, ex_l (e'.trans w'.b) hs, by rw [paired_len hp]; exact Nat.le_refl _⟩⟩⟩
  obtain ⟨x, hx, hr⟩ := paired_get hp hi
  refine ⟨⟨vs, x, ex_l (e'.trans w'.b) hs, hx⟩, fun y H3 hy => ?_⟩
  obtain ⟨rfl, hy⟩ := hy
  have := hy vs (ex_l (e'.trans w'.b) hs)
  rw [hx] at this
  cases this
  exact ⟨B', Ex.refl _, w', r.mono e' hr⟩
theorem ei_lst {xs : List α} (h : EV K M te σ B L (rLst r) xs L') : EI K M (iList K te) σ B L r xs L' := ei_scr (ev_scr h)
/-- lo, lo + 1, .. below hi -/
def rng (lo hi : Int) : List Int := (List.range (hi - lo).toNat).map fun (k : Nat) => lo + (k : Int)
theorem rng_len (lo hi : Int) : (rng lo hi).length = (hi - lo).toNat := by simp [rng]
theorem rng_get {lo hi : Int} {i : Nat} {a : Int} (h : (rng lo hi)[i]? = some a) : i < (hi - lo).toNat ∧ a = lo + (i : Int) := by
  unfold rng at h
  rw [List.getElem?_map] at h
  cases e : (List.range (hi - lo).toNat)[i]? with
  | none => rw [e] at h; cases h
  | some k =>
    rw [e] at h
    obtain ⟨h1, h2⟩ := List.getElem?_eq_some_iff.mp e
    rw [List.getElem_range] at h2
    rw [List.length_range] at h1
    subst h2
    exact ⟨h1, (Option.some.inj h).symm⟩
def small62 (i : Int) : Option Unit := if -(2 ^ 62) ≤ i ∧ i < 2 ^ 62 then some () else none
theorem small62_some {u : Unit} (h : small62 i = some u) : -(2 ^ 62) ≤ i ∧ i < 2 ^ 62 := by
  unfold small62 at h
  split at h
  · assumption
  · cases h
theorem wk_rng {lo hi : Int} : Wk K M (Itr lo (hi - lo).toNat) B rInt (rng lo hi) :=
  ⟨fun i a B' L' H' e' w' hi => by
    obtain ⟨h1, rfl⟩ := rng_get hi
    exact ⟨h1, fun x H2 hy => ⟨B', Ex.refl _, by rw [hy.1]; exact w', hy.2⟩⟩, fun B' L' H' e' w' => by rw [rng_len]; exact Nat.le_refl _⟩
theorem ei_rng1 (h : EA K M tA σ B L [⟨rInt, j⟩] L') (hj : small62 j = some ()) : EI K M (iRng1 tA) σ B L rInt (rng 0 j) L' := fun B1 H e w R q => h B1 H e w _ fun vs B2 H2 e2 w2 hv => by
  match vs, hv with
  | [_], ⟨h1, _⟩ =>
    refine ⟨j, by rw [show _ = V.int j from h1], (small62_some hj).1, (small62_some hj).2, q _ B2 H2 e2 w2 ?_⟩
    have := wk_rng (K := K) (M := M) (B := B2) (lo := 0) (hi := j)
    rw [show j - 0 = j by omega] at this
    exact this
theorem ei_rng2 (h : EA K M tA σ B L [⟨rInt, i⟩, ⟨rInt, j⟩] L') (hi : small62 i = some ()) (hj : small62 j = some ()) : EI K M (iRng2 tA) σ B L rInt (rng i j) L' := fun B1 H e w R q => h B1 H e w _ fun vs B2 H2 e2 w2 hv => by
  match vs, hv with
  | [_, _], ⟨h1, h2, _⟩ => exact ⟨i, j, by rw [show _ = V.int i from h1, show _ = V.int j from h2], ⟨(small62_some hi).1, (small62_some hi).2, (small62_some hj).1, (small62_some hj).2⟩, q _ B2 H2 e2 w2 wk_rng⟩

theorem loopM_drop {S R : Type} {f : S → α → Option (Stp S R)} {s s' : S} {xs : List α} {i : Nat} {a : α} (h : xs[i]? = some a) : loopM f s (xs.drop i) = (match f s a with | some (.nx s') => loopM f s' (xs.drop (i + 1)) | o => o) := by
  obtain ⟨h1, h2⟩ := List.getElem?_eq_some_iff.mp h
  rw [List.drop_eq_getElem_cons h1, h2]
  rfl
theorem q_for {S R : Type} {wi : TI} {g : TG} {tb : TS} {xs : List α} (w : Own K B M L H) (hi : EI K M wi σ B L r xs L1) (f : S → α → Option (Stp S R)) (P : S → Hp → St → Prop) (Lf : S → List Cell) (s0 : S) {o : Stp S R} (hm : loopM f s0 xs = some o)
    (h0 : ∀ B', Ex B B' → P s0 B' σ) (hL : Lf s0 = L1)
    (hs : ∀ s x st v B0 B' H' σ', f s x = some st → Ex B B0 → P s B0 σ' → Ex B0 B' → Own K B' M (Lf s) H' → r.is K B' v x → (∀ q, st = .rt q → o = .rt q) → ∀ (N : St → Hp → Prop) (BK : St → Hp → Prop),
      (∀ s3 B3 H3 σ3, st = .nx s3 → Ex B' B3 → Own K B3 M (Lf s3) H3 → P s3 B3 σ3 → N σ3 H3) → (∀ s3 B3 H3 σ3, st = .bk s3 → Ex B' B3 → Own K B3 M (Lf s3) H3 → P s3 B3 σ3 → BK σ3 H3) →
      g v σ' H' fun σ2 H2 => tb { D with nx := N, ct := N, bk := BK } σ2 H2)
    (hd : ∀ s B' H' σ', (o = .nx s ∨ o = .bk s) → Ex B B' → Own K B' M (Lf s) H' → P s B' σ' → tz D σ' H') : tSeq (tFor wi g tb) tz D σ H :=
  hi B H (Ex.refl _) w _ fun J B1 H1 e1 w1 k => by
    refine ⟨fun i m σ' H' => m = xs.length - i ∧ i ≤ xs.length ∧ ∃ s B', Ex B1 B' ∧ Own K B' M (Lf s) H' ∧ P s B' σ' ∧ loopM f s (xs.drop i) = some o, ⟨xs.length, by simp, Nat.zero_le _, s0, B1, Ex.refl _, by rw [hL]; exact w1, h0 B1 e1, hm⟩, ?_⟩
    rintro i m σ' H' ⟨rfl, hle, s, B', e', w', hP, hl⟩
    by_cases hlt : i < xs.length
    · right
      obtain ⟨a, ha⟩ : ∃ a, xs[i]? = some a := ⟨xs[i], List.getElem?_eq_getElem hlt⟩
      obtain ⟨hgo, hy⟩ := k.go i a B' _ H' e' w' ha
      rw [loopM_drop (s' := s) ha] at hl
      cases hst : f s a with
      | none => rw [hst] at hl; cases hl
      | some st =>
        rw [hst] at hl
        refine ⟨hgo, fun σ3 H3 => ∃ s3 B3, st = .nx s3 ∧ Ex B1 B3 ∧ Own K B3 M (Lf s3) H3 ∧ P s3 B3 σ3, fun σ3 H3 ⟨s3, B3, e3, a1, a2, a3⟩ => ?_, fun x H2 hy2 => ?_⟩
        · subst e3
          exact ⟨_, (by omega : xs.length - (i + 1) < xs.length - i), rfl, hlt, s3, B3, a1, a2, a3, hl⟩
        · obtain ⟨B2, e2, w2, hr⟩ := hy x H2 hy2
          refine hs s a st x B' B2 H2 σ' hst (e1.trans e') hP e2 w2 hr (fun q e => by rw [e] at hl; exact (Option.some.inj hl).symm) _ _ (fun s3 B3 H3 σ3 e3 e4 w3 p3 => ⟨s3, B3, e3, (e'.trans e2).trans e4, w3, p3⟩) (fun s3 B3 H3 σ3 e3 e4 w3 p3 => ?_)
          rw [e3] at hl
          exact hd s3 B3 H3 σ3 (.inr (Option.some.inj hl).symm) (((e1.trans e').trans e2).trans e4) w3 p3
    · left
      have : i = xs.length := by omega
      subst this
      rw [List.drop_length] at hl
      have ho : o = .nx s := (Option.some.inj hl).symm
      exact ⟨k.stop B' _ H' e' w', hd s B' H' σ' (.inl ho) (e1.trans e') w' hP⟩
end
end L3

namespace L3
open PySem L2
open Evl (Ex ex_rd ex_l ex_t sq_of st_of fresh_back)

theorem args1 {K : Fg} {B : Hp} {vs : List V} {x : Arg} (h : ArgsIs K B vs [x]) : ∃ u, vs = [u] ∧ x.is K B u := by
  match vs, h with
  | [_], ⟨h1, _⟩ => exact ⟨_, rfl, h1⟩
theorem args2 {K : Fg} {B : Hp} {vs : List V} {x y : Arg} (h : ArgsIs K B vs [x, y]) : ∃ u v, vs = [u, v] ∧ x.is K B u ∧ y.is K B v := by
  match vs, h with
  | [_, _], ⟨h1, h2, _⟩ => exact ⟨_, _, rfl, h1, h2⟩
theorem args3 {K : Fg} {B : Hp} {vs : List V} {x y z : Arg} (h : ArgsIs K B vs [x, y, z]) : ∃ u v w, vs = [u, v, w] ∧ x.is K B u ∧ y.is K B v ∧ z.is K B w := by
  match vs, h with
  | [_, _, _], ⟨h1, h2, h3, _⟩ => exact ⟨_, _, _, rfl, h1, h2, h3⟩
theorem args4 {K : Fg} {B : Hp} {vs : List V} {x y z a : Arg} (h : ArgsIs K B vs [x, y, z, a]) : ∃ u v w t, vs = [u, v, w, t] ∧ x.is K B u ∧ y.is K B v ∧ z.is K B w ∧ a.is K B t := by
  match vs, h with
  | [_, _, _, _], ⟨h1, h2, h3, h4, _⟩ => exact ⟨_, _, _, _, rfl, h1, h2, h3, h4⟩
theorem args5 {K : Fg} {B : Hp} {vs : List V} {x y z a b : Arg} (h : ArgsIs K B vs [x, y, z, a, b]) : ∃ u v w t s, vs = [u, v, w, t, s] ∧ x.is K B u ∧ y.is K B v ∧ z.is K B w ∧ a.is K B t ∧ b.is K B s := by
  match vs, h with
  | [_, _, _, _, _], ⟨h1, h2, h3, h4, h5, _⟩ => exact ⟨_, _, _, _, _, rfl, h1, h2, h3, h4, h5⟩
theorem args6 {K : Fg} {B : Hp} {vs : List V} {x y z a b c : Arg} (h : ArgsIs K B vs [x, y, z, a, b, c]) : ∃ u v w t s r, vs = [u, v, w, t, s, r] ∧ x.is K B u ∧ y.is K B v ∧ z.is K B w ∧ a.is K B t ∧ b.is K B s ∧ c.is K B r := by
  match vs, h with
  | [_, _, _, _, _, _], ⟨h1, h2, h3, h4, h5, h6, _⟩ => exact ⟨_, _, _, _, _, _, rfl, h1, h2, h3, h4, h5, h6⟩
/-- a constant of the module -/
structure GV (K : Fg) (mg : Str → Option Value) (x : Str) {α : Type} (r : Rep α) (a : α) : Prop where
  ex : ∃ (u : Value) (v : V), mg x = some u ∧ RelV v u ∧ ∀ B, r.is K B v a
def absI (i : Int) : Int := if i < 0 then -i else i
def gcdI (i j : Int) : Int := ((Nat.gcd i.natAbs j.natAbs : Nat) : Int)
def ixO (n : Nat) (i : Int) : Option Nat := ixN n i

section
variable {K : Fg} {M : Fr} {σ : St} {B : Hp} {L L1 L2 L' : List Cell} {α β γ δ : Type} {r : Rep α} {s : Rep β} {t : Rep γ} {ta tb tc te : TE} {tt tu : TT} {tA : TA} {i j k : Int} {b c : Bool}
theorem ev_add (ha : EV K M ta σ B L rInt i L1) (hb : EV K M tb σ B L1 rInt j L2) : EV K M (tOp (rI0 fun i j => .int (i + j)) ta tb) σ B L rInt (i + j) L2 := ev_I0 (g := fun i j => i + j) ha hb
theorem ev_sub (ha : EV K M ta σ B L rInt i L1) (hb : EV K M tb σ B L1 rInt j L2) : EV K M (tOp (rI0 fun i j => .int (i - j)) ta tb) σ B L rInt (i - j) L2 := ev_I0 (g := fun i j => i - j) ha hb
theorem ev_bitand (ha : EV K M ta σ B L rInt i L1) (hb : EV K M tb σ B L1 rInt j L2) : EV K M (tOp (rI0 fun i j => .int (Builtin.bitAnd i j)) ta tb) σ B L rInt (Builtin.bitAnd i j) L2 := ev_I0 (g := fun i j => Builtin.bitAnd i j) ha hb
abbrev rLt : R2 := rI0 fun i j => .bl (decide (i < j))
abbrev rLe : R2 := rI0 fun i j => .bl (decide (i ≤ j))
abbrev rGt : R2 := rI0 fun i j => .bl (decide (j < i))
abbrev rGe : R2 := rI0 fun i j => .bl (decide (j ≤ i))
theorem ev_lt (ha : EV K M ta σ B L rInt i L1) (hb : EV K M tb σ B L1 rInt j L2) : EV K M (tOp rLt ta tb) σ B L rBool (decide (i < j)) L2 := ev_B0 (g := fun i j => decide (i < j)) ha hb
theorem ev_le (ha : EV K M ta σ B L rInt i L1) (hb : EV K M tb σ B L1 rInt j L2) : EV K M (tOp rLe ta tb) σ B L rBool (decide (i ≤ j)) L2 := ev_B0 (g := fun i j => decide (i ≤ j)) ha hb
theorem ev_gt (ha : EV K M ta σ B L rInt i L1) (hb : EV K M tb σ B L1 rInt j L2) : EV K M (tOp rGt ta tb) σ B L rBool (decide (i > j)) L2 := ev_B0 (g := fun i j => decide (j < i)) ha hb
theorem ev_ge (ha : EV K M ta σ B L rInt i L1) (hb : EV K M tb σ B L1 rInt j L2) : EV K M (tOp rGe ta tb) σ B L rBool (decide (i ≥ j)) L2 := ev_B0 (g := fun i j => decide (j ≤ i)) ha hb
theorem ev_ch {g g' : Int → Int → Bool} (ha : EV K M ta σ B L rInt i L1) (hb : EV K M tb σ B L1 rInt j L2) (hc : EV K M tc σ B L2 rInt k L2) : EV K M (tChain (rI0 fun i j => .bl (g i j)) (rI0 fun i j => .bl (g' i j)) ta tb tc) σ B L rBool (g i j && g' j k) L2 := fun B1 H e w Q q =>
  ha B1 H e w _ fun x B2 H2 e2 w2 hx => hb B2 H2 (e.trans e2) w2 _ fun y B3 H3 e3 w3 hy => ⟨i, j, hx, hy, g i j, rfl, by
    cases hg : g i j with
    | true => exact hc B3 H3 ((e.trans e2).trans e3) w3 _ fun z B4 H4 e4 w4 hz => ⟨j, k, hy, hz, q _ B4 H4 ((e2.trans e3).trans e4) w4 (by show V.bl _ = V.bl _; rw [hg]; rfl)⟩
    | false => exact q _ B3 H3 (e2.trans e3) w3 (by show V.bl _ = V.bl _; rw [hg]; rfl)⟩
theorem ev_ch_lt_lt (ha : EV K M ta σ B L rInt i L1) (hb : EV K M tb σ B L1 rInt j L2) (hc : EV K M tc σ B L2 rInt k L2) : EV K M (tChain rLt rLt ta tb tc) σ B L rBool (decide (i < j) && decide (j < k)) L2 := ev_ch (g := fun i j => decide (i < j)) (g' := fun i j => decide (i < j)) ha hb hc
theorem ev_ch_le_lt (ha : EV K M ta σ B L rInt i L1) (hb : EV K M tb σ B L1 rInt j L2) (hc : EV K M tc σ B L2 rInt k L2) : EV K M (tChain rLe rLt ta tb tc) σ B L rBool (decide (i ≤ j) && decide (j < k)) L2 := ev_ch (g := fun i j => decide (i ≤ j)) (g' := fun i j => decide (i < j)) ha hb hc
theorem ev_ch_lt_le (ha : EV K M ta σ B L rInt i L1) (hb : EV K M tb σ B L1 rInt j L2) (hc : EV K M tc σ B L2 rInt k L2) : EV K M (tChain rLt rLe ta tb tc) σ B L rBool (decide (i < j) && decide (j ≤ k)) L2 := ev_ch (g := fun i j => decide (i < j)) (g' := fun i j => decide (i ≤ j)) ha hb hc
theorem ev_ch_le_le (ha : EV K M ta σ B L rInt i L1) (hb : EV K M tb σ B L1 rInt j L2) (hc : EV K M tc σ B L2 rInt k L2) : EV K M (tChain rLe rLe ta tb tc) σ B L rBool (decide (i ≤ j) && decide (j ≤ k)) L2 := ev_ch (g := fun i j => decide (i ≤ j)) (g' := fun i j => decide (i ≤ j)) ha hb hc
theorem ev_and0 {d : Bool} (h1 : EV K M ta σ B L rBool b L1) (h2 : b = true → EV K M tb σ B L1 rBool d L1) : EV K M (tAndV ta tb) σ B L rBool (b && d) L1 := fun B1 H e w Q q => h1 B1 H e w _ fun x B2 H2 e2 w2 hx => ⟨b, hx, by
  cases b with
  | true => exact h2 rfl B2 H2 (e.trans e2) w2 Q fun v B3 H3 e3 w3 hv => q v B3 H3 (e2.trans e3) w3 hv
  | false => exact q _ B2 H2 e2 w2 rfl⟩
theorem ev_or0 {d : Bool} (h1 : EV K M ta σ B L rBool b L1) (h2 : b = false → EV K M tb σ B L1 rBool d L1) : EV K M (tOrV ta tb) σ B L rBool (b || d) L1 := fun B1 H e w Q q => h1 B1 H e w _ fun x B2 H2 e2 w2 hx => ⟨b, hx, by
  cases b with
  | true => exact q _ B2 H2 e2 w2 rfl
  | false => exact h2 rfl B2 H2 (e.trans e2) w2 Q fun v B3 H3 e3 w3 hv => q v B3 H3 (e2.trans e3) w3 hv⟩
/-! ### targets -/
variable {H : Hp} {Qs : St → Hp → Prop} {g : TG} {gs : TGs}
theorem g_T2 {a : α × β} {v : V} {gs : TGs} (h : (rT2 r s).is K B v a) (w : Own K B M L H) (q : ∀ x y, r.is K B x a.1 → s.is K B y a.2 → gs [x, y] σ H Qs) : gTup K 2 gs v σ H Qs := by
  obtain ⟨p, x, y, rfl, h1, h2, h3⟩ := h
  exact ⟨p, _, rfl, ex_t w.b h1, rfl, q x y h2 h3⟩
theorem g_T3 {a : α × β × γ} {v : V} {gs : TGs} (h : (rT3 r s t).is K B v a) (w : Own K B M L H) (q : ∀ x y z, r.is K B x a.1 → s.is K B y a.2.1 → t.is K B z a.2.2 → gs [x, y, z] σ H Qs) : gTup K 3 gs v σ H Qs := by
  obtain ⟨p, x, y, z, rfl, h1, h2, h3, h4⟩ := h
  exact ⟨p, _, rfl, ex_t w.b h1, rfl, q x y z h2 h3 h4⟩
theorem g_cons {v : V} {vs : List V} (h : g v σ H fun σ' H' => gs vs σ' H' Qs) : gCons g gs (v :: vs) σ H Qs := ⟨v, vs, rfl, h⟩
theorem g_name {n : Nat} {v : V} (h : Qs (σ.set n (some v)) H) : gName n v σ H Qs := h
theorem g_nil (h : Qs σ H) : gNil [] σ H Qs := ⟨rfl, h⟩
/-! ### more statements -/
variable {D : Ends} {tz t1 t2 : TS}
theorem q_aug {n : Nat} {v : V} {f : Int → Int → Int} (w : Own K B M L H) (hs : σ[n]? = some (some v)) (hv : v = .int i) (h : EV K M te σ B L rInt j L') (q : ∀ v B' H', Ex B B' → Own K B' M L' H' → rInt.is K B' v (f i j) → tz D (σ.set n (some v)) H') : tSeq (tAug n te (ipI f)) tz D σ H :=
  ⟨v, hs, h B H (Ex.refl _) w _ fun y B' H' e w' hy => ⟨i, j, hv, hy, q _ B' H' e w' rfl⟩⟩
theorem q_unp {a : α} (w : Own K B M L H) (h : EV K M te σ B L r a L') (q : ∀ v B' H', Ex B B' → Own K B' M L' H' → r.is K B' v a → g v σ H' (tz D)) : tSeq (tAsg te g) tz D σ H := h B H (Ex.refl _) w _ q
def Stp.out {S R : Type} : Stp S R → S ⊕ R
  | .nx s => .inl s
  | .bk s => .inl s
  | .rt q => .inr q
def Stp.st {S : Type} : Stp S Empty → S
  | .nx s => s
  | .bk s => s
  | .rt q => nomatch q
def loopR {S R α : Type} (f : S → α → Option (Stp S R)) (s : S) (xs : List α) : Option (S ⊕ R) := (loopM f s xs).map Stp.out
def loopB {S α : Type} (f : S → α → Option (Stp S Empty)) (s : S) (xs : List α) : Option S := (loopM f s xs).map Stp.st
theorem q_forR {S R : Type} {wi : TI} {g : TG} {tb : TS} {xs : List α} (w : Own K B M L H) (hi : EI K M wi σ B L r xs L1) (f : S → α → Option (Stp S R)) (P : S → Hp → St → Prop) (Lf : S → List Cell) (s0 : S) {o : S ⊕ R} (hm : loopR f s0 xs = some o)
    (h0 : ∀ B', Ex B B' → P s0 B' σ) (hL : Lf s0 = L1)
    (hs : ∀ s x st v B0 B' H' σ', f s x = some st → Ex B B0 → P s B0 σ' → Ex B0 B' → Own K B' M (Lf s) H' → r.is K B' v x → (∀ q, st = .rt q → o = .inr q) → ∀ (N : St → Hp → Prop) (BK : St → Hp → Prop),
      (∀ s3 B3 H3 σ3, st = .nx s3 → Ex B' B3 → Own K B3 M (Lf s3) H3 → P s3 B3 σ3 → N σ3 H3) → (∀ s3 B3 H3 σ3, st = .bk s3 → Ex B' B3 → Own K B3 M (Lf s3) H3 → P s3 B3 σ3 → BK σ3 H3) →
      g v σ' H' fun σ2 H2 => tb { D with nx := N, ct := N, bk := BK } σ2 H2)
    (hd : ∀ s B' H' σ', o = .inl s → Ex B B' → Own K B' M (Lf s) H' → P s B' σ' → tz D σ' H') : tSeq (tFor wi g tb) tz D σ H := by
  unfold loopR at hm
  cases h : loopM f s0 xs with
  | none => rw [h] at hm; cases hm
  | some o' =>
    rw [h] at hm
    have hm : o'.out = o := Option.some.inj hm
    refine q_for w hi f P Lf s0 h h0 hL (fun s x st v B0 B' H' σ' a1 a2 a3 a4 a5 a6 a7 => hs s x st v B0 B' H' σ' a1 a2 a3 a4 a5 a6 fun q e => ?_) fun s B' H' σ' a1 => hd s B' H' σ' ?_
    · rw [← hm, a7 q e]; rfl
    · rcases a1 with rfl | rfl
      · exact hm.symm
      · exact hm.symm
theorem q_forB {S : Type} {wi : TI} {g : TG} {tb : TS} {xs : List α} (w : Own K B M L H) (hi : EI K M wi σ B L r xs L1) (f : S → α → Option (Stp S Empty)) (P : S → Hp → St → Prop) (Lf : S → List Cell) (s0 : S) {s1 : S} (hm : loopB f s0 xs = some s1)
    (h0 : ∀ B', Ex B B' → P s0 B' σ) (hL : Lf s0 = L1)
    (hs : ∀ s x st v B0 B' H' σ', f s x = some st → Ex B B0 → P s B0 σ' → Ex B0 B' → Own K B' M (Lf s) H' → r.is K B' v x → ∀ (N : St → Hp → Prop) (BK : St → Hp → Prop),
      (∀ s3 B3 H3 σ3, st = .nx s3 → Ex B' B3 → Own K B3 M (Lf s3) H3 → P s3 B3 σ3 → N σ3 H3) → (∀ s3 B3 H3 σ3, st = .bk s3 → Ex B' B3 → Own K B3 M (Lf s3) H3 → P s3 B3 σ3 → BK σ3 H3) →
      g v σ' H' fun σ2 H2 => tb { D with nx := N, ct := N, bk := BK } σ2 H2)
    (hd : ∀ B' H' σ', Ex B B' → Own K B' M (Lf s1) H' → P s1 B' σ' → tz D σ' H') : tSeq (tFor wi g tb) tz D σ H := by
  unfold loopB at hm
  cases h : loopM f s0 xs with
  | none => rw [h] at hm; cases hm
  | some o' =>
    rw [h] at hm
    have hm : o'.st = s1 := Option.some.inj hm
    refine q_for w hi f P Lf s0 h h0 hL (fun s x st v B0 B' H' σ' a1 a2 a3 a4 a5 a6 _ => hs s x st v B0 B' H' σ' a1 a2 a3 a4 a5 a6) fun s B' H' σ' a1 => ?_
    have e : s1 = s := by
      rcases a1 with rfl | rfl
      · exact hm.symm
      · exact hm.symm
    subst e
    exact hd B' H' σ'
theorem q_fold {S : Type} {wi : TI} {g : TG} {tb : TS} {xs : List α} (w : Own K B M L H) (hi : EI K M wi σ B L r xs L1) (f : S → α → Option S) (P : S → Hp → St → Prop) (Lf : S → List Cell) (s0 : S) {s1 : S} (hm : foldO f s0 xs = some s1)
    (h0 : ∀ B', Ex B B' → P s0 B' σ) (hL : Lf s0 = L1)
    (hs : ∀ s x s' v B0 B' H' σ', f s x = some s' → Ex B B0 → P s B0 σ' → Ex B0 B' → Own K B' M (Lf s) H' → r.is K B' v x → ∀ (N : St → Hp → Prop) (BK : St → Hp → Prop),
      (∀ B3 H3 σ3, Ex B' B3 → Own K B3 M (Lf s') H3 → P s' B3 σ3 → N σ3 H3) →
      g v σ' H' fun σ2 H2 => tb { D with nx := N, ct := N, bk := BK } σ2 H2)
    (hd : ∀ B' H' σ', Ex B B' → Own K B' M (Lf s1) H' → P s1 B' σ' → tz D σ' H') : tSeq (tFor wi g tb) tz D σ H := by
  have h := loop_fold (R := Empty) f xs s0
  rw [hm] at h
  refine q_for w hi _ P Lf s0 h h0 hL (fun s x st v B0 B' H' σ' a1 a2 a3 a4 a5 a6 _ N BK hN hB => ?_) fun s B' H' σ' a1 => ?_
  · cases e : f s x with
    | none => rw [e] at a1; cases a1
    | some s' =>
      rw [e] at a1
      have a1 : st = .nx s' := (Option.some.inj a1).symm
      exact hs s x s' v B0 B' H' σ' e a2 a3 a4 a5 a6 N BK fun B3 H3 σ3 => hN s' B3 H3 σ3 a1
  · have e : s1 = s := by
      rcases a1 with h | h
      · cases h; rfl
      · cases h
    subst e
    exact hd B' H' σ'
end
/-- a def that may be called by its name -/
structure Cl (P : Program) (w : World) (K : Fg) (mg : Str → Option Value) (base : Heap) (k : Nat) (x : Str) (sp : Sp) (dvs : List V) : Prop where
  ex : ∃ (f : Addr) (fd : FuncData) (ps : List Str) (ds : List Value), FnOk P w K mg base CX0 k f fd ps sp ∧ mg x = some (.ref f) ∧ PySem.W.keepIn K (.ref f) = true ∧ Binds K fd ps ds ∧ Vals dvs ds
theorem pe_c {X : Cx} {k j : Nat} {x : Str} {sp : Sp} {dvs : List V} {p pos : Pos} {e : Expr} {es : List Expr} {t : TA} (c : Cl X.prog X.w X.K X.mg X.base k x sp dvs) (hr : Room j X.A) (hk : k ≤ j) (hg : Gl X x) (ha : PA X (e :: es) t)
    (hdb : (x == ("__debug__" : Str)) = false := by decide) (he : starEach (e :: es) X.env = (false, eval e X.env) :: starEach es X.env := by rfl) (hpl : (backTo pos (starEach es X.env)).any (·.1) = false := by rfl) :
    PE X (.Call (.Name x p) (e :: es) [] pos) (tCall sp dvs E0 t) := by
  obtain ⟨f, fd, ps, ds, F, hm, kp, b, d⟩ := c.ex
  exact pe_call F (hr.mono hk) hg hm kp b d pass0 ha hdb he hpl
theorem bt_len : bootBuiltins "len" = some (.builtin "len") := by decide +kernel
theorem bt_abs : bootBuiltins "abs" = some (.builtin "abs") := by decide +kernel
theorem bt_int : bootBuiltins "int" = some (.type "int") := by decide +kernel
theorem bt_isinstance : bootBuiltins "isinstance" = some (.builtin "isinstance") := by decide +kernel
theorem bt_sum : bootBuiltins "sum" = some (.builtin "sum") := by decide +kernel
theorem bt_any : bootBuiltins "any" = some (.builtin "any") := by decide +kernel
theorem bt_all : bootBuiltins "all" = some (.builtin "all") := by decide +kernel
theorem bt_list : bootBuiltins "list" = some (.type "list") := by decide +kernel
theorem bt_bool : bootBuiltins "bool" = some (.type "bool") := by decide +kernel
theorem bt_tuple : bootBuiltins "tuple" = some (.type "tuple") := by decide +kernel
theorem bt_sorted : bootBuiltins "sorted" = some (.builtin "sorted") := by decide +kernel
theorem bt_set : bootBuiltins "set" = some (.type "set") := by decide +kernel
theorem bt_str : bootBuiltins "str" = some (.type "str") := by decide +kernel
theorem bt_max : bootBuiltins "max" = some (.builtin "max") := by decide +kernel
theorem bt_min : bootBuiltins "min" = some (.builtin "min") := by decide +kernel
theorem bt_enumerate : bootBuiltins "enumerate" = some (.type "enumerate") := by decide +kernel
theorem bt_zip : bootBuiltins "zip" = some (.type "zip") := by decide +kernel
theorem bt_dict : bootBuiltins "dict" = some (.type "dict") := by decide +kernel
theorem room_hu {A : Around} {k : Nat} (hr : Room k A) : A.units + 64 < cLine := hr.units
theorem nn_rInt {K : Fg} {B : Hp} {v : V} {x : Int} (h : rInt.is K B v x) : v ≠ .non := by
  have h : v = .int x := h
  subst h; intro e; cases e
end L3

namespace L3
open PySem L2
open Evl (Ex ex_rd ex_l ex_t sq_of st_of fresh_back)

/-! ### data of any form -/
theorem exl {K : Fg} {B B' : Hp} {a : Addr} {xs : List V} (e : Ex B B') (h : SqL K B a xs) : SqL K B' a xs := ex_l e h
mutual
theorem dp_mono {K : Fg} {B B' : Hp} (e : Ex B B') : ∀ {v : V} {d : PyData}, Dp K B v d → Dp K B' v d
  | _, _, .non => .non
  | _, _, .bl b => .bl b
  | _, _, .int i => .int i
  | _, _, .str x => .str x
  | _, _, .lst h t => .lst (ex_l e h) (dpAll_mono e t)
  | _, _, .tup h t => .tup (ex_t e h) (dpAll_mono e t)
theorem dpAll_mono {K : Fg} {B B' : Hp} (e : Ex B B') : ∀ {vs : List V} {ds : List PyData}, DpAll K B vs ds → DpAll K B' vs ds
  | _, _, .nil => .nil
  | _, _, .cons h t => .cons (dp_mono e h) (dpAll_mono e t)
end
def rDat : Rep PyData := ⟨fun K B v d => Dp K B v d, fun e h => dp_mono e h⟩
theorem dpAll_paired {K : Fg} {B : Hp} : ∀ {vs : List V} {ds : List PyData}, DpAll K B vs ds → Paired (rDat.is K B) vs ds
  | _, _, .nil => .nil
  | _, _, .cons h t => .cons h (dpAll_paired t)
theorem dpAll_of {K : Fg} {B : Hp} {α : Type} {r : Rep α} {f : α → PyData} (h : ∀ v a, r.is K B v a → Dp K B v (f a)) : ∀ {vs : List V} {as : List α}, Paired (r.is K B) vs as → DpAll K B vs (as.map f)
  | _, _, .nil => .nil
  | _, _, .cons r t => .cons (h _ _ r) (dpAll_of h t)
/-- typed data as data -/
structure DR {α : Type} (r : Rep α) (f : α → PyData) (n : Nat) : Prop where
  dp : ∀ K B v a, r.is K B v a → Dp K B v (f a)
  lay : ∀ a, (f a).canLay0 = true
  dep : ∀ a, (f a).depth ≤ n
  eqv : ∀ a b, PyData.eqv (f a) (f b) = true ↔ a = b
  inj : ∀ a b, f a = f b → a = b
theorem layAll {α : Type} {f : α → PyData} (h : ∀ a, (f a).canLay0 = true) : ∀ l : List α, PyData.canLayAll0 (l.map f) = true
  | [] => rfl
  | a :: l => by simp only [List.map_cons, PyData.canLayAll0, h a, layAll h l, Bool.and_self]
theorem depAll {α : Type} {f : α → PyData} {n : Nat} (h : ∀ a, (f a).depth ≤ n) : ∀ l : List α, PyData.depthAll (l.map f) ≤ n
  | [] => by simp [PyData.depthAll]
  | a :: l => by simp only [List.map_cons, PyData.depthAll]; have := h a; have := depAll h l; omega
theorem eqvAll {α : Type} {f : α → PyData} (h : ∀ a b, PyData.eqv (f a) (f b) = true ↔ a = b) : ∀ l m : List α, PyData.eqvAll (l.map f) (m.map f) = true ↔ l = m
  | [], [] => by simp [PyData.eqvAll]
  | [], b :: m => by simp [PyData.eqvAll]
  | a :: l, [] => by simp [PyData.eqvAll]
  | a :: l, b :: m => by simp only [List.map_cons, PyData.eqvAll, Bool.and_eq_true, h a b, eqvAll h l m, List.cons.injEq]
theorem map_inj {α β : Type} {f : α → β} (h : ∀ a b, f a = f b → a = b) : ∀ l m : List α, l.map f = m.map f → l = m
  | [], [], _ => rfl
  | [], _ :: _, e => by simp at e
  | _ :: _, [], e => by simp at e
  | a :: l, b :: m, e => by
    rw [List.map_cons, List.map_cons, List.cons.injEq] at e
    rw [h _ _ e.1, map_inj h l m e.2]
theorem dr_int : DR rInt PyData.int 1 := ⟨fun _ _ _ a h => by have h : _ = V.int a := h; subst h; exact .int a, fun _ => rfl, fun _ => by simp [PyData.depth], fun a b => by simp [PyData.eqv], fun a b h => by injection h⟩
theorem dr_bool : DR rBool PyData.bool 1 := ⟨fun _ _ _ a h => by have h : _ = V.bl a := h; subst h; exact .bl a, fun _ => rfl, fun _ => by simp [PyData.depth], fun a b => by simp [PyData.eqv], fun a b h => by injection h⟩
def dNon : Unit → PyData := fun _ => .none
theorem dr_non : DR rNon dNon 1 := ⟨fun _ _ _ a h => by have h : _ = V.non := h; subst h; exact .non, fun _ => rfl, fun _ => by simp [PyData.depth, dNon], fun a b => by simp [PyData.eqv, dNon], fun a b h => rfl⟩
def dTup {α : Type} (f : α → PyData) (l : List α) : PyData := .tuple (l.map f)
def dLst {α : Type} (f : α → PyData) (l : List α) : PyData := .list (l.map f)
def dT2 {α β : Type} (f : α → PyData) (g : β → PyData) (a : α × β) : PyData := .tuple [f a.1, g a.2]
def dT3 {α β γ : Type} (f : α → PyData) (g : β → PyData) (h : γ → PyData) (a : α × β × γ) : PyData := .tuple [f a.1, g a.2.1, h a.2.2]
def dOpt {α : Type} (f : α → PyData) : Option α → PyData
  | none => .none
  | some a => f a
section
variable {α β γ : Type} {r : Rep α} {s : Rep β} {t : Rep γ} {f : α → PyData} {g : β → PyData} {h : γ → PyData} {n m k : Nat}
theorem dr_tup (d : DR r f n) : DR (rTup r) (dTup f) (n + 1) := ⟨fun K B v a ⟨p, xs, h1, h2, h3⟩ => by subst h1; exact .tup h2 (dpAll_of (d.dp K B) h3), fun a => by simpa [dTup, PyData.canLay0] using layAll d.lay a,
  fun a => by have := depAll d.dep a; simp only [dTup, PyData.depth]; omega, fun a b => by simpa [dTup, PyData.eqv] using eqvAll d.eqv a b, fun a b e => by unfold dTup at e; injection e with e; exact map_inj d.inj a b e⟩
theorem dr_lst (d : DR r f n) : DR (rLst r) (dLst f) (n + 1) := ⟨fun K B v a ⟨p, xs, h1, h2, h3⟩ => by subst h1; exact .lst (sq_of h2) (dpAll_of (d.dp K B) h3), fun a => by simpa [dLst, PyData.canLay0] using layAll d.lay a,
  fun a => by have := depAll d.dep a; simp only [dLst, PyData.depth]; omega, fun a b => by simpa [dLst, PyData.eqv] using eqvAll d.eqv a b, fun a b e => by unfold dLst at e; injection e with e; exact map_inj d.inj a b e⟩
theorem dr_T2 (d : DR r f n) (e : DR s g m) : DR (rT2 r s) (dT2 f g) (max n m + 1) := ⟨fun K B v a ⟨p, x, y, h1, h2, h3, h4⟩ => by subst h1; exact .tup h2 (.cons (d.dp _ _ _ _ h3) (.cons (e.dp _ _ _ _ h4) .nil)),
  fun a => by simp [dT2, PyData.canLay0, PyData.canLayAll0, d.lay, e.lay], fun a => by have := d.dep a.1; have := e.dep a.2; simp only [dT2, PyData.depth, PyData.depthAll]; omega,
  fun a b => by simp only [dT2, PyData.eqv, PyData.eqvAll, Bool.and_true, Bool.and_eq_true, d.eqv, e.eqv]; exact ⟨fun ⟨x, y⟩ => Prod.ext x y, fun e => by rw [e]; exact ⟨rfl, rfl⟩⟩,
  fun a b q => by unfold dT2 at q; injection q with q; injection q with q1 q2; injection q2 with q2 _; exact Prod.ext (d.inj _ _ q1) (e.inj _ _ q2)⟩
theorem dr_T3 (d : DR r f n) (e : DR s g m) (c : DR t h k) : DR (rT3 r s t) (dT3 f g h) (max n (max m k) + 1) := ⟨fun K B v a ⟨p, x, y, z, h1, h2, h3, h4, h5⟩ => by subst h1; exact .tup h2 (.cons (d.dp _ _ _ _ h3) (.cons (e.dp _ _ _ _ h4) (.cons (c.dp _ _ _ _ h5) .nil))),
  fun a => by simp [dT3, PyData.canLay0, PyData.canLayAll0, d.lay, e.lay, c.lay], fun a => by have := d.dep a.1; have := e.dep a.2.1; have := c.dep a.2.2; simp only [dT3, PyData.depth, PyData.depthAll]; omega,
  fun a b => by simp only [dT3, PyData.eqv, PyData.eqvAll, Bool.and_true, Bool.and_eq_true, d.eqv, e.eqv, c.eqv]; exact ⟨fun ⟨x, y, z⟩ => Prod.ext x (Prod.ext y z), fun e => by rw [e]; exact ⟨rfl, rfl, rfl⟩⟩,
  fun a b q => by unfold dT3 at q; injection q with q; injection q with q1 q2; injection q2 with q2 q3; injection q3 with q3 _; exact Prod.ext (d.inj _ _ q1) (Prod.ext (e.inj _ _ q2) (c.inj _ _ q3))⟩
theorem DR.dec [DecidableEq α] (d : DR r f n) (a b : α) : PyData.eqv (f a) (f b) = decide (a = b) := by
  rw [Bool.eq_iff_iff, d.eqv, decide_eq_true_iff]
theorem DR.sh (d : DR r f n) (hn : n ≤ 64) (a : α) : SeqAt.shaped (f a) = true := by
  unfold SeqAt.shaped
  rw [d.lay a, decide_eq_true (Nat.le_trans (d.dep a) hn)]; rfl
end
/-! ### operations on data -/
def isNoneD : PyData → Bool
  | .none => true
  | _ => false
def isBoolD : PyData → Bool
  | .bool _ => true
  | _ => false
def isIntD : PyData → Bool
  | .bool _ => true
  | .int _ => true
  | _ => false
def isStrD : PyData → Bool
  | .str _ => true
  | _ => false
def isTupD : PyData → Bool
  | .tuple _ => true
  | _ => false
def isLstD : PyData → Bool
  | .list _ => true
  | _ => false
def tyName : PyData → String
  | .none => "NoneType"
  | .bool _ => "bool"
  | .int _ => "int"
  | .str _ => "str"
  | .list _ => "list"
  | .tuple _ => "tuple"
  | .dict _ => "dict"
def eqvD (a b : PyData) : Option Bool := if SeqAt.shaped a = true ∧ SeqAt.shaped b = true then some (PyData.eqv a b) else none
def lenD : PyData → Option Int
  | .list xs => some xs.length
  | .tuple xs => some xs.length
  | _ => none
def ixD : PyData → Int → Option PyData
  | .list xs, i => atI xs i
  | .tuple xs, i => atI xs i
  | _, _ => none
theorem dp_ty {K : Fg} {B H : Hp} {v : V} {d : PyData} (e : Ex B H) (h : Dp K B v d) : TyX K H v (.type (tyName d)) := by
  cases h with
  | non => exact .base .non
  | bl b => exact .base (.bl b)
  | int i => exact .base (.int i)
  | str x => exact .base (.str x)
  | lst h t =>
    rcases ex_l e h with (h | ⟨o, h⟩) | ⟨o, its, n, h, hc, _⟩
    · exact .base (.lst h)
    · exact .base (.frz h)
    · exact .kList h hc
  | tup h t =>
    rcases ex_t e h with (h | ⟨o, h⟩) | ⟨o, its, n, h, hc, _⟩
    · exact .base (.tup h)
    · exact .fTuple h
    · exact .kTuple h hc
section
variable {K : Fg} {M : Fr} {σ : St} {B : Hp} {L L1 L2 L' : List Cell} {α β γ δ : Type} {r : Rep α} {s : Rep β} {t : Rep γ} {ta tb tc te : TE} {tt tu : TT} {tA : TA} {i j k : Int} {b c : Bool} {d d' : PyData}
theorem ev_dat {f : α → PyData} {n : Nat} {a : α} (h : EV K M te σ B L r a L') (D : DR r f n) : EV K M te σ B L rDat (f a) L' := ev_as h fun _ _ h => D.dp _ _ _ _ h
theorem ev_isND (ha : EV K M ta σ B L rDat d L1) : EV K M (tIsN ta) σ B L rBool (isNoneD d) L1 := fun B1 H e w Q q =>
  ha B1 H e w _ fun x B2 H2 e2 w2 hx => q _ B2 H2 e2 w2 (by
    show V.bl _ = V.bl _
    congr 1
    have hx : Dp K B2 x d := hx
    cases hx <;> rfl)
theorem ev_isi (T : String) (g : PyData → Bool) (hg : ∀ n d, tyName d = n → kitB n T = some (g d)) (ha : EV K M ta σ B L rDat d L1) : EV K M (tCB (rIsi K) (tCons ta (tCons (tC (.ty T)) tNil))) σ B L rBool (g d) L1 := fun B1 H e w Q q =>
  ha B1 H e w _ fun x B2 H2 e2 w2 hx => ⟨x, .ty T, .type (tyName d), .type T, g d, rfl, .ty T, dp_ty w2.b hx, kit_ty (hg _ d rfl), q _ B2 H2 e2 w2 rfl⟩
def kt (T : String) (g : String → Bool) : Bool := (kitB "NoneType" T == some (g "NoneType")) && (kitB "bool" T == some (g "bool")) && (kitB "int" T == some (g "int")) && (kitB "str" T == some (g "str")) && (kitB "list" T == some (g "list")) && (kitB "tuple" T == some (g "tuple")) && (kitB "dict" T == some (g "dict"))
theorem kt_of {T : String} {g : String → Bool} (h : kt T g = true) (d : PyData) : kitB (tyName d) T = some (g (tyName d)) := by
  unfold kt at h
  simp only [Bool.and_eq_true, beq_iff_eq] at h
  cases d <;> simp only [tyName] <;> simp_all
theorem isi_bool : ∀ n d, tyName d = n → kitB n "bool" = some (isBoolD d) := fun n d e => by
  subst e
  rw [kt_of (g := fun n => n == "bool") (by decide +kernel) d]
  cases d <;> rfl
theorem isi_int : ∀ n d, tyName d = n → kitB n "int" = some (isIntD d) := fun n d e => by
  subst e
  rw [kt_of (g := fun n => n == "bool" || n == "int") (by decide +kernel) d]
  cases d <;> rfl
theorem isi_str : ∀ n d, tyName d = n → kitB n "str" = some (isStrD d) := fun n d e => by
  subst e
  rw [kt_of (g := fun n => n == "str") (by decide +kernel) d]
  cases d <;> rfl
theorem isi_tuple : ∀ n d, tyName d = n → kitB n "tuple" = some (isTupD d) := fun n d e => by
  subst e
  rw [kt_of (g := fun n => n == "tuple") (by decide +kernel) d]
  cases d <;> rfl
theorem isi_list : ∀ n d, tyName d = n → kitB n "list" = some (isLstD d) := fun n d e => by
  subst e
  rw [kt_of (g := fun n => n == "list") (by decide +kernel) d]
  cases d <;> rfl
theorem ev_eqvD (ha : EV K M ta σ B L rDat d L1) (hb : EV K M tb σ B L1 rDat d' L2) (h : eqvD d d' = some b) : EV K M (tOp (rEqD K) ta tb) σ B L rBool b L2 :=
  ev_op ha hb fun B1 H1 x y Q w hx hy q => by
    unfold eqvD at h
    split at h
    · rename_i hc
      exact ⟨d, d', dp_mono w.b hx, dp_mono w.b hy, hc.1, hc.2, q _ (by rw [Option.some.inj h]; rfl)⟩
    · cases h
/-- == of typed data -/
theorem ev_eqT {f : α → PyData} {n : Nat} {a a' : α} [DecidableEq α] (D : DR r f n) (hn : n ≤ 64) (ha : EV K M ta σ B L r a L1) (hb : EV K M tb σ B L1 r a' L2) : EV K M (tOp (rEqD K) ta tb) σ B L rBool (decide (a = a')) L2 :=
  ev_op ha hb fun B1 H1 x y Q w hx hy q => ⟨f a, f a', dp_mono w.b (D.dp _ _ _ _ hx), dp_mono w.b (D.dp _ _ _ _ hy), D.sh hn a, D.sh hn a', q _ (by rw [D.dec]; rfl)⟩
theorem ev_neT {f : α → PyData} {n : Nat} {a a' : α} [DecidableEq α] (D : DR r f n) (hn : n ≤ 64) (ha : EV K M ta σ B L r a L1) (hb : EV K M tb σ B L1 r a' L2) : EV K M (tOp (rNeD K) ta tb) σ B L rBool (!decide (a = a')) L2 :=
  ev_op ha hb fun B1 H1 x y Q w hx hy q => ⟨f a, f a', dp_mono w.b (D.dp _ _ _ _ hx), dp_mono w.b (D.dp _ _ _ _ hy), D.sh hn a, D.sh hn a', q _ (by rw [D.dec]; rfl)⟩
theorem dpAll_len {vs : List V} {ds : List PyData} (h : DpAll K B vs ds) : vs.length = ds.length := paired_len (dpAll_paired h)
theorem ev_lenD (ha : EV K M ta σ B L rDat d L1) (h : lenD d = some i) : EV K M (tCB (rLen K) (tCons ta tNil)) σ B L rInt i L1 :=
  ev_cb1 ha fun B1 H1 x Q w hx q => by
    have hx : Dp K B1 x d := hx
    cases hx with
    | lst h1 t =>
      rw [← (Option.some.inj h : _ = i)] at q
      exact ⟨_, _, rfl, .inl (ex_l w.b h1), q _ (by rw [dpAll_len t]; rfl)⟩
    | tup h1 t =>
      rw [← (Option.some.inj h : _ = i)] at q
      exact ⟨_, _, rfl, .inr (ex_t w.b h1), q _ (by rw [dpAll_len t]; rfl)⟩
    | _ => cases h
theorem ev_ixD (ha : EV K M ta σ B L rDat d L1) (hb : EV K M tb σ B L1 rInt i L2) (h : ixD d i = some d') : EV K M (tOp (rIx K) ta tb) σ B L rDat d' L2 :=
  ev_op ha hb fun B1 H1 x y Q w hx hy q => by
    have hx : Dp K B1 x d := hx
    cases hx with
    | lst h1 t =>
      obtain ⟨z, e, hz⟩ := atI_paired (dpAll_paired t) h
      exact .inl ⟨_, _, i, z, rfl, hy, ex_l w.b h1, e, q _ hz⟩
    | tup h1 t =>
      obtain ⟨z, e, hz⟩ := atI_paired (dpAll_paired t) h
      exact .inr (.inl ⟨_, _, i, z, rfl, hy, ex_t w.b h1, e, q _ hz⟩)
    | _ => cases h
end
/-- nothing is promised: at any level -/
theorem fn_none {P : Program} {w : World} {K : Fg} {mg : Str → Option Value} {base : Heap} {k : Nat} {f : Addr} {fd : FuncData} {ps : List Str} {T : List Addr} {C : List Arg → List Cell → Arg → List Cell → Prop} (h : ∀ as L r L', ¬ C as L r L') : FnOk P w K mg base CX0 k f fd ps (spV K T C) :=
  ⟨fun vs H Q E ⟨_, _, _, _, _, _, _, _, _, c, _⟩ => (h _ _ _ _ c).elim, fun A outer s H args us vs Q E _ _ _ _ ⟨_, _, _, _, _, _, _, _, _, c, _⟩ => (h _ _ _ _ c).elim⟩
end L3

namespace L3
open PySem L2

/-! ### the mirrors: they answer, and the answer is as told -/
def Yes {α : Type} (o : Option α) (P : α → Prop) : Prop := ∃ a, o = some a ∧ P a
section
variable {α β S R : Type} {o : Option α} {P Q : α → Prop} {i j : Int}
theorem Yes.mono (h : Yes o P) (f : ∀ a, P a → Q a) : Yes o Q := by obtain ⟨a, h1, h2⟩ := h; exact ⟨a, h1, f a h2⟩
theorem y_some {a : α} (h : P a) : Yes (some a) P := ⟨a, rfl, h⟩
theorem y_bind {f : α → Option β} {T : β → Prop} (h : Yes o Q) (k : ∀ a, Q a → Yes (f a) T) : Yes (Option.bind o f) T := by
  obtain ⟨a, rfl, h2⟩ := h
  exact k a h2
theorem y_eq {a : α} {f : α → Option β} {T : β → Prop} (h : o = some a) (k : Yes (f a) T) : Yes (Option.bind o f) T := by
  subst h; exact k
theorem y_if {c : Prop} [Decidable c] {p q : Option α} (h1 : c → Yes p P) (h2 : ¬ c → Yes q P) : Yes (if c then p else q) P := by
  split
  · exact h1 (by assumption)
  · exact h2 (by assumption)
theorem y_and {c : Prop} [Decidable c] {p q : Option α} (h1 : c → p = q) : (if c then p else q) = q := by
  split
  · exact h1 (by assumption)
  · rfl
theorem mulI_l (h1 : -(2 ^ 64) < i) (h2 : i < 2 ^ 64) : mulI i j = some (i * j) := if_pos (Or.inl (Or.inl ⟨h1, h2⟩))
theorem mulI_r (h1 : -(2 ^ 64) < j) (h2 : j < 2 ^ 64) : mulI i j = some (i * j) := if_pos (Or.inl (Or.inr ⟨h1, h2⟩))
theorem mulI_w {a b : Nat} (ha : i.natAbs < 2 ^ a) (hb : j.natAbs < 2 ^ b) (h0 : 0 < a) (h1 : 0 < b) (h : a + b ≤ 1000000) : mulI i j = some (i * j) := if_pos (Or.inr (wide_mul ha hb h0 h1 h))
theorem divI_s (h1 : 0 < j) (h2 : j < 2 ^ 64) : divI i j = some (i / j) := if_pos ⟨h1, by
  have : j.natAbs < 2 ^ 64 := by omega
  have := PySem.Flt.log2_lt_of (by decide) this
  omega⟩
theorem divI_w {b : Nat} (h1 : 0 < j) (hb : j.natAbs < 2 ^ b) (h0 : 0 < b) (h9 : b ≤ 9000) : divI i j = some (i / j) := if_pos (wide_div (i := i) h1 hb h0 h9)
theorem modI_s (h : 0 < j) : modI i j = some (i % j) := if_pos h
theorem room_s {n : Nat} (h : n ≤ 1000000) : room n = some () := if_pos (Nat.lt_of_le_of_lt h (by decide))
theorem small62_s (h1 : -(2 ^ 62) ≤ i) (h2 : i < 2 ^ 62) : small62 i = some () := if_pos ⟨h1, h2⟩
theorem ixL_s {xs : List α} {n : Nat} {a : α} (h : xs[n]? = some a) (hi : i = n) : ixL xs i = some a := by
  subst hi
  unfold ixL atI
  have hl := (List.getElem?_eq_some_iff.mp h).1
  simp [ixN]
  have h2 := (List.getElem?_eq_some_iff.mp h).2
  simp_all
/-- with a number of the item -/
theorem y_foldI (f : S → α → Option S) (I : Nat → S → Prop) {xs : List α} {s : S} (h0 : I 0 s) (hs : ∀ (i : Nat) x s, xs[i]? = some x → I i s → Yes (f s x) (I (i + 1))) : Yes (foldO f s xs) (I xs.length) := by
  induction xs generalizing s I with
  | nil => exact ⟨s, rfl, h0⟩
  | cons x xs ih =>
    obtain ⟨s', h1, h2⟩ := hs 0 x s rfl h0
    unfold foldO
    rw [h1]
    exact ih (fun i => I (i + 1)) h2 fun i y s hy hI => hs (i + 1) y s (by simpa using hy) hI
theorem y_fold (f : S → α → Option S) (I : S → Prop) {xs : List α} {s : S} (h0 : I s) (hs : ∀ x s, x ∈ xs → I s → Yes (f s x) I) : Yes (foldO f s xs) I :=
  y_foldI f (fun _ => I) h0 fun i x s hx hI => hs x s (List.mem_of_getElem? hx) hI
/-- a loop that may return -/
theorem y_loopI (f : S → α → Option (Stp S R)) (I : Nat → S → Prop) (E : Stp S R → Prop) {xs : List α} {s : S} (h0 : I 0 s)
    (hs : ∀ (i : Nat) x s, xs[i]? = some x → I i s → Yes (f s x) fun t => match t with | .nx s' => I (i + 1) s' | t => E t) (hE : ∀ s, I xs.length s → E (.nx s)) : Yes (loopM f s xs) E := by
  induction xs generalizing s I with
  | nil => exact ⟨.nx s, rfl, hE s h0⟩
  | cons x xs ih =>
    obtain ⟨t, h1, h2⟩ := hs 0 x s rfl h0
    unfold loopM
    rw [h1]
    match t, h2 with
    | .nx s', h2 => exact ih (fun i => I (i + 1)) h2 (fun i y s hy hI => hs (i + 1) y s (by simpa using hy) hI) hE
    | .bk s', h2 => exact ⟨_, rfl, h2⟩
    | .rt r, h2 => exact ⟨_, rfl, h2⟩
theorem rng_mem {lo hi : Int} {x : Int} (h : x ∈ rng lo hi) : lo ≤ x ∧ x < hi := by
  obtain ⟨i, hi⟩ := List.getElem?_of_mem h
  obtain ⟨h1, h2⟩ := rng_get hi
  omega
theorem rng_at {lo hi : Int} {i : Nat} {x : Int} (h : (rng lo hi)[i]? = some x) : x = lo + i ∧ lo + i < hi := by
  obtain ⟨h1, h2⟩ := rng_get h
  exact ⟨h2, by omega⟩
theorem y_loopR (f : S → α → Option (Stp S R)) (I : Nat → S → Prop) (E : S ⊕ R → Prop) {xs : List α} {s : S} (h0 : I 0 s)
    (hs : ∀ (i : Nat) x s, xs[i]? = some x → I i s → Yes (f s x) fun t => match t with | .nx s' => I (i + 1) s' | .bk s' => E (.inl s') | .rt r => E (.inr r)) (hE : ∀ s, I xs.length s → E (.inl s)) : Yes (loopR f s xs) E := by
  obtain ⟨t, h1, h2⟩ := y_loopI f I (fun t => match t with | .nx s' => E (.inl s') | .bk s' => E (.inl s') | .rt r => E (.inr r)) h0 (fun i x s hx hI => (hs i x s hx hI).mono fun t ht => by
    cases t <;> exact ht) hE
  unfold loopR
  rw [h1]
  cases t <;> exact ⟨_, rfl, h2⟩
theorem y_loopB (f : S → α → Option (Stp S Empty)) (I : Nat → S → Prop) (E : S → Prop) {xs : List α} {s : S} (h0 : I 0 s)
    (hs : ∀ (i : Nat) x s, xs[i]? = some x → I i s → Yes (f s x) fun t => match t with | .nx s' => I (i + 1) s' | .bk s' => E s' | .rt r => False) (hE : ∀ s, I xs.length s → E s) : Yes (loopB f s xs) E := by
  obtain ⟨t, h1, h2⟩ := y_loopI f I (fun t => match t with | .nx s' => E s' | .bk s' => E s' | .rt r => False) h0 (fun i x s hx hI => (hs i x s hx hI).mono fun t ht => by
    cases t <;> exact ht) hE
  unfold loopB
  rw [h1]
  cases t with
  | nx s => exact ⟨_, rfl, h2⟩
  | bk s => exact ⟨_, rfl, h2⟩
  | rt r => exact h2.elim
end
end L3
namespace L3
open PySem L2
theorem paired_ints {K : Fg} {B : Hp} : ∀ ns : List Int, Paired (rInt.is K B) (ns.map V.int) ns
  | [] => .nil
  | _ :: l => .cons rfl (paired_ints l)
end L3

/-! a generator expression in any, all, sum: what is walked and the element are any -/
namespace L3G
open PySem PySem.Spec PyProof.Rows L2 GxR

structure GSc (sc scope : Scope) : Prop where
  kind : scope.kind = .function
  co : scope.isCoroutine = false
  cell : ∀ y ∈ scope.names, y.2 ≠ .cell
  dot : scope.names.lookup (".0" : Str) = some NameKind.local
  free : ∀ y ∈ scope.names, y.2 = .free → sc.names.lookup y.1 = some .cell ∨ sc.names.lookup y.1 = some .free
def gsB (sc scope : Scope) : Bool :=
  decide (scope.kind = .function) && !scope.isCoroutine && decide (scope.names.lookup (".0" : Str) = some NameKind.local) && scope.names.all fun y => !decide (y.2 = .cell) && (!decide (y.2 = .free) || decide (sc.names.lookup y.1 = some .cell) || decide (sc.names.lookup y.1 = some .free))
theorem gs_by {sc scope : Scope} (h : gsB sc scope = true) : GSc sc scope := by
  unfold gsB at h
  simp only [Bool.and_eq_true, Bool.or_eq_true, Bool.not_eq_true', decide_eq_true_eq, decide_eq_false_iff_not, List.all_eq_true] at h
  obtain ⟨⟨⟨h1, h2⟩, h3⟩, h4⟩ := h
  refine ⟨h1, h2, fun y hy => (h4 y hy).1, h3, fun y hy e => ?_⟩
  rcases (h4 y hy).2 with (z | z) | z
  · exact absurd e z
  · exact .inl z
  · exact .inr z
/-- the slots of the generator's frame: none, or a captured slot -/
def capS (js : List (Option Nat)) (σ : L2.St) : L2.St := js.map fun
  | none => none
  | some j => (σ[j]?).getD none
def capB (N NG : List Str) (scope : Scope) (js : List (Option Nat)) : Bool :=
  decide (js.length = NG.length) && (List.range js.length).all fun i => match js[i]? with
    | some (some j) => (match NG[i]? with
      | some y => decide (N[j]? = some y) && decide (scope.names.lookup y = some .free)
      | none => false)
    | _ => true
theorem capB_at {N NG : List Str} {scope : Scope} {js : List (Option Nat)} (h : capB N NG scope js = true) {σ : L2.St} {i : Nat} {y : Str} {v : V} (hy : NG[i]? = some y) (hv : (capS js σ)[i]? = some (some v)) :
    ∃ j : Nat, N[j]? = some y ∧ σ[j]? = some (some v) ∧ scope.names.lookup y = some .free := by
  unfold capB at h
  rw [Bool.and_eq_true, List.all_eq_true] at h
  unfold capS at hv
  rw [List.getElem?_map] at hv
  cases e : js[i]? with
  | none => rw [e] at hv; cases hv
  | some o =>
    rw [e] at hv
    have hi : i < js.length := (List.getElem?_eq_some_iff.mp e).1
    have q := h.2 i (List.mem_range.mpr hi)
    rw [e, hy] at q
    cases o with
    | none => cases hv
    | some j =>
      have q : (decide (N[j]? = some y) && decide (scope.names.lookup y = some .free)) = true := q
      rw [Bool.and_eq_true, decide_eq_true_eq, decide_eq_true_eq] at q
      refine ⟨j, q.1, ?_, q.2⟩
      have hv : (σ[j]?).getD none = some v := Option.some.inj hv
      cases e2 : σ[j]? with
      | none => rw [e2] at hv; cases hv
      | some u => rw [e2] at hv; exact congrArg some hv
theorem capB_len {N NG : List Str} {scope : Scope} {js : List (Option Nat)} (h : capB N NG scope js = true) : js.length = NG.length := by
  unfold capB at h
  rw [Bool.and_eq_true] at h
  exact of_decide_eq_true h.1

abbrev gEnv (X : Cx) (scope : Scope) (C : Addr) (code : Value) : Env := genEnv scope (cloFrom X.env.cells scope.names []) C code builtinsNs X.env
abbrev gCode (X : Cx) (elt tg iter : Expr) (scope : Scope) (gpos : Pos) (it : Addr) (C : Addr) (code : Value) : Code :=
  .compLoop (.GeneratorExp elt [⟨tg, iter, [], 0⟩] scope gpos) 0 (.ref it) .none (gEnv X scope C code)
abbrev gCode0 (X : Cx) (elt tg iter : Expr) (scope : Scope) (gpos : Pos) (it : Addr) (C : Addr) (code : Value) : Code :=
  .compStart (.GeneratorExp elt [⟨tg, iter, [], 0⟩] scope gpos) 0 (.ref it) .none (gEnv X scope C code)
/-- the Around of the generator's frame -/
abbrev gA (X : Cx) (cenv : Env) : Around := ⟨X.A.handled, X.A.depth + 1, pushEnvs [cenv] X.A.frames, X.A.guards, X.A.units + 5⟩
/-- the context of the generator's frame, made at s -/
abbrev gCx (X : Cx) (s : Shared) (H : Hp) (NG : List Str) (ex : List Addr) (cenv : Env) : Cx where
  prog := X.prog
  w := X.w
  K := X.K
  mg := X.mg
  base := X.base
  A := gA X cenv
  N := NG
  s_0 := s
  H_0 := H
  env := cenv
  outer := X.stack
  stack := cenv :: X.stack
  ex := ex
  fn := fun _ => false
  calm := true
  pn := []
  xe := fun _ _ => False
section
variable {X : Cx} {pins : List (Addr × Obj)} {σ : L2.St} {H : Hp} {s : Shared}
theorem gA_eq (X : Cx) (elt tg iter : Expr) (scope : Scope) (gpos : Pos) (it C : Addr) (code : Value) : X.A.in1.in1.over (gCode X elt tg iter scope gpos it C code) [] = gA X (gEnv X scope C code) := rfl
theorem gA_eq0 (X : Cx) (elt tg iter : Expr) (scope : Scope) (gpos : Pos) (it C : Addr) (code : Value) : X.A.in1.in1.over (gCode0 X elt tg iter scope gpos it C code) [] = gA X (gEnv X scope C code) := rfl
theorem room_g {k : Nat} {cenv : Env} (r : Room (k + 1) X.A) : Room k (gA X cenv) := ⟨r.hd, by have := r.dp; show X.A.depth + 1 + 3 * k + 5 < _; omega, by have := r.un; show X.A.units + 5 + 16 * k + 200 < _; omega⟩
theorem inv_gens {g' : Array GenState} {t' : Nat} (I : Inv X pins σ H s) (hg : AllBare g') : Inv X pins σ H { s with gens := g', toks := t' } :=
  ⟨I.ok, I.os, hg, I.base, I.loc, I.cell, I.free, I.freeC, I.pin, I.hok, I.len⟩
theorem gen_start {NG : List Str} {fp : List Addr} {scope : Scope} {code : Value} {it : Addr} {js : List (Option Nat)} {h₁ : Heap} {g₁ : Array GenState} {tk : Nat} (I : Inv X pins σ H s) (G : GSc X.env.scope scope) (hf : ∀ b ∈ fp, FpOk X pins H b) (hfl : ∀ b ∈ fp, b < s.heap.objs.size) (hd : X.A.handled = none)
    (hns : h₁.Ns s.heap.objs.size fun y => if y = (".0" : Str) then some (.ref it) else none) (kp : ∀ b o, s.heap.get? b = some o → h₁.get? b = some o) (hg : AllBare g₁) (hN : capB X.N NG scope js = true) :
    Inv (gCx X s H NG fp (gEnv X scope s.heap.objs.size code)) [] (capS js σ) H { s with heap := h₁, gens := g₁, toks := tk } := by
  have hfree : ∀ y ∈ scope.names, y.2 = .free → ∃ c, X.env.cells.lookup y.1 = some c := fun y hy e => by
    rcases G.free y hy e with k | k
    · exact I.ok.has _ (.inl k)
    · exact I.ok.has _ (.inr k)
  have cm : ∀ {y c}, (cloFrom X.env.cells scope.names []).lookup y = some c → X.env.cells.lookup y = some c := fun {y c} e => by
    rcases cloFrom_mem (PySem.mem_of_lookup e) with hm | ⟨h1, h2⟩
    · cases hm
    · obtain ⟨c1, hc⟩ := hfree _ h1 rfl
      have hc : X.env.cells.lookup y = some c1 := hc
      have e2 : c = c1 := by
        rw [h2, hc] <;> rfl
      rw [e2]
      exact hc
  have look : ∀ {y}, scope.names.lookup y = some .free → ∃ c, (cloFrom X.env.cells scope.names []).lookup y = some c := fun {y} hl => by
    have hy : (y, NameKind.free) ∈ scope.names := PySem.mem_of_lookup hl
    exact mem_lookup (cloFrom_has (cells := X.env.cells) (acc := []) hy)
  have cellK : ∀ {c : Addr} {v : Option Value}, s.heap.IsCell c v → h₁.IsCell c v := fun {c v} ⟨o, ho, hd⟩ => ⟨o, kp _ _ ho, hd⟩
  refine ⟨⟨I.ok.mod, G.kind, I.ok.glob, rfl, Nat.le_refl _, fun y z c e1 e2 => I.ok.inj y z c (cm e1) (cm e2), fun y hy => ?_, fun y c z _ => ?_, fun _ => hd, ?_, .inr ⟨rfl, rfl⟩, fun b hb => ⟨Nat.ne_of_lt (hfl b hb), fun y c e => (hf b hb).2.2.2.2.1 y c (cm e)⟩, I.bs, Nat.le_trans I.ok.bsz I.sz, fun b o e hb => ?_,
      fun b hb z => ?_, I.stack, I.stkFree⟩,
    rfl, hg, Un.kept kp, ⟨_, hns, fun i y v e1 e2 e3 => ?_⟩, fun y c e => ?_, I.hok.fresh (Nat.le_refl _), fun y c e => I.freeC y c (cm e), fun q hq => absurd (show q ∈ ([] : List (Addr × Obj)) ++ [] from hq) (by simp), I.hok.kept kp, ?_⟩
  · have hy : scope.names.lookup y = some .cell ∨ scope.names.lookup y = some .free := hy
    rcases hy with hy | hy
    · exact absurd rfl (G.cell _ (PySem.mem_of_lookup hy))
    · exact look hy
  · have z : false = true := z
    cases z
  · show pushEnvs [_] X.A.frames = _
    rw [I.ok.frames]
    rfl
  · rcases (hf b hb).2.2.2.1 with z | z
    · exact I.ok.noex b o e z
    · exact absurd (Nat.lt_of_lt_of_le (Heap.lt_size (I.ok.bs b o e).1) z) (Nat.lt_irrefl _)
  · rcases List.mem_cons.mp (I.stkSub b z) with e | e
    · exact (hf b hb).2.1 e
    · exact (hf b hb).2.2.1 e
  · obtain ⟨j, h1, h2, h3⟩ := capB_at hN e1 e2
    obtain ⟨m, hn, hl⟩ := I.loc
    have hfr := G.free _ (PySem.mem_of_lookup h3) rfl
    have hvis : Vis X.env.scope y := hfr.elim (fun k => .inr (.inl k)) (fun k => .inr (.inr k))
    obtain ⟨w', r, q⟩ := hl j y v h1 h2 hvis
    obtain ⟨c2, h4⟩ := look h3
    refine ⟨w', r, .inr ⟨.inr h3, c2, h4, ?_⟩⟩
    have c1 := cm h4
    rcases q with ⟨k', _⟩ | ⟨_, c3, e', z⟩
    · have k' : X.env.scope.names.lookup y = some .local := k'
      rcases hfr with k2 | k2 <;> rw [show X.env.scope.names.lookup y = _ from k2] at k' <;> cases k'
    · rw [c1] at e'
      cases e'
      exact cellK z
  · obtain ⟨w', z⟩ := I.cell y c (cm e)
    exact ⟨w', cellK z⟩
  · show (capS js σ).length = NG.length
    unfold capS
    rw [List.length_map]
    exact capB_len hN
end
/-! ### the run -/
/-- the consumer's own objects -/
def SOk (S : List Addr) (H : Hp) (s : Shared) : Prop := ∀ b ∈ S, H b = none ∧ ∃ o, s.heap.get? b = some o ∧ ∀ v, o.data ≠ .cell v
section
variable (X : Cx) (s0 : Shared) (H0 : Hp) (NG : List Str) (fp : List Addr) (cenv : Env) (a : Addr) (ob : Obj) (S : List Addr) (tn : Nat → Heap → Prop) (N : Nat) (Z : Nat → L2.St → Hp → Prop) (P : Nat → V → L2.St → Hp → Prop) (F : Nat → L2.St → Hp → Prop)
def gR : GenEnd := fun n s₀ r s => r = .ok .next ∧ ∃ i σ H, n + i = N + 1 ∧ F i σ H ∧ Inv (gCx X s0 H0 NG fp cenv) ([(a, ob)] ++ pinsAt S s₀.heap) σ H s
def gY : Protocol := fun n s₀ v s kap => ∃ i y σ H, n + i = N ∧ i < N ∧ RelV y v ∧ P i y σ H ∧ Inv (gCx X s0 H0 NG fp cenv) ([(a, ob)] ++ pinsAt S s₀.heap) σ H s ∧ tn (i + 1) s.heap ∧ (∀ b ∈ fp, H b = none) ∧ (∀ b ∈ S, H b = none) ∧
  ∀ s'' : Shared, Z (i + 1) σ H → Inv (gCx X s0 H0 NG fp cenv) [(a, ob)] σ H s'' → tn (i + 1) s''.heap → SOk S H s'' → kap (.send .none) s''
end
structure GFix (X : Cx) (s0 : Shared) (fp : List Addr) (cenv : Env) (a : Addr) (S : List Addr) : Prop where
  f : ∀ b ∈ fp, b ≠ cenv.locals ∧ b ∉ frs X.stack ∧ (∀ x c, cenv.cells.lookup x = some c → c ≠ b) ∧ b ≠ a ∧ b ∉ S
  s : ∀ b ∈ S, s0.heap.objs.size ≤ b ∧ b ≠ cenv.locals ∧ b ∉ frs X.stack ∧ (∀ x c, cenv.cells.lookup x = some c → c ≠ b) ∧ b ≠ a
section
variable {X : Cx} {s0 : Shared} {H0 : Hp} {NG : List Str} {fp : List Addr} {cenv : Env} {a : Addr} {ob : Obj} {S : List Addr} {tn : Nat → Heap → Prop} {N : Nat} {Z : Nat → L2.St → Hp → Prop} {P : Nat → V → L2.St → Hp → Prop} {F : Nat → L2.St → Hp → Prop}
theorem seg_loop {elt tg iter : Expr} {scope : Scope} {gpos : Pos} {it C : Addr} {code : Value} {J : It} {g : TG} {te : TE} (hce : cenv = gEnv X scope C code) (hco : scope.isCoroutine = false) (fx : GFix X s0 fp cenv a S)
    (T : Turn X.prog X.w X.K tg J fp it tn) (hg : PG (gCx X s0 H0 NG fp cenv) tg g) (he : PE (gCx X s0 H0 NG fp cenv) elt te)
    (turn : ∀ i σ H, Z i σ H → (J.stop i H ∧ F i σ H) ∨ (J.go i H ∧ i < N ∧ ∀ x H2, J.yld i H x H2 → g x σ H2 fun σ2 H3 => te σ2 H3 fun y H4 => P i y σ2 H4)) :
    ∀ (k i : Nat) (s : Shared) (σ : L2.St) (H : Hp), N - i = k → i ≤ N → Z i σ H → Inv (gCx X s0 H0 NG fp cenv) [(a, ob)] σ H s → tn i s.heap → (∀ b ∈ fp, H b = none) → SOk S H s →
      Seg (model X.prog X.w) X.A.in1.in1 (gR X s0 H0 NG fp cenv a ob S N F) (gY X s0 H0 NG fp cenv a ob S tn N Z P) (N + 1 - i) s (gCode X elt tg iter scope gpos it C code) ((model X.prog X.w).den (gCode X elt tg iter scope gpos it C code)) [] s := by
  subst hce
  intro k
  induction k with
  | zero =>
    intro i s σ H hk hi hZ I st fr so
    have fS : ∀ b ∈ S, FpOk (gCx X s0 H0 NG fp (gEnv X scope C code)) [(a, ob)] H b := fun b hb => ⟨(so b hb).1, (fx.s b hb).2.1, (fx.s b hb).2.2.1, .inr (fx.s b hb).1, (fx.s b hb).2.2.2.1, fun p hp => by
      have hp : p ∈ [(a, ob)] := hp
      rw [List.mem_singleton.mp hp]; exact Ne.symm (fx.s b hb).2.2.2.2⟩
    have I1 := I.pinned fS fun b hb => (so b hb).2
    have fF : ∀ {H' : Hp}, (∀ b ∈ fp, H' b = none) → ∀ b ∈ fp, FpOk (gCx X s0 H0 NG fp (gEnv X scope C code)) ([(a, ob)] ++ pinsAt S s.heap) H' b := fun hn b hb => ⟨hn b hb, (fx.f b hb).1, (fx.f b hb).2.1, .inl hb, (fx.f b hb).2.2.1, fun p hp => by
      have hp : p ∈ [(a, ob)] ++ pinsAt S s.heap := hp
      rcases List.mem_append.mp hp with hp | hp
      · rw [List.mem_singleton.mp hp]; exact Ne.symm (fx.f b hb).2.2.2.1
      · exact fun z => (fx.f b hb).2.2.2.2 (by rw [← z]; exact (of_pinsAt hp).1)⟩
    show Seg _ X.A.in1.in1 _ _ _ s _ ((compTurn (.GeneratorExp elt [⟨tg, iter, [], 0⟩] scope gpos) 0 (.ref it) .none (gEnv X scope C code)).onRaise (leaving (gEnv X scope C code))) [] s
    rw [compTurn_gen, Sem.onRaise_eq_wrap]
    refine seg_bind_wrap (wpAny_standAt ?_)
    rcases turn i σ H hZ with ⟨stop, hF⟩ | ⟨_, hlt, _⟩
    · refine seg_bind_wrap (thn (T.done (gCx X s0 H0 NG fp (gEnv X scope C code)) rfl rfl rfl rfl i _ s σ H _ I1 (fF fr) st stop) fun r s1 ⟨hr, J1⟩ => ?_)
      subst hr
      exact seg_end (.ok .next) ⟨rfl, i, σ, H, by omega, hF, J1⟩
    · omega
  | succ k ih =>
    intro i s σ H hk hi hZ I st fr so
    have fS : ∀ b ∈ S, FpOk (gCx X s0 H0 NG fp (gEnv X scope C code)) [(a, ob)] H b := fun b hb => ⟨(so b hb).1, (fx.s b hb).2.1, (fx.s b hb).2.2.1, .inr (fx.s b hb).1, (fx.s b hb).2.2.2.1, fun p hp => by
      have hp : p ∈ [(a, ob)] := hp
      rw [List.mem_singleton.mp hp]; exact Ne.symm (fx.s b hb).2.2.2.2⟩
    have I1 := I.pinned fS fun b hb => (so b hb).2
    have fF : ∀ {H' : Hp}, (∀ b ∈ fp, H' b = none) → ∀ b ∈ fp, FpOk (gCx X s0 H0 NG fp (gEnv X scope C code)) ([(a, ob)] ++ pinsAt S s.heap) H' b := fun hn b hb => ⟨hn b hb, (fx.f b hb).1, (fx.f b hb).2.1, .inl hb, (fx.f b hb).2.2.1, fun p hp => by
      have hp : p ∈ [(a, ob)] ++ pinsAt S s.heap := hp
      rcases List.mem_append.mp hp with hp | hp
      · rw [List.mem_singleton.mp hp]; exact Ne.symm (fx.f b hb).2.2.2.1
      · exact fun z => (fx.f b hb).2.2.2.2 (by rw [← z]; exact (of_pinsAt hp).1)⟩
    show Seg _ X.A.in1.in1 _ _ _ s _ ((compTurn (.GeneratorExp elt [⟨tg, iter, [], 0⟩] scope gpos) 0 (.ref it) .none (gEnv X scope C code)).onRaise (leaving (gEnv X scope C code))) [] s
    rw [compTurn_gen, Sem.onRaise_eq_wrap]
    refine seg_bind_wrap (wpAny_standAt ?_)
    rcases turn i σ H hZ with ⟨stop, hF⟩ | ⟨go, hlt, step⟩
    · refine seg_bind_wrap (thn (T.done (gCx X s0 H0 NG fp (gEnv X scope C code)) rfl rfl rfl rfl i _ s σ H _ I1 (fF fr) st stop) fun r s1 ⟨hr, J1⟩ => ?_)
      subst hr
      exact seg_end (.ok .next) ⟨rfl, i, σ, H, by omega, hF, J1⟩
    · refine seg_bind_wrap (thn (T.item (gCx X s0 H0 NG fp (gEnv X scope C code)) rfl rfl rfl rfl i _ s σ H _ I1 (fF fr) st go) fun r s1 ⟨u, hr, h1⟩ => ?_)
      subst hr
      refine seg_bind_wrap (thn h1 fun _ s2 ⟨x, H2, I2, r2, y2, st2, fr2⟩ => ?_)
      have I2' := I2.pinned (fF fr2) (T.obj _ _ st2)
      refine seg_bind_wrap (wpAny_mono (hg.run _ s2 σ H2 x u _ I2' r2 (step x H2 y2)) (fun _ s3 ⟨σ3, H3, I3, q3⟩ => ?_) fun _ _ z => z.elim)
      simp only [List.forIn_nil]
      refine seg_bind_wrap (wpAny_pure ?_)
      simp only [if_true]
      have hy : ∀ v, yieldOut (gEnv X scope C code) v = yieldValue v := fun v => by
        show (if scope.isCoroutine = true then _ else _) = _
        simp only [hco, Bool.false_eq_true, if_false]
      simp only [hy]
      rw [Sem.bind_eq_wrap', Sem.bind_eq_wrap', Sem.wrap_wrap, Sem.wrap_wrap]
      refine seg_wrap (wpAny_mono (he.run _ s3 σ3 H3 _ I3 q3) (fun v s4 ⟨y, H4, I4, r4, q4⟩ => ?_) fun _ _ z => z.elim)
      have en : N + 1 - i = (N + 1 - (i + 1)) + 1 := by omega
      rw [en]
      have pinF : ∀ b ∈ fp, ∃ o, s2.heap.get? b = some o ∧ s4.heap.get? b = some o ∧ H4 b = none := fun b hb => by
        obtain ⟨o, e, d⟩ := T.obj _ _ st2 b hb
        have := I4.pin (b, o) (List.mem_append_right _ (List.mem_append_right _ (mem_pinsAt hb e)))
        exact ⟨o, e, this.1, this.2.1⟩
      have st4 : tn (i + 1) s4.heap := T.keep _ _ _ st2 fun b hb o e => by
        obtain ⟨o', e1, e2, _⟩ := pinF b hb
        rw [e] at e1; cases e1
        exact e2
      have fr4 : ∀ b ∈ fp, H4 b = none := fun b hb => (pinF b hb).elim fun _ h => h.2.2
      have fS4 : ∀ b ∈ S, H4 b = none := fun b hb => by
        obtain ⟨_, o, e, _⟩ := so b hb
        exact (I4.pin (b, o) (List.mem_append_right _ (List.mem_append_left _ (List.mem_append_right _ (mem_pinsAt hb e))))).2.1
      refine seg_at (seg_yield rfl rfl rfl ⟨i, y, σ3, H4, by omega, hlt, r4, q4, I4.unpinned, st4, fr4, fS4, fun s'' z1 z2 z3 z4 => ?_⟩)
      exact seg_again rfl (ih (i + 1) s'' σ3 H4 (by omega) hlt z1 z2 z3 fr4 z4)
theorem seg_start {elt tg iter : Expr} {scope : Scope} {gpos : Pos} {it C : Addr} {code : Value} {J : It} {g : TG} {te : TE} (hce : cenv = gEnv X scope C code) (hco : scope.isCoroutine = false) (fx : GFix X s0 fp cenv a S)
    (T : Turn X.prog X.w X.K tg J fp it tn) (hg : PG (gCx X s0 H0 NG fp cenv) tg g) (he : PE (gCx X s0 H0 NG fp cenv) elt te)
    (turn : ∀ i σ H, Z i σ H → (J.stop i H ∧ F i σ H) ∨ (J.go i H ∧ i < N ∧ ∀ x H2, J.yld i H x H2 → g x σ H2 fun σ2 H3 => te σ2 H3 fun y H4 => P i y σ2 H4))
    (s : Shared) (σ : L2.St) (H : Hp) (hZ : Z 0 σ H) (I : Inv (gCx X s0 H0 NG fp cenv) [(a, ob)] σ H s) (st : tn 0 s.heap) (fr : ∀ b ∈ fp, H b = none) (so : SOk S H s) :
      Seg (model X.prog X.w) X.A.in1.in1 (gR X s0 H0 NG fp cenv a ob S N F) (gY X s0 H0 NG fp cenv a ob S tn N Z P) (N + 1) s (gCode0 X elt tg iter scope gpos it C code) ((model X.prog X.w).den (gCode0 X elt tg iter scope gpos it C code)) [] s := by
  have loop := seg_loop (elt := elt) (tg := tg) (iter := iter) (gpos := gpos) (it := it) hce hco fx T hg he turn N 0 s σ H rfl (Nat.zero_le _) hZ I st fr so
  show Seg _ X.A.in1.in1 _ _ _ s _ ((compStart (.GeneratorExp elt [⟨tg, iter, [], 0⟩] scope gpos) 0 (.ref it) .none (gEnv X scope C code)).onRaise (leaving (gEnv X scope C code))) [] s
  unfold compStart
  rw [Sem.onRaise_eq_wrap]
  show Seg _ X.A.in1.in1 _ _ _ s _ ((ask >>= _).wrap _ _ _ _) [] s
  refine seg_bind_wrap (wpAny_askSetting ?_)
  split
  · exact seg_again rfl loop
  · first
      | exact seg_bind_wrap (wpAny_rule (seg_bind_wrap (wpAny_standAt (seg_bind_wrap (T.self _ 0 s _ _ st (seg_again rfl loop))))))
      | (refine seg_bind_wrap (wpAny_rule ?_); show Seg _ X.A.in1.in1 _ _ _ s _ ((standAt iter.pos >>= _).wrap _ _ _ _) [] s; exact seg_bind_wrap (wpAny_standAt (seg_bind_wrap (T.self _ 0 s _ _ st (seg_again rfl loop)))))
end
theorem bare_set {gens : Array GenState} {g : Nat} {x : GenState} (h : AllBare gens) (hx : x.bare = true) : AllBare (gens.setIfInBounds g x) := fun y hy => by
  rcases Array.mem_or_eq_of_mem_setIfInBounds hy with h1 | h1
  · exact h y h1
  · rw [h1]; exact hx
section
variable (X : Cx) (s0 : Shared) (H0 : Hp) (NG : List Str) (fp : List Addr) (cenv : Env) (a : Addr) (ob : Obj) (g : Nat) (S : List Addr) (tn : Nat → Heap → Prop) (N : Nat) (Z : Nat → L2.St → Hp → Prop) (P : Nat → V → L2.St → Hp → Prop) (F : Nat → L2.St → Hp → Prop)
/-- the generator sleeps at turn i -/
def GenSt (i : Nat) (s : Shared) : Prop := ∃ σ H, i ≤ N ∧ Z i σ H ∧ Inv (gCx X s0 H0 NG fp cenv) [(a, ob)] σ H s ∧ tn i s.heap ∧ (∀ b ∈ fp, H b = none) ∧ SOk S H s ∧ ∃ gs, s.gens[g]? = some gs ∧
  ∀ s'' : Shared, Inv (gCx X s0 H0 NG fp cenv) [(a, ob)] σ H s'' → tn i s''.heap → SOk S H s'' → gs.Goes (model X.prog X.w) X.A.in1.in1 (gR X s0 H0 NG fp cenv a ob S N F) (gY X s0 H0 NG fp cenv a ob S tn N Z P) (N + 1 - i) (.send .none) s''
def GenNext (i : Nat) (s : Shared) (r : Option Value) (s' : Shared) : Prop :=
  (r = none ∧ ∃ σ H, F i σ H ∧ Inv (gCx X s0 H0 NG fp cenv) [(a, ob)] σ H s' ∧ SOk S H s' ∧ ∀ b ∈ S, s'.heap.get? b = s.heap.get? b) ∨
  ∃ v y σ H, r = some v ∧ i < N ∧ RelV y v ∧ P i y σ H ∧ Inv (gCx X s0 H0 NG fp cenv) [(a, ob)] σ H s' ∧ SOk S H s' ∧ (∀ b ∈ S, s'.heap.get? b = s.heap.get? b) ∧
    (Z (i + 1) σ H → ∀ s'' : Shared, Inv (gCx X s0 H0 NG fp cenv) [(a, ob)] σ H s'' → (∀ b ∈ fp, s''.heap.get? b = s'.heap.get? b) → SOk S H s'' → s''.gens = s'.gens → GenSt X s0 H0 NG fp cenv a ob g S tn N Z P F (i + 1) s'')
end
section
variable {X : Cx} {s0 : Shared} {H0 : Hp} {NG : List Str} {fp : List Addr} {cenv : Env} {a : Addr} {ob : Obj} {g : Nat} {S : List Addr} {tn : Nat → Heap → Prop} {N : Nat} {Z : Nat → L2.St → Hp → Prop} {P : Nat → V → L2.St → Hp → Prop} {F : Nat → L2.St → Hp → Prop}
theorem gen_next {tg : Expr} {J : It} {it : Addr} (T : Turn X.prog X.w X.K tg J fp it tn) (hob : ∀ h : Heap, h.get? a = some ob → h.IsGen a g) (hd : X.A.handled = none) (hroom : X.A.depth < recursionLimit) {i : Nat} {s : Shared} {E : Value → Shared → Prop}
    (h : GenSt X s0 H0 NG fp cenv a ob g S tn N Z P F i s) : wpAny (model X.prog X.w) X.A.in1 (pyNext (.ref a)) (GenNext X s0 H0 NG fp cenv a ob g S tn N Z P F i s) E s := by
  obtain ⟨σ, H, hi, hZ, I, st, fr, so, gs, hgs, hgo⟩ := h
  have pa := I.pin (a, ob) (List.mem_append_right _ (List.mem_singleton.mpr rfl))
  have hbs : AllBare (s.setGen g .running).gens := bare_set I.bare rfl
  have hgl : g < s.gens.size := (Array.getElem?_eq_some_iff.mp hgs).1
  refine GenW.wpAny_gsz (n := g + 1) hgl ?_
  refine wpAny_pyNext_genexpQ (P := fun n s₀ s => ∃ i σ H, n + i = N + 1 ∧ F i σ H ∧ Inv (gCx X s0 H0 NG fp cenv) ([(a, ob)] ++ pinsAt S s₀.heap) σ H s) hd I.nolimit hroom (hob _ pa.1) hgs (hgo _ (inv_gens (t' := s.toks) I hbs) st so) (fun v s₁ gs' hb hv => ?_) (fun s₁ hp h' hk => ?_)
  · intro hsz
    obtain ⟨i', y, σ2, H2, e1, hlt, rv, hP, I2, st2, fr2, fS2, kap⟩ := hv
    have ei : i' = i := by omega
    subst ei
    have pS : ∀ b ∈ S, ∃ o, s.heap.get? b = some o ∧ s₁.heap.get? b = some o ∧ ∀ v, o.data ≠ .cell v := fun b hb => by
      obtain ⟨_, o, e, d⟩ := so b hb
      exact ⟨o, e, (I2.pin (b, o) (List.mem_append_right _ (List.mem_append_right _ (mem_pinsAt hb e)))).1, d⟩
    have hb2 : AllBare (s₁.setGen g gs').gens := bare_set I2.bare hb
    refine .inr ⟨v, y, σ2, H2, rfl, hlt, rv, hP, inv_gens (t' := s₁.toks) I2.unpinned hb2, fun b hb => ⟨fS2 b hb, (pS b hb).elim fun o h => ⟨o, h.2.1, h.2.2⟩⟩, fun b hb => ?_, fun hZ2 s'' J1 kf so2 eg => ?_⟩
    · obtain ⟨o, e, e2, _⟩ := pS b hb
      exact e2.trans e.symm
    · have stn : tn (i' + 1) s''.heap := T.keep _ _ _ st2 fun b hb o e => (kf b hb).trans e
      refine ⟨σ2, H2, hlt, hZ2, J1, stn, fr2, so2, gs', ?_, fun s3 J3 st3 so3 => ?_⟩
      · rw [eg]
        exact L2.setGen_at (by
          have q : (s₁.setGen g gs').gens.size = s₁.gens.size := GenW.setGen_size _ _ _
          have hsz' : g + 1 ≤ (s₁.setGen g gs').gens.size := hsz
          omega)
      · have e3 : N + 1 - i' = (N + 1 - (i' + 1)) + 1 := by omega
        have := kap s3 hZ2 J3 st3 so3
        rw [e3] at this
        exact this
  · intro _
    obtain ⟨i', σ2, H2, e1, hF, I2⟩ := hp
    have ei : i' = i := by omega
    subst ei
    have pS : ∀ b ∈ S, ∃ o, s.heap.get? b = some o ∧ s₁.heap.get? b = some o ∧ (∀ v, o.data ≠ .cell v) ∧ H2 b = none := fun b hb => by
      obtain ⟨_, o, e, d⟩ := so b hb
      have p := I2.pin (b, o) (List.mem_append_right _ (List.mem_append_right _ (mem_pinsAt hb e)))
      exact ⟨o, e, p.1, d, p.2.1⟩
    have hb2 : AllBare (s₁.setGen g .finished).gens := bare_set I2.bare rfl
    have J1 := (inv_gens (t' := s₁.toks) I2.unpinned hb2).kept (t' := s₁.toks) hk
    refine .inl ⟨rfl, σ2, H2, hF, J1, fun b hb => ⟨(pS b hb).elim fun _ h => h.2.2.2, (pS b hb).elim fun o h => ⟨o, hk _ _ h.2.1, h.2.2.1⟩⟩, fun b hb => ?_⟩
    obtain ⟨o, e, e2, _⟩ := pS b hb
    exact (hk _ _ e2).trans e.symm
theorem all_loop {tg : Expr} {J : It} {it : Addr} {Q : VK} (T : Turn X.prog X.w X.K tg J fp it tn) (hob : ∀ h : Heap, h.get? a = some ob → h.IsGen a g) (hd : X.A.handled = none) (hroom : X.A.depth < recursionLimit) : ∀ (k i : Nat) (s : Shared), N - i = k →
    GenSt X s0 H0 NG fp cenv a ob g [] tn N Z (fun i y σ H => (y = .bl true ∧ Z (i + 1) σ H) ∨ (y = .bl false ∧ Q (.bl false) H)) (fun _ _ H => Q (.bl true) H) i s →
    codeAny (model X.prog X.w) X.A (.builtin "all.loop" ⟨[.ref a], []⟩) (fun r s' => ∃ b σ H, r = .ok (.ret (.bool b)) ∧ Inv (gCx X s0 H0 NG fp cenv) [(a, ob)] σ H s' ∧ Q (.bl b) H) s := by
  intro k
  induction k with
  | zero =>
    intro i s hk h
    refine codeAny_builtin F.entry_all_loop ?_
    rw [Around.under_plainId F.plain_all_loop _]
    show wpAny _ X.A.in1 (pyNext (.ref a) >>= _) _ _ s
    refine wpAny_bind (thn (gen_next T hob hd hroom h) fun r s' hn => ?_)
    rcases hn with ⟨rfl, σ, H, hF, I, _⟩ | ⟨v, y, σ, H, rfl, hlt, _⟩
    · exact wpAny_bind (wpAny_rule (wpAny_pure ⟨true, σ, H, rfl, I, hF⟩))
    · omega
  | succ k ih =>
    intro i s hk h
    refine codeAny_builtin F.entry_all_loop ?_
    rw [Around.under_plainId F.plain_all_loop _]
    show wpAny _ X.A.in1 (pyNext (.ref a) >>= _) _ _ s
    refine wpAny_bind (thn (gen_next T hob hd hroom h) fun r s' hn => ?_)
    rcases hn with ⟨rfl, σ, H, hF, I, _⟩ | ⟨v, y, σ, H, rfl, hlt, rv, hP, I, so, _, next⟩
    · exact wpAny_bind (wpAny_rule (wpAny_pure ⟨true, σ, H, rfl, I, hF⟩))
    · rcases hP with ⟨rfl, hZ⟩ | ⟨rfl, hQ⟩
      · obtain rfl : v = .bool true := rv
        refine wpAny_bind (wpAny_holding (wpAny_truthy_bool ?_))
        refine wpAny_bind (wpAny_letGo ?_)
        simp only [if_true]
        exact wpAny_pure ⟨plainId_quiet F.plain_all_loop _, ih (i + 1) _ (by omega) (next hZ s' I (fun _ _ => rfl) so rfl)⟩
      · obtain rfl : v = .bool false := rv
        refine wpAny_bind (wpAny_holding (wpAny_truthy_bool ?_))
        refine wpAny_bind (wpAny_letGo ?_)
        simp only [Bool.false_eq_true, if_false]
        exact wpAny_bind (wpAny_rule (wpAny_pure ⟨false, σ, H, rfl, I, hQ⟩))
theorem any_loop {tg : Expr} {J : It} {it : Addr} {Q : VK} (T : Turn X.prog X.w X.K tg J fp it tn) (hob : ∀ h : Heap, h.get? a = some ob → h.IsGen a g) (hd : X.A.handled = none) (hroom : X.A.depth < recursionLimit) : ∀ (k i : Nat) (s : Shared), N - i = k →
    GenSt X s0 H0 NG fp cenv a ob g [] tn N Z (fun i y σ H => (y = .bl false ∧ Z (i + 1) σ H) ∨ (y = .bl true ∧ Q (.bl true) H)) (fun _ _ H => Q (.bl false) H) i s →
    codeAny (model X.prog X.w) X.A (.builtin "any.loop" ⟨[.ref a], []⟩) (fun r s' => ∃ b σ H, r = .ok (.ret (.bool b)) ∧ Inv (gCx X s0 H0 NG fp cenv) [(a, ob)] σ H s' ∧ Q (.bl b) H) s := by
  intro k
  induction k with
  | zero =>
    intro i s hk h
    refine codeAny_builtin F.entry_any_loop ?_
    rw [Around.under_plainId F.plain_any_loop _]
    show wpAny _ X.A.in1 (pyNext (.ref a) >>= _) _ _ s
    refine wpAny_bind (thn (gen_next T hob hd hroom h) fun r s' hn => ?_)
    rcases hn with ⟨rfl, σ, H, hF, I, _⟩ | ⟨v, y, σ, H, rfl, hlt, _⟩
    · exact wpAny_bind (wpAny_rule (wpAny_pure ⟨false, σ, H, rfl, I, hF⟩))
    · omega
  | succ k ih =>
    intro i s hk h
    refine codeAny_builtin F.entry_any_loop ?_
    rw [Around.under_plainId F.plain_any_loop _]
    show wpAny _ X.A.in1 (pyNext (.ref a) >>= _) _ _ s
    refine wpAny_bind (thn (gen_next T hob hd hroom h) fun r s' hn => ?_)
    rcases hn with ⟨rfl, σ, H, hF, I, _⟩ | ⟨v, y, σ, H, rfl, hlt, rv, hP, I, so, _, next⟩
    · exact wpAny_bind (wpAny_rule (wpAny_pure ⟨false, σ, H, rfl, I, hF⟩))
    · rcases hP with ⟨rfl, hZ⟩ | ⟨rfl, hQ⟩
      · obtain rfl : v = .bool false := rv
        refine wpAny_bind (wpAny_holding (wpAny_truthy_bool ?_))
        refine wpAny_bind (wpAny_letGo ?_)
        simp only [Bool.false_eq_true, if_false]
        exact wpAny_pure ⟨plainId_quiet F.plain_any_loop _, ih (i + 1) _ (by omega) (next hZ s' I (fun _ _ => rfl) so rfl)⟩
      · obtain rfl : v = .bool true := rv
        refine wpAny_bind (wpAny_holding (wpAny_truthy_bool ?_))
        refine wpAny_bind (wpAny_letGo ?_)
        simp only [if_true]
        exact wpAny_bind (wpAny_rule (wpAny_pure ⟨true, σ, H, rfl, I, hQ⟩))
/-- the sum so far stands in the list at S -/
theorem sum_loop {tg : Expr} {J : It} {it : Addr} {Q : VK} {S : Addr} {vals : List Int} (hfp : ∀ b ∈ fp, b ≠ S) (hSa : S ≠ a) (T : Turn X.prog X.w X.K tg J fp it tn) (hob : ∀ h : Heap, h.get? a = some ob → h.IsGen a g) (hd : X.A.handled = none) (hroom : X.A.depth < recursionLimit)
    (hS : s0.heap.objs.size ≤ S ∧ S ≠ cenv.locals ∧ S ∉ frs X.stack ∧ (∀ x c, cenv.cells.lookup x = some c → c ≠ S))
    (hfit : ∀ j v, vals[j]? = some v → InLong v ∧ InLong ((vals.take j).sum + v)) : ∀ (k i : Nat) (s : Shared) (tA : Tok) (c : Nat), N - i = k →
    GenSt X s0 H0 NG fp cenv a ob g [S] tn N Z (fun i y σ H => ∃ v, vals[i]? = some v ∧ y = .int v ∧ Z (i + 1) σ H) (fun i _ H => i = vals.length ∧ Q (.int vals.sum) H) i s → s.heap.get? S = some { cls := .type "list", dict := none, data := .seq #[.int (vals.take i).sum tA] c, slots := #[] } →
    codeAny (model X.prog X.w) X.A (.builtin "sum.loop" ⟨[.ref a, .ref S, rawInt 0, rawInt 0], []⟩) (fun r s' => ∃ t σ H, r = .ok (.ret (.int vals.sum t)) ∧ Inv (gCx X s0 H0 NG fp cenv) [(a, ob)] σ H s' ∧ Q (.int vals.sum) H) s := by
  intro k
  have fin : ∀ (i : Nat) (tA : Tok), i = vals.length → (vals.take i).sum = vals.sum := fun i _ e => by rw [e, List.take_length]
  induction k with
  | zero =>
    intro i s tA c hk h hs
    refine codeAny_builtin F.entry_sum_loop ?_
    rw [Around.under_plainId F.plain_sum_loop _]
    show wpAny _ X.A.in1 (seqItems? (.ref S) >>= _) _ _ s
    refine wpAny_bind (wpAny_seqItems hs rfl ?_)
    show wpAny _ X.A.in1 (tryCatch (pyNext (.ref a)) _ >>= _) _ _ s
    refine wpAny_bind (wpAny_tryCatch (thn (gen_next T hob hd hroom h) fun r s' hn => ?_))
    rcases hn with ⟨rfl, σ, H, ⟨e, hF⟩, I, _⟩ | ⟨v, y, σ, H, rfl, hlt, _⟩
    · exact wpAny_pure ⟨tA, σ, H, by rw [← fin i tA e]; rfl, I, hF⟩
    · omega
  | succ k ih =>
    intro i s tA c hk h hs
    refine codeAny_builtin F.entry_sum_loop ?_
    rw [Around.under_plainId F.plain_sum_loop _]
    show wpAny _ X.A.in1 (seqItems? (.ref S) >>= _) _ _ s
    refine wpAny_bind (wpAny_seqItems hs rfl ?_)
    show wpAny _ X.A.in1 (tryCatch (pyNext (.ref a)) _ >>= _) _ _ s
    refine wpAny_bind (wpAny_tryCatch (thn (gen_next T hob hd hroom h) fun r s' hn => ?_))
    rcases hn with ⟨rfl, σ, H, ⟨e, hF⟩, I, _⟩ | ⟨v, y, σ, H, rfl, hlt, rv, ⟨z, hz, rfl, hZ⟩, I, so, same, next⟩
    · exact wpAny_pure ⟨tA, σ, H, by rw [← fin i tA e]; rfl, I, hF⟩
    · obtain ⟨t, rfl⟩ := _root_.id rv
      have hS' : s'.heap.get? S = some { cls := .type "list", dict := none, data := .seq #[.int (vals.take i).sum tA] c, slots := #[] } := (same S (List.mem_singleton.mpr rfl)).trans hs
      obtain ⟨⟨f1, f2⟩, f3, f4⟩ := hfit i z hz
      have hc : ((decide (-(2 ^ 63) ≤ z) && decide (z < 2 ^ 63)) && (decide (-(2 ^ 63) ≤ (vals.take i).sum + z) && decide ((vals.take i).sum + z < 2 ^ 63))) = true := by
        simp only [Bool.and_eq_true, decide_eq_true_eq]
        exact ⟨⟨f1, f2⟩, f3, f4⟩
      have es : (vals.take (i + 1)).sum = (vals.take i).sum + z := by
        rw [List.take_succ, hz]; simp
      show wpAny _ X.A.in1 (if (_ : Bool) = true then (mkInt ((vals.take i).sum + z) >>= _) else _) _ _ _
      split
      · refine wpAny_bind (wpAny_mkInt ?_)
        show wpAny _ X.A.in1 (updateSeq S (fun _ => #[.int ((vals.take i).sum + z) s'.toks]) >>= _) _ _ _
        refine wpAny_bind ?_
        refine wpAny_updateSeq hS' rfl (wpAny_pure ⟨plainId_quiet F.plain_sum_loop _, ih (i + 1) _ s'.toks _ (by omega) (next hZ _ ?_ (fun b hb => ?_) ?_ rfl) (by rw [es]; exact Heap.get?_update_self _ hS' rfl)⟩)
        · refine (inv_gens (t' := s'.toks + 1) I I.bare).turned (it := S) (fun b o hb e => (Heap.get?_update_other _ _ (Ne.symm hb)).trans e) (so S (List.mem_singleton.mpr rfl)).1 hS.2.1 (.inr hS.1) hS.2.2.2 fun p hp => ?_
          have hp : p ∈ [(a, ob)] := hp
          rw [List.mem_singleton.mp hp]
          exact Ne.symm hSa
        · exact Heap.get?_update_other _ _ (Ne.symm (hfp b hb))
        · intro b hb
          rw [List.mem_singleton.mp hb]
          exact ⟨(so S (List.mem_singleton.mpr rfl)).1, _, Heap.get?_update_self _ hS' rfl, fun v e => by cases e⟩
      · rename_i hn
        exact absurd hc hn
end
/-! ### the making -/
/-- a generator has been made: a, at s5; H3 is what is held from then on -/
def Made (X : Cx) (pins : List (Addr × Obj)) (σ : L2.St) (NG : List Str) (js : List (Option Nat)) (elt tg iter : Expr) (scope : Scope) (gpos : Pos) (J : It) (H3 : Hp) (a : Addr) (s5 : Shared) : Prop :=
  ∃ (s3 : Shared) (it : Addr) (fp : List Addr) (tn : Nat → Heap → Prop) (C : Addr) (code : Value) (ob : Obj) (g : Nat), Inv X pins σ H3 s3 ∧ Turn X.prog X.w X.K tg J fp it tn ∧ tn 0 s5.heap ∧ (∀ b ∈ fp, FpOk X pins H3 b) ∧ (∀ b ∈ fp, b < s3.heap.objs.size) ∧ C = s3.heap.objs.size ∧ C < a ∧
    Inv (gCx X s3 H3 NG fp (gEnv X scope C code)) [(a, ob)] (capS js σ) H3 s5 ∧ s5.gens[g]? = some (.fresh (gCode0 X elt tg iter scope gpos it C code)) ∧ (∀ h : Heap, h.get? a = some ob → h.IsGen a g)
section
variable {X : Cx} {pins : List (Addr × Obj)} {σ : L2.St} {H : Hp} {s : Shared}
theorem gen_make {c P : Addr} {elt tg iter : Expr} {gpos : Pos} {scope : Scope} {NG : List Str} {js : List (Option Nat)} {wi : TI} {k : Nat} {Q' : Value → Shared → Prop} {R : It → Hp → Prop}
    (hr : Room k X.A) (TB : TabB X.base X.mg c P) (hcode : X.env.code = .ref c) (G : GSc X.env.scope scope) (hi : PI X tg iter wi) (hN : capB X.N NG scope js = true)
    (hs : ∀ v, genFold iter X.env v = pure v) (I : Inv X pins σ H s) (h : wi σ H fun J H1 => TabG H1 P ∧ R J H1)
    (hQ : ∀ J H1 H3 a s5, Tabbed P H1 H3 → R J H1 → Made X pins σ NG js elt tg iter scope gpos J H3 a s5 → Q' (.ref a) s5) :
    wpAny (model X.prog X.w) X.A (eval (.GeneratorExp elt [⟨tg, iter, [], 0⟩] scope gpos) X.env) Q' X.xe s := by
  have hfree : ∀ y ∈ scope.names, y.2 = .free → ∃ c, X.env.cells.lookup y.1 = some c := fun y hy e => by
    rcases G.free y hy e with k | k
    · exact I.ok.has _ (.inl k)
    · exact I.ok.has _ (.inr k)
  refine wpAny_GeneratorExp_make G.co (closure_ok hfree) G.cell G.dot G.kind (by have := hr.dp; omega) ?_ hs
  refine thn (hi.run pins s σ H _ I h) fun xv s1 h1 => thn h1 fun itv s2 h2 => ?_
  obtain ⟨it, fp, tn, J, H2, rfl, I2, T, st2, f2, ⟨ps, hP, ht⟩, hR⟩ := h2
  have hPs : s2.heap.get? P = some { cls := .none, data := .fields ps } := I2.hok P _ hP
  have cd : PySem.W.CodeHd s2.heap c P := TB.code.keeps I2.bk
  refine ⟨I2.nolimit, ?_⟩
  have cont : ∀ (code : Value) (h3 : Heap) (tk : Nat) (more : Array Value), (∀ b o, b ≠ P → s2.heap.get? b = some o → h3.get? b = some o) → h3.get? P = some { cls := .none, data := .fields (ps ++ more) } → TriplesOk (ps ++ more).toList →
      wpAny (model X.prog X.w) X.A (builtinsFor X.env.globals X.env.builtins) (fun bi s₄ =>
        ∀ h' : Heap, h'.Ns s₄.heap.objs.size (fun y => if y = ".0" then some (.ref it) else none) → Heap.SameBut s₄.heap.objs.size (s₄.heap.push { cls := .type "frame", data := .dict #[] }) h' →
          Q' (.ref h'.objs.size) { s₄ with
            gens := s₄.gens.push (.fresh (.compStart (.GeneratorExp elt [⟨tg, iter, [], 0⟩] scope gpos) 0 (.ref it) .none (genEnv scope (cloFrom X.env.cells scope.names []) s₄.heap.objs.size code bi X.env))),
            toks := s₄.toks + 1 + 1 + 1,
            heap := h'.push { cls := .type "generator", data := .fields #[.int s₄.gens.size 0, .str "<genexpr>" (s₄.toks + 1), .str (X.env.qual ++ "<genexpr>") (s₄.toks + 1 + 1)] } }) X.xe { s2 with heap := h3, toks := tk } := by
    intro code h3 tk more hx hP3 ht3
    have J3 : Inv X pins σ (upd H2 P (.tbl (ps ++ more))) { s2 with heap := h3, toks := tk } := inv_tab (g' := s2.gens) (d' := s2.drawn) I2 hP hx hP3 I2.bare
    obtain ⟨bm, ob, e1, e2, e3, e4, e5, e6, e7, e8⟩ := TB.bm
    refine wpAny_builtinsFor (m := X.mg) (by rw [J3.ok.glob]; exact J3.mod.glob.keeps J3.bk) e1 e2 (J3.bk _ _ e5) e6 e7 e8 ?_
    intro h' hn' hs'
    have hfP : ∀ b ∈ fp, b ≠ P := fun b hb z => by
      have := (f2 b hb).1
      rw [z, hP] at this
      cases this
    have hsz : h'.objs.size = h3.objs.size + 1 := by rw [hs'.1, Heap.size_push]
    have keep' : ∀ b o, h3.get? b = some o → h'.get? b = some o := fun b o e => hs'.extBut b o (Nat.ne_of_lt (Heap.lt_size e)) (Heap.get?_push_of_some _ e)
    have keep₅ : ∀ b o, h3.get? b = some o → (h'.push { cls := .type "generator", data := .fields #[.int s2.gens.size 0, .str "<genexpr>" (tk + 1), .str (X.env.qual ++ "<genexpr>") (tk + 1 + 1)] }).get? b = some o :=
      fun b o e => Heap.get?_push_of_some _ (keep' b o e)
    have f3 : ∀ b ∈ fp, FpOk X pins (upd H2 P (.tbl (ps ++ more))) b := fun b hb => ⟨by rw [upd_ne (hfP b hb)]; exact (f2 b hb).1, (f2 b hb).2⟩
    have fl : ∀ b ∈ fp, b < h3.objs.size := fun b hb => by
      obtain ⟨o, e, _⟩ := T.obj _ _ st2 b hb
      exact Heap.lt_size (hx b o (hfP b hb) e)
    have IX := gen_start (s := { s2 with heap := h3, toks := tk }) (NG := NG) (code := code) (it := it) (js := js) (tk := tk + 1 + 1 + 1) (g₁ := s2.gens.push (.fresh (.compStart (.GeneratorExp elt [⟨tg, iter, [], 0⟩] scope gpos) 0 (.ref it) .none (gEnv X scope h3.objs.size code)))) J3 G f3 fl hr.hd (hn'.push _) keep₅ (I2.bare.push rfl) hN
    have aF : h3.objs.size ≤ h'.objs.size := by omega
    refine hQ J H2 _ h'.objs.size _ ⟨⟨ps ++ more, upd_same, ht3⟩, fun b hb => upd_ne hb⟩ hR ⟨{ s2 with heap := h3, toks := tk }, it, fp, tn, h3.objs.size, code, { cls := .type "generator", data := .fields #[.int s2.gens.size 0, .str "<genexpr>" (tk + 1), .str (X.env.qual ++ "<genexpr>") (tk + 1 + 1)] }, s2.gens.size, J3, T, T.keep _ _ _ st2 fun b hb o e => keep₅ b o (hx b o (hfP b hb) e), f3, fl, rfl, (by show h3.objs.size < h'.objs.size; omega), IX.pins_of fun p hp => ?_, Array.getElem?_push_size .., fun h e => ⟨_, _, _, e, rfl, rfl, rfl⟩⟩
    rw [List.mem_singleton.mp hp]
    have nfr : h'.objs.size ∉ frs X.stack := fun z => by
      rcases List.mem_cons.mp (J3.stkSub _ z) with e | e
      · have h1 : X.env.locals < h3.objs.size := J3.lt
        have e : (h'.objs.size : Nat) = X.env.locals := e
        rw [← e] at h1
        exact absurd (Nat.lt_of_lt_of_le h1 aF) (Nat.lt_irrefl _)
      · exact J3.nofs (a := h'.objs.size) aF e
    refine ⟨Heap.get?_push_size _ rfl, J3.hok.fresh aF, ?_, nfr, fun v e => by cases e⟩
    show h'.objs.size ≠ h3.objs.size
    omega
  cases hf : codeAmong gpos ps.toList with
  | none =>
    refine wpAny_genexprCodeX hcode (cd.code hPs ht) (cd.tab hPs) hf fun c' h' tk hx hge hlt hco' _ htab' _ => ?_
    obtain ⟨o1, vs, f1, tf, fl, tg, inF, tx, tt, op, _, _, _, _, _, _, _, _, _, htr, _⟩ := hco'
    exact cont _ h' tk _ (fun b o hb e => hx b o hb e) htab'.2 htr
  | some cv =>
    refine wpAny_genexprCode_hit hcode (cd.code hPs ht) hf ?_
    exact cont cv s2.heap s2.toks #[] (fun _ _ _ e => e) (by rw [Array.append_empty]; exact hPs) (by rw [Array.append_empty]; exact ht)
/-- behind it -/
theorem gen_after {s3 s' : Shared} {H3 H' : Hp} {NG : List Str} {fp : List Addr} {cenv : Env} {pins' : List (Addr × Obj)} {σ' : L2.St} (I : Inv X pins σ H3 s3) (hf : ∀ b ∈ fp, FpOk X pins H3 b) (J : Inv (gCx X s3 H3 NG fp cenv) pins' σ' H' s') : Inv X pins σ H' s' :=
  I.call' J.os J.base J.hok J.bare fun b hb => ⟨(hf b hb).2.2.2.1, (hf b hb).2.1, (hf b hb).2.2.2.2.1, (hf b hb).2.2.2.2.2⟩
end
/-! ### any, all, sum -/
/-- what a generator's frame hangs on -/
structure GPar where
  s : Shared
  H : Hp
  fp : List Addr
  C : Addr
  code : Value
def tQG (al : Bool) (P : Addr) (js : List (Option Nat)) (wi : TI) (g : GPar → TG) (te : GPar → TE) : TE := fun σ H Q => wi σ H fun J H1 => TabG H1 P ∧ ∀ a H3, Tabbed P H1 H3 → ∃ (N : Nat) (Z : Nat → L2.St → Hp → Prop), Z 0 (capS js σ) H3 ∧
  ∀ i σ' H', Z i σ' H' → (J.stop i H' ∧ Q (.bl al) H') ∨ (J.go i H' ∧ i < N ∧ ∀ x H2, J.yld i H' x H2 → g a x σ' H2 fun σ2 H4 => te a σ2 H4 fun y H5 => (y = .bl al ∧ Z (i + 1) σ2 H5) ∨ (y = .bl (!al) ∧ Q (.bl (!al)) H5))
def tSumG (P : Addr) (js : List (Option Nat)) (wi : TI) (g : GPar → TG) (te : GPar → TE) : TE := fun σ H Q => wi σ H fun J H1 => TabG H1 P ∧ ∀ a H3, Tabbed P H1 H3 → ∃ (vals : List Int) (Z : Nat → L2.St → Hp → Prop), (∀ (j : Nat) (v : Int), vals[j]? = some v → InLong v ∧ InLong ((vals.take j).sum + v)) ∧ Z 0 (capS js σ) H3 ∧
  ∀ i σ' H', Z i σ' H' → (J.stop i H' ∧ i = vals.length ∧ Q (.int vals.sum) H') ∨ (J.go i H' ∧ i < vals.length ∧ ∀ x H2, J.yld i H' x H2 → g a x σ' H2 fun σ2 H4 => te a σ2 H4 fun y H5 => ∃ v, vals[i]? = some v ∧ y = .int v ∧ Z (i + 1) σ2 H5)
section
variable {X : Cx} {c P : Addr} {elt tg iter : Expr} {p gpos pos : Pos} {scope : Scope} {NG : List Str} {js : List (Option Nat)} {wi : TI} {g : GPar → TG} {te : GPar → TE} {k : Nat}
theorem gfix {s3 : Shared} {H3 : Hp} {pins : List (Addr × Obj)} {σ : L2.St} {fp : List Addr} {code : Value} {a : Addr} (I : Inv X pins σ H3 s3) (G : GSc X.env.scope scope) (f : ∀ b ∈ fp, FpOk X pins H3 b) (fl : ∀ b ∈ fp, b < s3.heap.objs.size) (ha : s3.heap.objs.size < a) {S : List Addr} (hS : ∀ b ∈ S, a < b) :
    GFix X s3 fp (gEnv X scope s3.heap.objs.size code) a S := by
  have hfree : ∀ y ∈ scope.names, y.2 = .free → ∃ c, X.env.cells.lookup y.1 = some c := fun y hy e => by
    rcases G.free y hy e with k | k
    · exact I.ok.has _ (.inl k)
    · exact I.ok.has _ (.inr k)
  have cm : ∀ {y c}, (cloFrom X.env.cells scope.names []).lookup y = some c → X.env.cells.lookup y = some c := fun {y c} e => by
    rcases cloFrom_mem (PySem.mem_of_lookup e) with hm | ⟨h1, h2⟩
    · cases hm
    · obtain ⟨c1, hc⟩ := hfree _ h1 rfl
      have hc : X.env.cells.lookup y = some c1 := hc
      have e2 : c = c1 := by
        rw [h2, hc] <;> rfl
      rw [e2]
      exact hc
  have nfr : ∀ b, s3.heap.objs.size ≤ b → b ∉ frs X.stack := fun b hb z => by
    rcases List.mem_cons.mp (I.stkSub _ z) with e | e
    · have h1 := I.lt
      rw [← e] at h1
      exact Nat.lt_irrefl _ (Nat.lt_of_lt_of_le h1 hb)
    · exact I.nofs hb e
  refine ⟨fun b hb => ⟨Nat.ne_of_lt (fl b hb), fun z => ?_, fun x c e => (f b hb).2.2.2.2.1 x c (cm e), Nat.ne_of_lt (Nat.lt_trans (fl b hb) ha), fun z => absurd (Nat.lt_trans (Nat.lt_trans (fl b hb) ha) (hS b z)) (Nat.lt_irrefl _)⟩,
    fun b hb => ⟨Nat.le_of_lt (Nat.lt_trans ha (hS b hb)), Nat.ne_of_gt (Nat.lt_trans ha (hS b hb)), nfr b (Nat.le_of_lt (Nat.lt_trans ha (hS b hb))), fun x c e z => ?_, Nat.ne_of_gt (hS b hb)⟩⟩
  · rcases List.mem_cons.mp (I.stkSub b z) with e | e
    · exact (f b hb).2.1 e
    · exact (f b hb).2.2.1 e
  · obtain ⟨v, q⟩ := I.cell x c (cm e)
    have h1 : c < s3.heap.objs.size := q.lt
    rw [z] at h1
    exact Nat.lt_irrefl _ (Nat.lt_trans (Nat.lt_trans ha (hS b hb)) h1)
theorem pe_allG (hr : Room (k + 1) X.A) (hgl : Gl X "all") (hm : X.mg "all" = none) (hb : bootBuiltins "all" = some (.builtin "all")) (TB : TabB X.base X.mg c P) (hcode : X.env.code = .ref c) (G : GSc X.env.scope scope) (hi : PI X tg iter wi) (hN : capB X.N NG scope js = true)
    (hg : ∀ a : GPar, PG (gCx X a.s a.H NG a.fp (gEnv X scope a.C a.code)) tg (g a)) (he : ∀ a : GPar, Room k (gA X (gEnv X scope a.C a.code)) → PE (gCx X a.s a.H NG a.fp (gEnv X scope a.C a.code)) elt (te a)) (hs : ∀ v, genFold iter X.env v = pure v)
    (hst : starEach [.GeneratorExp elt [⟨tg, iter, [], 0⟩] scope gpos] X.env = (false, eval (.GeneratorExp elt [⟨tg, iter, [], 0⟩] scope gpos) X.env) :: starEach [] X.env := by rfl) :
    PE X (.Call (.Name "all" p) [.GeneratorExp elt [⟨tg, iter, [], 0⟩] scope gpos] [] pos) (tQG true P js wi g te) := by
  refine ⟨fun pins s σ H Q I h => ?_⟩
  refine wpAny_Call_Name_kw (ld_blt I hgl hm hb ?_)
  refine PyProof.Rows.callWith_builtin1 ?_ hst (by rfl)
  rw [hst]
  show wpAny _ _ (spliced ((false, eval (.GeneratorExp elt [⟨tg, iter, [], 0⟩] scope gpos) X.env) :: backTo pos (starEach [] X.env))) _ _ s
  refine Calls.spliced_cons (gen_make hr TB hcode G hi hN hs I h fun J H1 H3 a s5 hT hR M => ?_)
  refine Calls.spliced_nil ?_
  obtain ⟨s3, it, fp, tn, C, code, ob, gn, I3, T, st5, f3, fl, rfl, ha, I5, hgs, hob⟩ := M
  obtain ⟨N, Z, z0, turn⟩ := hR ⟨s3, H3, fp, s3.heap.objs.size, code⟩ H3 hT
  have fx : GFix X s3 fp (gEnv X scope s3.heap.objs.size code) a [] := gfix I3 G f3 fl ha (fun b hb => absurd hb (by simp))
  have pa := I5.pin (a, ob) (List.mem_append_right _ (List.mem_singleton.mpr rfl))
  have g0 : GenSt X s3 H3 NG fp (gEnv X scope s3.heap.objs.size code) a ob gn [] tn N Z (fun i y σ H => (y = .bl true ∧ Z (i + 1) σ H) ∨ (y = .bl false ∧ Q (.bl false) H)) (fun _ _ H => Q (.bl true) H) 0 s5 :=
    ⟨_, _, Nat.zero_le _, z0, I5, st5, fun b hb => (f3 b hb).1, fun b hb => absurd hb (by simp), _, hgs, fun s'' J2 st2 so2 => ⟨rfl, seg_start rfl G.co fx T (hg ⟨s3, H3, fp, s3.heap.objs.size, code⟩) (he ⟨s3, H3, fp, s3.heap.objs.size, code⟩ (room_g hr)) turn s'' _ _ z0 J2 st2 (fun b hb => (f3 b hb).1) so2⟩⟩
  refine call_function_tree F.kind_all F.plain_all F.entry_all (F.args_all1 _) ?_
  unfold Builtin.«all»
  refine wpAny_bind (m := oneArg "all" _) (wpAny_pure ?_)
  refine wpAny_bind (wpAny_pyIter_gen (hob _ pa.1) ?_)
  refine wpAny_pure ⟨plainId_quiet F.plain_all_loop _, codeAny_mono (all_loop (Q := Q) T hob hr.hd (by have := hr.dp; omega) N 0 s5 rfl g0) fun r s' hq => ?_⟩
  obtain ⟨b, σ', H', rfl, J2, q⟩ := hq
  exact ⟨.bl b, H', gen_after I3 f3 J2, rfl, q⟩
theorem pe_anyG (hr : Room (k + 1) X.A) (hgl : Gl X "any") (hm : X.mg "any" = none) (hb : bootBuiltins "any" = some (.builtin "any")) (TB : TabB X.base X.mg c P) (hcode : X.env.code = .ref c) (G : GSc X.env.scope scope) (hi : PI X tg iter wi) (hN : capB X.N NG scope js = true)
    (hg : ∀ a : GPar, PG (gCx X a.s a.H NG a.fp (gEnv X scope a.C a.code)) tg (g a)) (he : ∀ a : GPar, Room k (gA X (gEnv X scope a.C a.code)) → PE (gCx X a.s a.H NG a.fp (gEnv X scope a.C a.code)) elt (te a)) (hs : ∀ v, genFold iter X.env v = pure v)
    (hst : starEach [.GeneratorExp elt [⟨tg, iter, [], 0⟩] scope gpos] X.env = (false, eval (.GeneratorExp elt [⟨tg, iter, [], 0⟩] scope gpos) X.env) :: starEach [] X.env := by rfl) :
    PE X (.Call (.Name "any" p) [.GeneratorExp elt [⟨tg, iter, [], 0⟩] scope gpos] [] pos) (tQG false P js wi g te) := by
  refine ⟨fun pins s σ H Q I h => ?_⟩
  refine wpAny_Call_Name_kw (ld_blt I hgl hm hb ?_)
  refine PyProof.Rows.callWith_builtin1 ?_ hst (by rfl)
  rw [hst]
  show wpAny _ _ (spliced ((false, eval (.GeneratorExp elt [⟨tg, iter, [], 0⟩] scope gpos) X.env) :: backTo pos (starEach [] X.env))) _ _ s
  refine Calls.spliced_cons (gen_make hr TB hcode G hi hN hs I h fun J H1 H3 a s5 hT hR M => ?_)
  refine Calls.spliced_nil ?_
  obtain ⟨s3, it, fp, tn, C, code, ob, gn, I3, T, st5, f3, fl, rfl, ha, I5, hgs, hob⟩ := M
  obtain ⟨N, Z, z0, turn⟩ := hR ⟨s3, H3, fp, s3.heap.objs.size, code⟩ H3 hT
  have fx : GFix X s3 fp (gEnv X scope s3.heap.objs.size code) a [] := gfix I3 G f3 fl ha (fun b hb => absurd hb (by simp))
  have pa := I5.pin (a, ob) (List.mem_append_right _ (List.mem_singleton.mpr rfl))
  have g0 : GenSt X s3 H3 NG fp (gEnv X scope s3.heap.objs.size code) a ob gn [] tn N Z (fun i y σ H => (y = .bl false ∧ Z (i + 1) σ H) ∨ (y = .bl true ∧ Q (.bl true) H)) (fun _ _ H => Q (.bl false) H) 0 s5 :=
    ⟨_, _, Nat.zero_le _, z0, I5, st5, fun b hb => (f3 b hb).1, fun b hb => absurd hb (by simp), _, hgs, fun s'' J2 st2 so2 => ⟨rfl, seg_start rfl G.co fx T (hg ⟨s3, H3, fp, s3.heap.objs.size, code⟩) (he ⟨s3, H3, fp, s3.heap.objs.size, code⟩ (room_g hr)) turn s'' _ _ z0 J2 st2 (fun b hb => (f3 b hb).1) so2⟩⟩
  refine call_function_tree F.kind_any F.plain_any F.entry_any (F.args_any1 _) ?_
  unfold Builtin.«any»
  refine wpAny_bind (m := oneArg "any" _) (wpAny_pure ?_)
  refine wpAny_bind (wpAny_pyIter_gen (hob _ pa.1) ?_)
  refine wpAny_pure ⟨plainId_quiet F.plain_any_loop _, codeAny_mono (any_loop (Q := Q) T hob hr.hd (by have := hr.dp; omega) N 0 s5 rfl g0) fun r s' hq => ?_⟩
  obtain ⟨b, σ', H', rfl, J2, q⟩ := hq
  exact ⟨.bl b, H', gen_after I3 f3 J2, rfl, q⟩
theorem pe_sumG (hr : Room (k + 1) X.A) (hgl : Gl X "sum") (hm : X.mg "sum" = none) (hb : bootBuiltins "sum" = some (.builtin "sum")) (TB : TabB X.base X.mg c P) (hcode : X.env.code = .ref c) (G : GSc X.env.scope scope) (hi : PI X tg iter wi) (hN : capB X.N NG scope js = true)
    (hg : ∀ a : GPar, PG (gCx X a.s a.H NG a.fp (gEnv X scope a.C a.code)) tg (g a)) (he : ∀ a : GPar, Room k (gA X (gEnv X scope a.C a.code)) → PE (gCx X a.s a.H NG a.fp (gEnv X scope a.C a.code)) elt (te a)) (hs : ∀ v, genFold iter X.env v = pure v)
    (hst : starEach [.GeneratorExp elt [⟨tg, iter, [], 0⟩] scope gpos] X.env = (false, eval (.GeneratorExp elt [⟨tg, iter, [], 0⟩] scope gpos) X.env) :: starEach [] X.env := by rfl) :
    PE X (.Call (.Name "sum" p) [.GeneratorExp elt [⟨tg, iter, [], 0⟩] scope gpos] [] pos) (tSumG P js wi g te) := by
  refine ⟨fun pins s σ H Q I h => ?_⟩
  refine wpAny_Call_Name_kw (ld_blt I hgl hm hb ?_)
  refine PyProof.Rows.callWith_builtin1 ?_ hst (by rfl)
  rw [hst]
  show wpAny _ _ (spliced ((false, eval (.GeneratorExp elt [⟨tg, iter, [], 0⟩] scope gpos) X.env) :: backTo pos (starEach [] X.env))) _ _ s
  refine Calls.spliced_cons (gen_make hr TB hcode G hi hN hs I h fun J H1 H3 a s5 hT hR M => ?_)
  refine Calls.spliced_nil ?_
  obtain ⟨s3, it, fp, tn, C, code, ob, gn, I3, T, st5, f3, fl, rfl, ha, I5, hgs, hob⟩ := M
  obtain ⟨vals, Z, hfit, z0, turn⟩ := hR ⟨s3, H3, fp, s3.heap.objs.size, code⟩ H3 hT
  have pa := I5.pin (a, ob) (List.mem_append_right _ (List.mem_singleton.mpr rfl))
  have ha5 : a < s5.heap.objs.size := Heap.lt_size pa.1
  have fx : GFix X s3 fp (gEnv X scope s3.heap.objs.size code) a [s5.heap.objs.size] := gfix I3 G f3 fl ha (fun b hb => by rw [List.mem_singleton.mp hb]; exact ha5)
  refine call_function_tree F.kind_sum F.plain_sum F.entry_sum (F.args_sum1 _) ?_
  unfold Builtin.«sum»
  simp only [List.length_cons, List.length_nil]
  rw [if_neg (by decide)]
  refine wpAny_bind (wpAny_of_eq (show Builtin.Builtins.bindParams "sum" ["start"] 0 { } = pure [none] from rfl) ?_)
  refine wpAny_bind (wpAny_pyIter_gen (hob _ pa.1) ?_)
  refine wpAny_bind (wpAny_mkInt ?_)
  refine wpAny_bind (wpAny_pure ?_)
  simp only [List.forIn_cons, List.forIn_nil]
  refine wpAny_bind (wpAny_bind (wpAny_bind (wpAny_isInstance (T := "int") (b := false) (typeIs_int _ _ _) PySem.sub_int_str ?_)))
  simp only [Bool.false_eq_true, if_false]
  refine wpAny_pure (wpAny_bind (wpAny_bind (wpAny_isInstance (T := "int") (b := false) (typeIs_int _ _ _) PySem.sub_int_bytes ?_)))
  simp only [Bool.false_eq_true, if_false]
  refine wpAny_pure (wpAny_bind (wpAny_bind (wpAny_isInstance (T := "int") (b := false) (typeIs_int _ _ _) PySem.sub_int_bytearray ?_)))
  simp only [Bool.false_eq_true, if_false]
  refine wpAny_pure (wpAny_pure ?_)
  refine wpAny_bind (wpAny_newObj_type ?_)
  have I6 : Inv (gCx X s3 H3 NG fp (gEnv X scope s3.heap.objs.size code)) [(a, ob)] (capS js σ) H3 { s5 with heap := s5.heap.push { cls := .type "list", data := .seq #[.int 0 s5.toks] }, toks := s5.toks + 1 } := I5.kept fun b o e => Heap.get?_push_of_some _ e
  have hS6 : (s5.heap.push { cls := .type "list", data := .seq #[.int 0 s5.toks] }).get? s5.heap.objs.size = some { cls := .type "list", data := .seq #[.int 0 s5.toks] } := Heap.get?_push_size _ rfl
  have g0 : GenSt X s3 H3 NG fp (gEnv X scope s3.heap.objs.size code) a ob gn [s5.heap.objs.size] tn vals.length Z (fun i y σ H => ∃ v, vals[i]? = some v ∧ y = .int v ∧ Z (i + 1) σ H) (fun i _ H => i = vals.length ∧ Q (.int vals.sum) H) 0 { s5 with heap := s5.heap.push { cls := .type "list", data := .seq #[.int 0 s5.toks] }, toks := s5.toks + 1 } :=
    ⟨_, _, Nat.zero_le _, z0, I6, T.keep _ _ _ st5 fun b _ o e => Heap.get?_push_of_some _ e, fun b hb => (f3 b hb).1, fun b hb => by
      rw [List.mem_singleton.mp hb]
      exact ⟨I5.hok.fresh (Nat.le_refl _), _, hS6, fun v e => by cases e⟩, _, hgs, fun s'' J2 st2 so2 => ⟨rfl, seg_start rfl G.co fx T (hg ⟨s3, H3, fp, s3.heap.objs.size, code⟩) (he ⟨s3, H3, fp, s3.heap.objs.size, code⟩ (room_g hr)) turn s'' _ _ z0 J2 st2 (fun b hb => (f3 b hb).1) so2⟩⟩
  have hfS := fx.s s5.heap.objs.size (List.mem_singleton.mpr rfl)
  refine wpAny_pure ⟨plainId_quiet F.plain_sum_loop _, codeAny_mono (sum_loop (Q := Q) (fun b hb z => (fx.f b hb).2.2.2.2 (by rw [z]; exact List.mem_singleton.mpr rfl)) hfS.2.2.2.2 T hob hr.hd (by have := hr.dp; omega) ⟨hfS.1, hfS.2.1, hfS.2.2.1, hfS.2.2.2.1⟩ hfit vals.length 0 _ s5.toks _ rfl g0 hS6) fun r s' hq => ?_⟩
  obtain ⟨t, σ', H', rfl, J2, q⟩ := hq
  exact ⟨.int vals.sum, H', gen_after I3 f3 J2, ⟨t, rfl⟩, q⟩
end
end L3G

namespace L3
open PySem L2
open Evl (Ex ex_rd ex_l ex_t sq_of st_of fresh_back)

/-! ### generator expressions -/
def allM {α : Type} (f : α → Option Bool) : List α → Option Bool
  | [] => some true
  | x :: xs => match f x with
    | some true => allM f xs
    | o => o
def anyM {α : Type} (f : α → Option Bool) : List α → Option Bool
  | [] => some false
  | x :: xs => match f x with
    | some false => anyM f xs
    | o => o
def quM {α : Type} (al : Bool) (f : α → Option Bool) : List α → Option Bool
  | [] => some al
  | x :: xs => match f x with
    | some b => if b = al then quM al f xs else some b
    | none => none
theorem quM_all {α : Type} (f : α → Option Bool) : ∀ xs : List α, quM true f xs = allM f xs
  | [] => rfl
  | x :: xs => by
    unfold quM allM
    cases f x with
    | none => rfl
    | some b => cases b with
      | true => exact quM_all f xs
      | false => rfl
theorem quM_any {α : Type} (f : α → Option Bool) : ∀ xs : List α, quM false f xs = anyM f xs
  | [] => rfl
  | x :: xs => by
    unfold quM anyM
    cases f x with
    | none => rfl
    | some b => cases b with
      | false => exact quM_any f xs
      | true => rfl
def mapO {α β : Type} (f : α → Option β) : List α → Option (List β)
  | [] => some []
  | x :: xs => match f x, mapO f xs with
    | some y, some ys => some (y :: ys)
    | _, _ => none
theorem mapO_get {α β : Type} {f : α → Option β} : ∀ {xs : List α} {ys : List β}, mapO f xs = some ys → xs.length = ys.length ∧ ∀ (i : Nat) (x : α), xs[i]? = some x → ∃ y, f x = some y ∧ ys[i]? = some y
  | [], ys, h => by
    obtain rfl : [] = ys := Option.some.inj h
    exact ⟨rfl, fun i x e => by simp at e⟩
  | x :: xs, ys, h => by
    unfold mapO at h
    split at h
    · rename_i y ys' e1 e2
      obtain rfl := Option.some.inj h
      obtain ⟨h1, h2⟩ := mapO_get e2
      refine ⟨congrArg (· + 1) h1, fun i z e => ?_⟩
      cases i with
      | zero => obtain rfl : x = z := by simpa using e
                exact ⟨y, e1, rfl⟩
      | succ i => exact h2 i z (by simpa using e)
    · cases h
def longI (i : Int) : Bool := decide (-(2 ^ 63) ≤ i) && decide (i < 2 ^ 63)
def fits (acc : Int) : List Int → Bool
  | [] => true
  | v :: vs => longI v && longI (acc + v) && fits (acc + v) vs
def sumM {α : Type} (f : α → Option Int) (xs : List α) : Option Int := match mapO f xs with
  | some vs => if fits 0 vs = true then some vs.sum else none
  | none => none
theorem longI_ok {i : Int} (h : longI i = true) : InLong i := by
  unfold longI at h
  rw [Bool.and_eq_true, decide_eq_true_eq, decide_eq_true_eq] at h
  exact h
theorem fits_ok : ∀ {vs : List Int} {acc : Int}, fits acc vs = true → ∀ (j : Nat) (v : Int), vs[j]? = some v → InLong v ∧ InLong (acc + (vs.take j).sum + v)
  | [], _, _, _, _, e => by simp at e
  | w :: vs, acc, h, j, v, e => by
    unfold fits at h
    rw [Bool.and_eq_true, Bool.and_eq_true] at h
    cases j with
    | zero =>
      obtain rfl : w = v := by simpa using e
      exact ⟨longI_ok h.1.1, by simpa using longI_ok h.1.2⟩
    | succ j =>
      have := fits_ok h.2 j v (by simpa using e)
      refine ⟨this.1, ?_⟩
      rw [List.take_succ_cons, List.sum_cons, ← Int.add_assoc]
      exact this.2
section
variable {K : Fg} {M : Fr} {σ : St} {B : Hp} {L L1 L2 L' : List Cell} {α β γ δ : Type} {r : Rep α} {s : Rep β} {t : Rep γ} {ta tb tc te : TE} {tt tu : TT} {tA : TA} {i j k : Int} {b c : Bool} {P : Addr} {js : List (Option Nat)} {wi : TI} {g : L3G.GPar → TG} {ge : L3G.GPar → TE}
theorem Own.tabbed {H H' : Hp} (w : Own K B M L H) (hP : P ∈ M.T) (h : GxR.Tabbed P H H') : Own K B M L H' := by
  obtain ⟨h1, h2⟩ := h
  obtain ⟨t1, t2, t3, t4⟩ := w.t P hP
  refine ⟨fun a u e => ?_, fun a u e => ?_, w.bm, fun x hx => ?_, w.nd, fun R hR => ?_⟩
  · rw [h2 a (ne_of_none e t2)]; exact w.b a u e
  · rw [h2 a (ne_of_none e t3)]; exact w.m a u e
  · obtain ⟨⟨o, a1, a2⟩, a3, a4⟩ := w.l x hx
    exact ⟨⟨o, by rw [h2 x.p (fun e => t4 (by rw [← e]; exact List.mem_map.mpr ⟨x, hx, rfl⟩))]; exact a1, a2⟩, a3, a4⟩
  · obtain ⟨s1, s2, s3, s4⟩ := w.t R hR
    refine ⟨?_, s2, s3, s4⟩
    by_cases e : R = P
    · rw [e]; exact h1
    · obtain ⟨ps, q1, q2⟩ := s1
      exact ⟨ps, by rw [h2 R e]; exact q1, q2⟩
theorem ev_quG (al : Bool) {xs : List α} (hP : P ∈ M.T) (hi : EI K M wi σ B L r xs L1) (f : α → Option Bool) (Sg : St → Prop) (h0 : Sg (L3G.capS js σ)) (hm : quM al f xs = some b)
    (hs : ∀ a x c v B' H' σ', f x = some c → Ex B B' → Sg σ' → Own K B' M L1 H' → r.is K B' v x → ∀ Q : St → VK, (∀ σ2 B2 H2, Sg σ2 → Ex B' B2 → Own K B2 M L1 H2 → Q σ2 (.bl c) H2) → g a v σ' H' fun σ2 H2 => ge a σ2 H2 (Q σ2)) :
    EV K M (L3G.tQG al P js wi g ge) σ B L rBool b L1 := fun B1 H e w Q q =>
  hi B1 H e w _ fun J B2 H2 e2 w2 wk => by
    refine ⟨(w2.t P hP).1, fun a H3 hT => ?_⟩
    have w3 := w2.tabbed hP hT
    refine ⟨xs.length, fun i σ' H' => Sg σ' ∧ (∃ B', Ex B2 B' ∧ Own K B' M L1 H') ∧ i ≤ xs.length ∧ quM al f (xs.drop i) = some b, ⟨h0, ⟨B2, Ex.refl _, w3⟩, Nat.zero_le _, hm⟩, ?_⟩
    rintro i σ' H' ⟨sg, ⟨B', eb, w'⟩, hi, hq⟩
    by_cases hl : i = xs.length
    · subst hl
      refine .inl ⟨wk.stop B' L1 H' eb w', ?_⟩
      rw [List.drop_length] at hq
      obtain rfl : al = b := Option.some.inj hq
      exact q _ B' H' (e2.trans eb) w' rfl
    · have hlt : i < xs.length := by omega
      rw [List.drop_eq_getElem_cons hlt] at hq
      have hx : xs[i]? = some xs[i] := List.getElem?_eq_getElem hlt
      obtain ⟨g1, g2⟩ := wk.go i xs[i] B' L1 H' eb w' hx
      unfold quM at hq
      cases hf : f xs[i] with
      | none => rw [hf] at hq; cases hq
      | some c =>
        rw [hf] at hq
        refine .inr ⟨g1, hlt, fun x H4 hy => ?_⟩
        obtain ⟨B4, e4, w4, hr⟩ := g2 x H4 hy
        refine hs a xs[i] c x B4 H4 σ' hf ((e.trans e2).trans (eb.trans e4)) sg w4 hr _ fun σ2 B5 H5 sg5 e5 w5 => ?_
        have hq : (if c = al then quM al f (xs.drop (i + 1)) else some c) = some b := hq
        by_cases hc : c = al
        · rw [if_pos hc] at hq
          exact .inl ⟨by rw [hc], sg5, ⟨B5, (eb.trans e4).trans e5, w5⟩, hlt, hq⟩
        · rw [if_neg hc] at hq
          obtain rfl : c = b := Option.some.inj hq
          have hn : c = !al := by revert hc; cases c <;> cases al <;> simp
          exact .inr ⟨by rw [hn], hn ▸ q _ B5 H5 (((e2.trans eb).trans e4).trans e5) w5 rfl⟩
theorem ev_allG {xs : List α} (hP : P ∈ M.T) (hi : EI K M wi σ B L r xs L1) (f : α → Option Bool) (Sg : St → Prop) (h0 : Sg (L3G.capS js σ)) (hm : allM f xs = some b)
    (hs : ∀ a x c v B' H' σ', f x = some c → Ex B B' → Sg σ' → Own K B' M L1 H' → r.is K B' v x → ∀ Q : St → VK, (∀ σ2 B2 H2, Sg σ2 → Ex B' B2 → Own K B2 M L1 H2 → Q σ2 (.bl c) H2) → g a v σ' H' fun σ2 H2 => ge a σ2 H2 (Q σ2)) :
    EV K M (L3G.tQG true P js wi g ge) σ B L rBool b L1 := ev_quG true hP hi f Sg h0 (by rw [quM_all]; exact hm) hs
theorem ev_anyG {xs : List α} (hP : P ∈ M.T) (hi : EI K M wi σ B L r xs L1) (f : α → Option Bool) (Sg : St → Prop) (h0 : Sg (L3G.capS js σ)) (hm : anyM f xs = some b)
    (hs : ∀ a x c v B' H' σ', f x = some c → Ex B B' → Sg σ' → Own K B' M L1 H' → r.is K B' v x → ∀ Q : St → VK, (∀ σ2 B2 H2, Sg σ2 → Ex B' B2 → Own K B2 M L1 H2 → Q σ2 (.bl c) H2) → g a v σ' H' fun σ2 H2 => ge a σ2 H2 (Q σ2)) :
    EV K M (L3G.tQG false P js wi g ge) σ B L rBool b L1 := ev_quG false hP hi f Sg h0 (by rw [quM_any]; exact hm) hs
theorem ev_sumG {xs : List α} (hP : P ∈ M.T) (hi : EI K M wi σ B L r xs L1) (f : α → Option Int) (Sg : St → Prop) (h0 : Sg (L3G.capS js σ)) (hm : sumM f xs = some k)
    (hs : ∀ a x c v B' H' σ', f x = some c → Ex B B' → Sg σ' → Own K B' M L1 H' → r.is K B' v x → ∀ Q : St → VK, (∀ σ2 B2 H2, Sg σ2 → Ex B' B2 → Own K B2 M L1 H2 → Q σ2 (.int c) H2) → g a v σ' H' fun σ2 H2 => ge a σ2 H2 (Q σ2)) :
    EV K M (L3G.tSumG P js wi g ge) σ B L rInt k L1 := fun B1 H e w Q q =>
  hi B1 H e w _ fun J B2 H2 e2 w2 wk => by
    unfold sumM at hm
    split at hm
    · rename_i vs hvs
      split at hm
      · rename_i hfit
        obtain rfl := Option.some.inj hm
        obtain ⟨hlen, hget⟩ := mapO_get hvs
        refine ⟨(w2.t P hP).1, fun a H3 hT => ?_⟩
        have w3 := w2.tabbed hP hT
        refine ⟨vs, fun i σ' H' => Sg σ' ∧ (∃ B', Ex B2 B' ∧ Own K B' M L1 H') ∧ i ≤ vs.length, fun j v hv => by simpa using fits_ok hfit j v hv, ⟨h0, ⟨B2, Ex.refl _, w3⟩, Nat.zero_le _⟩, ?_⟩
        rintro i σ' H' ⟨sg, ⟨B', eb, w'⟩, hi⟩
        by_cases hl : i = vs.length
        · subst hl
          refine .inl ⟨by rw [← hlen]; exact wk.stop B' L1 H' eb w', rfl, q _ B' H' (e2.trans eb) w' rfl⟩
        · have hlt : i < vs.length := by omega
          have hlt' : i < xs.length := by omega
          have hx : xs[i]? = some xs[i] := List.getElem?_eq_getElem hlt'
          obtain ⟨g1, g2⟩ := wk.go i xs[i] B' L1 H' eb w' hx
          obtain ⟨y, f1, f2⟩ := hget i _ hx
          refine .inr ⟨g1, hlt, fun x H4 hy => ?_⟩
          obtain ⟨B4, e4, w4, hr⟩ := g2 x H4 hy
          refine hs a xs[i] y x B4 H4 σ' f1 ((e.trans e2).trans (eb.trans e4)) sg w4 hr _ fun σ2 B5 H5 sg5 e5 w5 => ?_
          exact ⟨y, f2, rfl, sg5, ⟨B5, (eb.trans e4).trans e5, w5⟩, hlt⟩
      · cases hm
    · cases hm
end
/-! ### a def with its code object -/
structure FunC (K : Fg) (x : Str) (st : Stmt) (f : Addr) (fd : FuncData) (c : Addr) : Prop where
  ex : ∃ (oc : Value) (od : Option Addr) (kV doc pm : Value) (an : Option Addr) (ct : Value) (osl : Array (Option Value)),
    fd = PySem.W.fnOf x x (defArgs st) (defBody st) (defScope st) .none kV doc pm an (.ref c) ct ∧ K.lookup f = some ⟨oc, od, .func fd, osl⟩ ∧ PySem.W.codeIn K (.ref c) x = true
  kp : PySem.W.keepIn K (.ref f) = true
theorem FunC.ok {P : Program} {w : World} {K : Fg} {mg : Str → Option Value} {base : Heap} {x : Str} {st : Stmt} {f : Addr} {fd : FuncData} {c : Addr} {N ps : List Str} {k : Nat} {sp : Sp} (F : FunC K x st f fd c) (S : FnScope N ps (defScope st)) (len : ∀ vs H Q E, sp vs H Q E → vs.length = ps.length)
    (hbody : ∀ (A : Around) (outer : List Env) (s : Shared) (H : Hp) (vs : List V) (Q : VK) (E : XK), Room k (A.deeper (PyProof.Rows.envOfC x (defScope st) s.heap.objs.size f (.ref c))) → sp vs H Q E →
      ∃ t, PSs (cxOf CX0 P w K mg base N x (defScope st) f (.ref c) A outer s H E).nox (defBody st) t ∧ t { nx := fun _ H' => Q .non H', rt := Q } (start N vs) H) : FnOk P w K mg base CX0 (k + 1) f fd ps sp := by
  obtain ⟨oc, od, kV, doc, pm, an, ct, osl, rfl, lk, hcd⟩ := F.ex
  refine fn_of lk hcd S len fun A outer s H vs Q E hr hsp => ?_
  obtain ⟨t, h, q⟩ := hbody A outer s H vs Q E hr hsp
  exact ⟨t, h.nox, q⟩
theorem FunC.binds {K : Fg} {x : Str} {st : Stmt} {f : Addr} {fd : FuncData} {c : Addr} {ps : List Str} (F : FunC K x st f fd c)
    (h : ∀ (kV doc pm : Value) (an : Option Addr) (cdv ct : Value) (us : List Value), us.length = ps.length → bindArgs (PySem.W.fnOf x x (defArgs st) (defBody st) (defScope st) .none kV doc pm an cdv ct) ⟨us, []⟩ = pure (ps.zip us)) : Binds K fd ps [] := by
  obtain ⟨oc, od, kV, doc, pm, an, ct, osl, rfl, lk, hcd⟩ := F.ex
  exact .all (h kV doc pm an _ ct)
theorem FunC.bindsA {K : Fg} {x : Str} {st : Stmt} {f : Addr} {fd : FuncData} {c : Addr} {ps : List Str} (F : FunC K x st f fd c)
    (h : ∀ (kV doc pm : Value) (an : Option Addr) (cdv ct : Value) (us : List Value), us.length = ps.length → bindArgs (PySem.W.fnOf x x (defArgs st) (defBody st) (defScope st) .none kV doc pm an cdv ct) ⟨us, []⟩ = pure (ps.zip us)) (s : Shared) (us : List Value) (hl : us.length = ps.length) : PySem.BindsTo s fd ⟨us, []⟩ (ps.zip us) := by
  obtain ⟨oc, od, kV, doc, pm, an, ct, osl, rfl, lk, hcd⟩ := F.ex
  exact .of_eq (h kV doc pm an _ ct us hl)
theorem funC_of {K : Fg} {x : Str} {st : Stmt} {fd : FuncData} (F : FunD K x x (defArgs st) (defBody st) (defScope st) [] [] (He.fAd K (x, none)) fd) : FunC K x st (He.fAd K (x, none)) fd (He.codeOf K (x, none)) := by
  obtain ⟨oc, od, dV, kV, doc, pm, an, cdv, ct, osl, rfl, lk, hcd, hD, hK⟩ := F.ex
  obtain ⟨c, rfl⟩ := He.codeIn_ref hcd
  rcases hD with ⟨_, rfl⟩ | ⟨e, _⟩
  · have e := He.codeOf_eq (p := (x, none)) lk (c := c) rfl
    rw [e]
    exact ⟨⟨oc, od, kV, doc, pm, an, ct, osl, rfl, lk, hcd⟩, F.kp⟩
  · exact absurd rfl e
end L3

/-! enumerate of a tuple -/
namespace L3G
open PySem PySem.Spec PyProof.Rows L2
set_option maxHeartbeats 4000000 in
theorem meets_enumT (t : Addr) (items : Array Value) :
    Meets (Builtin.«enumerate.__new__» ⟨[.type "enumerate", .ref t], []⟩) (fun _ R s => s.heap.IsTuple t items ∧
      R (.ok (.ret (.ref (s.heap.push { cls := .type "tuple_iterator", data := .fields #[.ref t, .int 0 0] }).objs.size)))
        { s with heap := (s.heap.push { cls := .type "tuple_iterator", data := .fields #[.ref t, .int 0 0] }).push { cls := .type "enumerate", data := .fields #[.none, .bool false, .ref s.heap.objs.size, rawInt 0, .none, .none] } }) :=
  .of_wp fun prog w A R s h => by
    obtain ⟨hp, g, d, tk, os⟩ := s; obtain ⟨hL, h⟩ := h
    have hsub := sub_enumerate
    obtain ⟨o, hl, hc, n, hd⟩ := id hL
    obtain ⟨oc, od, odt, osl⟩ := o
    replace hc : oc = .type "tuple" := hc
    replace hd : odt = .seq items n := hd
    subst hc hd
    wp_walk using wpAny_loadPart' hl
    refine wpAny_stack_any fun st => wpAny_pure ?_
    split
    · rename_i c _ _ _ _ _
      cases (c == Value.type "enumerate")
      · wp_walk using wpAny_loadPart' hl, wpAny_pyIter_tuple hL
        exact ⟨_, rfl, h⟩
      · wp_walk using wpAny_loadPart' hl, wpAny_pyIter_tuple hL
        exact ⟨_, rfl, h⟩
    · wp_walk using wpAny_loadPart' hl, wpAny_pyIter_tuple hL
      exact ⟨_, rfl, h⟩
section
variable {prog : Program} {w : World} {A : Around} {E : Value → Shared → Prop} {s : Shared}
theorem call_enumT {l : Addr} {items : Array Value} {Q : Value → Shared → Prop} (hL : s.heap.IsTuple l items)
    (h : ∀ h', IsEnum h' (s.heap.objs.size + 1) s.heap.objs.size 0 .none → h'.IsTupleIter s.heap.objs.size l 0 → h'.objs.size = s.heap.objs.size + 2 →
      (∀ b o, s.heap.get? b = some o → h'.get? b = some o) → Q (.ref (s.heap.objs.size + 1)) { s with heap := h' }) :
    wpAny (model prog w) A (call (.type "enumerate") [.ref l]) Q E s := by
  refine callType_new F.called_enumerate (by decide) (F.typeCall_enumerate_1 _) (F.newCall_enumerate_1 _) (fun obj => F.args_object_init_2 obj _) F.entry_enumerate_new
    (meets_enumT l items) ⟨hL, ?_⟩
  have hz : (s.heap.push { cls := .type "tuple_iterator", data := .fields #[.ref l, .int 0 0] }).objs.size = s.heap.objs.size + 1 := Heap.size_push ..
  show _ ∧ _
  rw [hz]
  have he : IsEnum ((s.heap.push { cls := .type "tuple_iterator", data := .fields #[.ref l, .int 0 0] }).push
      { cls := .type "enumerate", data := .fields #[.none, .bool false, .ref s.heap.objs.size, rawInt 0, .none, .none] }) (s.heap.objs.size + 1) s.heap.objs.size 0 .none := by
    have := Heap.get?_push_size (s.heap.push { cls := .type "tuple_iterator", data := .fields #[.ref l, .int 0 0] })
      (o := { cls := .type "enumerate", data := .fields #[.none, .bool false, .ref s.heap.objs.size, rawInt 0, .none, .none] }) rfl
    rw [hz] at this; exact this
  refine ⟨⟨_, he, rfl⟩, h _ he ⟨_, Heap.get?_push_of_some _ (Heap.get?_push_size _ rfl), rfl, rfl⟩ (by rw [Heap.size_push, hz]) fun b o x => Heap.get?_push_of_some _ (Heap.get?_push_of_some _ x)⟩
end
def IteT (K : PySem.W.Frag) (a : Addr) : It :=
  ⟨fun i H => ∃ (xs : List V) (x : V), SqT K H a xs ∧ xs[i]? = some x, fun i H v H' => ∃ T x, v = .ref T ∧ H T = none ∧ H' = upd H T (.tup [.int (i : Nat), x]) ∧ ∀ xs, SqT K H a xs → xs[i]? = some x, fun i H => ∃ xs : List V, SqT K H a xs ∧ xs.length ≤ i⟩
theorem turn_enumT {P : Program} {w : World} {K : PySem.W.Frag} {elts : List Expr} {kk : Nat} {tpos : Pos} (a e it : Addr) :
    Turn P w K (.Tuple elts kk tpos) (IteT K a) [e, it] e (fun i h => (∃ old, IsEnum h e it ((i : Nat) : Int) old) ∧ h.IsTupleIter it a i ∧ e ≠ it) where
  mem := by simp
  obj := fun i h st b hb => by
    obtain ⟨⟨old, he⟩, ⟨o, ho, hc, hd⟩, _⟩ := st
    have e' : b = e ∨ b = it := by simpa using hb
    rcases e' with z | z
    · rw [z]; exact ⟨_, he, fun v q => nomatch q⟩
    · rw [z]; exact ⟨o, ho, fun v q => by rw [hd] at q; cases q⟩
  keep := fun i h h' st k => let ⟨⟨old, he⟩, hi, hne⟩ := st; ⟨⟨old, k e (by simp) _ he⟩, hi.at fun o q => k it (by simp) o q, hne⟩
  item := by
    intro X hP hw hK hc i pins s σ H E I hf st hg
    subst hP hw hK
    obtain ⟨⟨old, he⟩, hit, hne⟩ := st
    obtain ⟨xs, x, hq, hx⟩ := hg
    obtain ⟨its, rv, p, hz⟩ := I.tuple hq
    obtain ⟨u, hu, ru⟩ := rv.get hx
    have p' : s.heap.IsTuple a its.toArray := p
    have hel : e < s.heap.objs.size := Heap.lt_size he
    have hil : it < s.heap.objs.size := by obtain ⟨_, q, _⟩ := hit; exact Heap.lt_size q
    have hai : a ≠ it := fun z => by
      obtain ⟨o1, q1, c1, _⟩ := hit
      obtain ⟨o2, q2, c2, _⟩ := p'
      rw [z, q1] at q2; cases q2
      rw [c1] at c2; exact absurd (Value.type.inj c2) (by decide)
    have hea : e ≠ a := fun z => by
      obtain ⟨o2, q2, c2, _⟩ := p'
      have he' : s.heap.get? e = some _ := he
      rw [z, q2] at he'; cases he'
      exact absurd (Value.type.inj c2) (by decide)
    have hsz : i < its.toArray.size := by
      have := (List.getElem?_eq_some_iff.mp hu).1
      simpa using this
    refine wpAny_pyNext_enum_itemD (PySem.Draws.tuple (A := X.A.in1) (I.ok.hd hc) it a hai its.toArray) he ⟨hit, p'⟩ hsz hne (by simp [hne, hea]) fun x' h' tk' hPx ho hit' hT hsz' hk => ?_
    have hPx : its[i]? = some x' := by simpa using hPx
    rw [hu] at hPx
    obtain rfl := Option.some.inj hPx
    refine ⟨_, rfl, wpAny_letOwnedTupleGo_enum (s := { s with heap := h', toks := tk' + 1 }) ho fun h'' he' sb => ?_⟩
    have hT2 : h''.get? s.heap.objs.size = some { cls := .type "tuple", data := .seq #[.int i tk', u] } := (sb.2 _ (Nat.ne_of_gt hel)).trans hT
    have new : ObjOk X.prog X.w (upd H s.heap.objs.size (.tup [.int (i : Nat), x])) h'' s.heap.objs.size (.tup [.int (i : Nat), x]) :=
      ⟨by show 2 ≤ sizeLine; decide, [.int i tk', u], .cons ⟨_, rfl⟩ (.cons ru .nil), ⟨_, hT2, rfl, _, rfl⟩⟩
    have I1 : Inv X pins σ (upd H s.heap.objs.size (.tup [.int (i : Nat), x])) { s with heap := h'', toks := tk' + 1 } :=
      I.turnedNew (ch := [e, it]) (fun b ob hb q => (sb.2 b (fun z => hb (by simp [z]))).trans (hk b ob (fun z => hb (by simp [z])) (fun z => hb (by simp [z])) q)) hf (Nat.le_refl _) new
    refine ⟨.ref s.heap.objs.size, _, I1, rfl, ⟨_, x, rfl, I.hok.fresh (Nat.le_refl _), rfl, fun ys hy => by rw [I.tuple_inj hy hq]; exact hx⟩, ⟨⟨u, ?_⟩, hit'.1.at fun o q => (sb.2 it (Ne.symm hne)).trans q, hne⟩, fun b hb => ?_⟩
    · have e1 : ((i + 1 : Nat) : Int) = (i : Int) + 1 := by omega
      rw [e1]; exact he'
    · have hb' : b < s.heap.objs.size := by
        have e' : b = e ∨ b = it := by simpa using hb
        rcases e' with z | z
        · rw [z]; exact hel
        · rw [z]; exact hil
      rw [upd_ne (Nat.ne_of_lt hb')]
      exact (hf b hb).1
  done := by
    intro X hP hw hK hc i pins s σ H E I hf st hg
    subst hP hw hK
    obtain ⟨⟨old, he⟩, hit, hne⟩ := st
    obtain ⟨xs, hq, hx⟩ := hg
    obtain ⟨its, rv, p, hz⟩ := I.tuple hq
    have p' : s.heap.IsTuple a its.toArray := p
    obtain ⟨f0, f1, f2, f3, f4, f5⟩ := hf it (by simp)
    have hl := rv.length
    have hT : s.TypeIs (.ref e) "enumerate" := ⟨_, he, rfl⟩
    unfold pyNext
    refine wpAny_bind (wpAny_attempt (wpAny_callSpecial?_slot (name := Str.ofString "__next__") hT F.slot_enumerate_next
      (wpAny_call_entry F.slot_enumerate_next hT F.entry_enumerate_next ?_ (F.args_enumerate_next_1 _))))
    show wpAny _ _ (field (.ref e) 2 >>= _) _ _ _
    refine wpAny_bind (wpAny_field he rfl (x := .ref it) rfl ?_)
    refine wpAny_bind (wpAny_nextOf_tuple_end (I.ok.hd hc) hit p' (by simp; omega) fun h' x he' hx' => ?_)
    obtain ⟨o, ho, hc'⟩ := hx'
    refine wpAny_bind (wpAny_isInstance (T := "StopIteration") (b := true) ⟨o, ho, hc'⟩ isSubtype_stop ?_)
    exact wpAny_pure ⟨rfl, I.turned (t' := s.toks) (fun b o hb q => he' b o hb q) f0 f1 f3 f4 f5⟩
  self := fun A i s Q E st h => let ⟨⟨_, he⟩, _⟩ := st; wpAny_pyIter_enum he h
def iEnumT (K : PySem.W.Frag) (ta : TA) : TI := fun σ H R => ta σ H fun vs H1 => ∃ a xs, vs = [.ref a] ∧ SqT K H1 a xs ∧ R (IteT K a) H1
theorem pi_enumT {X : Cx} {e : Expr} {ta : TA} {p pos tpos : Pos} {elts : List Expr} {kk : Nat} (hg : Gl X "enumerate") (hm : X.mg "enumerate" = none) (ha : PA X [e] ta) (hs : starEach [e] X.env = [(false, eval e X.env)] := by rfl) :
    PI X (.Tuple elts kk tpos) (.Call (.Name "enumerate" p) [e] [] pos) (iEnumT X.K ta) := by
  refine ⟨fun pins s σ H R I h => ?_⟩
  refine Call_ (ld_blt I hg hm boot_enumerate (PyProof.Rows.callWith_type1 (thn (ha.run pos pins s σ H _ I h) fun us s1 ⟨vs, H1, I1, r1, q1⟩ => ?_) hs rfl))
  obtain ⟨a, xs, ex, hq, q⟩ := q1
  subst ex
  cases r1 with
  | cons r rr =>
    cases rr
    cases r
    obtain ⟨its, rv, p', hz⟩ := I1.tuple hq
    refine call_enumT (show s1.heap.IsTuple a its.toArray from p') fun h' he hit hsz hk => wpAny_pyIter_enum he ?_
    have I2 : Inv X pins σ H1 { s1 with heap := h' } := I1.kept (t' := s1.toks) hk
    refine ⟨s1.heap.objs.size + 1, [s1.heap.objs.size + 1, s1.heap.objs.size], _, _, H1, rfl, I2, turn_enumT a (s1.heap.objs.size + 1) s1.heap.objs.size, ⟨⟨.none, he⟩, hit, Nat.succ_ne_self _⟩, fun b hb => ?_, q⟩
    have e' : b = s1.heap.objs.size + 1 ∨ b = s1.heap.objs.size := by simpa using hb
    have hle : s1.heap.objs.size ≤ b := by
      rcases e' with z | z
      · rw [z]; exact Nat.le_add_right _ _
      · rw [z]; exact Nat.le_refl _
    exact I1.fpOk hle (I1.hok.fresh hle)
end L3G
namespace L3
open PySem L2
open Evl (Ex ex_rd ex_l ex_t sq_of st_of fresh_back)
/-- (0, x), (1, y), .. -/
def enumI {α : Type} : Nat → List α → List (Int × α)
  | _, [] => []
  | n, x :: xs => ((n : Int), x) :: enumI (n + 1) xs
theorem enumI_len {α : Type} : ∀ (n : Nat) (xs : List α), (enumI n xs).length = xs.length
  | _, [] => rfl
  | n, _ :: xs => congrArg (· + 1) (enumI_len (n + 1) xs)
theorem enumI_get {α : Type} : ∀ {n i : Nat} {xs : List α} {q : Int × α}, (enumI n xs)[i]? = some q → q.1 = ((n + i : Nat) : Int) ∧ xs[i]? = some q.2
  | _, _, [], _, h => by simp [enumI] at h
  | n, 0, x :: xs, q, h => by
    obtain rfl : ((n : Int), x) = q := by simpa [enumI] using h
    exact ⟨rfl, rfl⟩
  | n, i + 1, x :: xs, q, h => by
    obtain ⟨h1, h2⟩ := enumI_get (n := n + 1) (i := i) (xs := xs) (q := q) (by simpa [enumI] using h)
    refine ⟨h1.trans ?_, h2⟩
    congr 1
    omega
section
variable {K : Fg} {M : Fr} {σ : St} {B : Hp} {L L1 L2 L' : List Cell} {α β γ δ : Type} {r : Rep α} {te : TE}
theorem ei_enumT {xs : List α} (h : EV K M te σ B L (rTup r) xs L') : EI K M (L3G.iEnumT K (tCons te tNil)) σ B L (rT2 rInt r) (enumI 0 xs) L' := fun B1 H e w R q => h B1 H e w _ fun v B2 H2 e2 w2 hv => by
  obtain ⟨p, vs, rfl, hs, hp⟩ := hv
  refine ⟨p, vs, rfl, ex_t w2.b hs, q _ B2 H2 e2 w2 ⟨fun i a B' L' H' e' w' hi => ?_, fun B' L' H' e' w' => ⟨vs, ex_t (e'.trans w'.b) hs, by rw [enumI_len, paired_len hp]; exact Nat.le_refl _⟩⟩⟩
  obtain ⟨h1, h2⟩ := enumI_get hi
  obtain ⟨x, hx, hr⟩ := paired_get hp h2
  refine ⟨⟨vs, x, ex_t (e'.trans w'.b) hs, hx⟩, fun y H3 hy => ?_⟩
  obtain ⟨T, z, rfl, hT, rfl, hy⟩ := hy
  have := hy vs (ex_t (e'.trans w'.b) hs)
  rw [hx] at this
  cases this
  have eN := Ex.new (o := HO.tup [.int (i : Nat), x]) (fresh_back w'.b hT)
  exact ⟨upd B' T _, eN, w'.ext hT, ⟨T, _, _, rfl, st_of upd_same, by rw [h1]; show V.int _ = V.int _; congr 1; simp, r.mono (e'.trans eN) hr⟩⟩
theorem ei_enumL {xs : List α} (h : EV K M te σ B L (rLst r) xs L') : EI K M (iEnum K (tCons te tNil)) σ B L (rT2 rInt r) (enumI 0 xs) L' := fun B1 H e w R q => h B1 H e w _ fun v B2 H2 e2 w2 hv => by
  obtain ⟨p, vs, rfl, hs, hp⟩ := rl_sc hv
  refine ⟨p, vs, rfl, ex_l w2.b hs, q _ B2 H2 e2 w2 ⟨fun i a B' L' H' e' w' hi => ?_, fun B' L' H' e' w' => ⟨vs, ex_l (e'.trans w'.b) hs, by rw [enumI_len, paired_len hp]; exact Nat.le_refl _⟩⟩⟩
  obtain ⟨h1, h2⟩ := enumI_get hi
  obtain ⟨x, hx, hr⟩ := paired_get hp h2
  refine ⟨⟨vs, x, ex_l (e'.trans w'.b) hs, hx⟩, fun y H3 hy => ?_⟩
  obtain ⟨T, z, rfl, hT, rfl, hy⟩ := hy
  have := hy vs (ex_l (e'.trans w'.b) hs)
  rw [hx] at this
  cases this
  have eN := Ex.new (o := HO.tup [.int (i : Nat), x]) (fresh_back w'.b hT)
  exact ⟨upd B' T _, eN, w'.ext hT, ⟨T, _, _, rfl, st_of upd_same, by rw [h1]; show V.int _ = V.int _; congr 1; simp, r.mono (e'.trans eN) hr⟩⟩
end
end L3

/-! a tuple backwards -/
namespace L3G
open PySem PySem.Spec PyProof.Rows L2 HT
section
variable {prog : Program} {w : World} {A : Around} {E : Value → Shared → Prop} {s : Shared}
theorem adjust_back (n : Nat) : Builtin.Slice.sliceAdjust none none (-1) (n : Int) = ((n : Int) - 1, -1) := by
  unfold Builtin.Slice.sliceAdjust
  simp
theorem places_back (n : Nat) : Builtin.Slice.slicePlaces ((n : Int) - 1) (-1) (-1) = n := by
  unfold Builtin.Slice.slicePlaces
  simp
  omega
theorem fm_some {α β : Type} {f : α → Option β} {g : α → β} : ∀ {l : List α}, (∀ m ∈ l, f m = some (g m)) → l.filterMap f = l.map g
  | [], _ => rfl
  | x :: l, h => by
    rw [List.filterMap_cons, h x List.mem_cons_self, List.map_cons, fm_some fun m hm => h m (List.mem_cons_of_mem _ hm)]
theorem pick_back (xs : Array Value) : ((List.range xs.size).filterMap fun (m : Nat) => xs[(((xs.size : Int) - 1) + (m : Int) * (-1)).toNat]?).toArray = xs.toList.reverse.toArray := by
  congr 1
  have e : ∀ m ∈ List.range xs.size, xs[(((xs.size : Int) - 1) + (m : Int) * (-1)).toNat]? = some ((xs.toList.reverse).getD m .none) := fun m hm => by
    have hm := List.mem_range.mp hm
    have e1 : (((xs.size : Int) - 1) + (m : Int) * (-1)).toNat = xs.size - 1 - m := by omega
    rw [e1, List.getD_eq_getElem?_getD, List.getElem?_reverse (by simpa using hm), Array.length_toList, Array.getElem?_toList]
    cases q : xs[xs.size - 1 - m]? with
    | none => have := Array.getElem?_eq_none_iff.mp q; omega
    | some v => rfl
  rw [fm_some e]
  refine List.ext_getElem? fun i => ?_
  rw [List.getElem?_map]
  by_cases hi : i < xs.size
  · rw [List.getElem?_range hi]
    have hl : i < xs.toList.reverse.length := by simpa using hi
    simp only [Option.map_some]
    rw [List.getD_eq_getElem?_getD, List.getElem?_eq_getElem hl]
    rfl
  · rw [List.getElem?_eq_none (by simpa using hi), List.getElem?_eq_none (by simpa using hi)]
    rfl
theorem sliceApplied_back {sl : Addr} {n : Nat} {vs : Value} {Q : Int × Int × Nat → Shared → Prop} (hs : s.heap.IsSliceOf sl .none .none vs) (pv : IsPart vs (some (-1)))
    (h : Q ((n : Int) - 1, -1, n) s) : wpAny (model prog w) A (Builtin.Slice.sliceApplied (.ref sl) (pure (n : Int))) Q E s := by
  obtain ⟨os, hos, hcs, hds⟩ := id hs
  unfold Builtin.Slice.sliceApplied Builtin.Slice.sliceFields
  refine wpAny_bind (wpAny_bind (wpAny_field hos hds (x := .none) rfl (wpAny_bind (wpAny_field hos hds (x := .none) rfl (wpAny_bind (wpAny_field hos hds (x := vs) rfl (wpAny_pure ?_)))))))
  refine wpAny_bind (slicePart_ pv ?_)
  show wpAny _ _ (if ((-1 : Int) == 0) = true then _ else _) _ _ s
  rw [if_neg (by decide)]
  refine wpAny_bind (slicePart_ (o := none) .none (wpAny_bind (slicePart_ (o := none) .none (wpAny_bind (wpAny_pure ?_)))))
  show wpAny _ _ (match Builtin.Slice.sliceAdjust none none (-1) (n : Int) with | (lo, hi) => pure (lo, (-1 : Int), Builtin.Slice.slicePlaces lo hi (-1))) _ _ s
  rw [adjust_back]
  show wpAny _ _ (pure ((n : Int) - 1, (-1 : Int), Builtin.Slice.slicePlaces ((n : Int) - 1) (-1) (-1))) _ _ s
  rw [places_back]
  exact wpAny_pure h
theorem getItem_tuple_back {t sl : Addr} {items : Array Value} {vs : Value} {Q : Value → Shared → Prop} (ht : IsTup s.heap t items) (hs : s.heap.IsSliceOf sl .none .none vs) (pv : IsPart vs (some (-1)))
    (h : Q (.ref s.heap.objs.size) { s with heap := s.heap.push { cls := .type "tuple", data := .seq items.toList.reverse.toArray } })
    (hsz : items.size ≤ sizeLine) : wpAny (model prog w) A (getItem (.ref t) (.ref sl)) Q E s := by
  have htake : sizeOk (.seq items.toList.reverse.toArray) := by
    show items.toList.reverse.toArray.size ≤ sizeLine
    rw [List.size_toArray, List.length_reverse, Array.length_toList]
    exact hsz
  obtain ⟨os, hos, hcs, hds⟩ := id hs
  have hTs : s.TypeIs (.ref sl) "slice" := ⟨os, hos, hcs⟩
  unfold getItem
  try with_reducible refine wpAny_holding ?_
  first | refine wpAny_bind (wpAny_pure ?_) | skip
  refine wpAny_bind (wpAny_sequenceKey ht.typeIs (by decide) ?_)
  refine wpAny_bind (wpAny_callSpecial?_slot (name := Str.ofString "__getitem__") ht.typeIs PyProof.Rows.slot_tuple_getitem
    (wpAny_call_entry PyProof.Rows.slot_tuple_getitem ht.typeIs PyProof.Rows.entry_tuple_getitem ?_ (PyProof.Rows.args_tuple_getitem _ _)))
  show wpAny _ _ (Builtin.Tuple.tupleItemsOf (.ref t) >>= _) _ _ s
  refine wpAny_bind (tupleItemsOf_ ht ?_)
  refine wpAny_bind (wpAny_typeOf hTs ?_)
  rw [if_pos (by decide)]
  refine wpAny_bind (sliceApplied_back hs pv ?_)
  have hno : ¬ ((((items.size : Int) - 1) == 0 && (-1 : Int) == 1 && items.size == items.size) = true) := by
    intro q
    rw [Bool.and_eq_true, Bool.and_eq_true] at q
    exact absurd q.1.2 (by decide)
  show wpAny _ _ (if (((items.size : Int) - 1) == 0 && (-1 : Int) == 1 && items.size == items.size) = true then _ else _) _ _ s
  rw [if_neg hno, pick_back]
  first
    | exact wpAny_bind (m := Builtin.Tuple.tupleExact _) (wpAny_newObj_type (wpAny_pure ⟨_, rfl, wpAny_pure h⟩) htake)
    | exact wpAny_bind (m := Builtin.Tuple.tupleExact _) (wpAny_newObj_type (wpAny_bind (wpAny_pure (wpAny_pure ⟨_, rfl, wpAny_pure h⟩))) htake)
    | exact wpAny_bind (wpAny_bind (m := Builtin.Tuple.tupleExact _) (wpAny_newObj_type (wpAny_pure (wpAny_pure ⟨_, rfl, wpAny_pure h⟩)) htake))
    | exact wpAny_bind (wpAny_bind (m := Builtin.Tuple.tupleExact _) (wpAny_newObj_type (wpAny_pure ⟨_, rfl, wpAny_pure h⟩) htake))
end
def tRevT (K : PySem.W.Frag) (te : TE) : TE := fun σ H Q => te σ H fun x H1 => ∃ a xs, x = .ref a ∧ SqT K H1 a xs ∧ ∀ p, H1 p = none → Q (.ref p) (upd H1 p (.tup xs.reverse))
theorem pe_revT {X : Cx} {e : Expr} {te : TE} {k : Nat} {p1 p2 p3 pos : Pos} (he : PE X e te) : PE X (.Subscript e (.Slice none none (some (.UnaryOp .USub (.Constant (.int 1) k p1) p2)) p3) pos) (tRevT X.K te) := by
  refine ⟨fun pins s σ H Q I h => ?_⟩
  refine Subscript_ (thn (he.run pins s σ H _ I h) fun v s1 ⟨x, H1, I1, r1, q1⟩ => ?_)
  obtain ⟨a, xs, ex, hx, q⟩ := q1
  subst ex
  cases r1
  have hst : PO X (some (.UnaryOp .USub (.Constant (.int 1) k p1) p2)) (tPart (tUn (rU fun i => .int (-i)) (tC (.int 1)))) := po_some (pe_un un_neg pe_int)
  refine wpAny_Slice ?_
  rw [evalPart_none]
  refine wpAny_pure ?_
  refine wpAny_pure ?_
  refine thn (hst.run pins s1 σ H1 (fun o H4 => o = some (-1) ∧ H4 = H1) I1 ⟨1, rfl, -1, rfl, rfl, rfl⟩) fun vs s4 ⟨o, H4, I4, ps, eo, e4⟩ => ?_
  subst eo e4
  have I5 : Inv X pins σ H4 { s4 with heap := s4.heap.push { cls := .type "slice", data := .fields #[.none, .none, vs] } } := I4.kept (t' := s4.toks) fun b ob q => Heap.get?_push_of_some _ q
  obtain ⟨its, r, ht, hz⟩ := I5.tuple hx
  have hlen := r.length
  show wpAny (model X.prog X.w) X.A (subscriptTail e (.Slice none none (some (.UnaryOp .USub (.Constant (.int 1) k p1) p2)) p3) (.ref a) (.ref s4.heap.objs.size)) (EP X pins σ Q) X.xe { s4 with heap := s4.heap.push { cls := .type "slice", data := .fields #[.none, .none, vs] } }
  refine tail_any (ops := [.ref a, .ref s4.heap.objs.size]) ht.typeIs (PyProof.Rows.slot_tuple_getitem.lookup) ?_ (by with_unfolding_all rfl)
  refine getItem_tuple_back ht (Heap.IsSliceOf.new _ .none .none vs) ps ?_ (by rw [List.size_toArray]; omega)
  refine ⟨.ref _, _, I5.laid (t' := s4.toks) (o := .tup xs.reverse) (fun b ob q => Heap.get?_push_of_some _ q) (Nat.le_refl _) ?_, rfl, q _ (I5.hok.fresh (Nat.le_refl _))⟩
  exact ⟨by rw [List.length_reverse]; exact hz, _, r.reverse, IsTup.new _ _⟩
end L3G
namespace L3
open PySem L2
open Evl (Ex ex_rd ex_l ex_t sq_of st_of fresh_back)

/-! ### comprehensions -/
def compM {S α β : Type} (f : S → α → Option (Option β × S)) : S → List α → Option (List β × S)
  | s, [] => some ([], s)
  | s, x :: xs => match f s x with
    | some (o, s') => (match compM f s' xs with
      | some (ys, s2) => some (o.toList ++ ys, s2)
      | none => none)
    | none => none
section
variable {K : Fg} {M : Fr} {σ : St} {B : Hp} {L L1 L2 L' : List Cell} {α β γ δ : Type} {r : Rep α} {s : Rep β} {t : Rep γ} {ta tb tc te : TE} {tt tu : TT} {tA : TA} {i j k : Int} {b c : Bool} {wi : TI} {g : TG}
theorem compM_len {S : Type} {f : S → α → Option (Option β × S)} : ∀ {xs : List α} {s0 s1 : S} {ys : List β}, compM f s0 xs = some (ys, s1) → ys.length ≤ xs.length
  | [], _, _, _, h => by obtain ⟨rfl, _⟩ := Prod.mk.inj (Option.some.inj h); exact Nat.le_refl _
  | x :: xs, s0, s1, ys, h => by
    unfold compM at h
    cases e : f s0 x with
    | none => rw [e] at h; cases h
    | some q =>
      obtain ⟨o, s'⟩ := q
      rw [e] at h
      dsimp only at h
      cases e2 : compM f s' xs with
      | none => rw [e2] at h; cases h
      | some q2 =>
        obtain ⟨zs, s2⟩ := q2
        rw [e2] at h
        obtain ⟨rfl, _⟩ := Prod.mk.inj (Option.some.inj h)
        have := compM_len e2
        cases o <;> simp <;> omega
theorem lc_yes {PY : VK} {PN : Hp → Prop} {H : Hp} (h : te σ H PY) : tYes σ H fun b H3 => if b = true then te σ H3 PY else PN H3 := by
  show (if true = true then te σ H PY else PN H)
  rw [if_pos rfl]
  exact h
theorem lc_if {b : Bool} {X Y : Prop} (h1 : b = true → X) (h2 : b = false → Y) : if b = true then X else Y := by
  cases b with
  | true => rw [if_pos rfl]; exact h1 rfl
  | false => rw [if_neg Bool.false_ne_true]; exact h2 rfl
theorem el_lc {S : Type} {vs : List Nat} {σ' : St} {xs : List α} {ys : List β} {s0 s1 : S} (s : Rep β) (hi : EI K M wi σ B L r xs L1) (f : S → α → Option (Option β × S)) (Lf : S → List Cell) (hL : Lf s0 = L1) (hm : compM f s0 xs = some (ys, s1)) (hr : room xs.length = some ()) (hw : wipe σ vs = σ')
    (hs : ∀ st x o st' v D acc B' H', f st x = some (o, st') → Ex B B' → Own K B' M (⟨D, cLst s, acc⟩ :: Lf st) H' → r.is K B' v x → ∀ (PY : VK) (PN : Hp → Prop),
      (∀ y B2 H2 b, o = some b → Ex B' B2 → Own K B2 M (⟨D, cLst s, acc⟩ :: Lf st') H2 → s.is K B2 y b → PY y H2) → (∀ B2 H2, o = none → Ex B' B2 → Own K B2 M (⟨D, cLst s, acc⟩ :: Lf st') H2 → PN H2) →
      g v σ' H' fun σ2 H2 => wipe σ2 vs = σ' ∧ tt σ2 H2 fun b H3 => if b = true then te σ2 H3 PY else PN H3) :
    EVL K M (tLc wi g tt te vs) σ B L s ys (Lf s1) := fun B1 H e w Q q => by
  refine hi B1 H e w _ fun J B2 H2 e2 w2 wk => ?_
  intro D hD
  subst hL
  subst hw
  have w3 : Own K B2 M (⟨D, cLst s, []⟩ :: Lf s0) (upd H2 D (.lst [])) := w2.new hD ⟨[], rfl, .nil⟩
  refine ⟨fun i m H' => m = xs.length - i ∧ i ≤ xs.length ∧ ∃ st acc B', Ex B2 B' ∧ Own K B' M (⟨D, cLst s, acc⟩ :: Lf st) H' ∧ acc.length ≤ i ∧ ∃ zs, compM f st (xs.drop i) = some (zs, s1) ∧ acc ++ zs = ys,
    ⟨_, rfl, Nat.zero_le _, s0, [], B2, Ex.refl _, w3, Nat.zero_le _, ys, hm, rfl⟩, ?_⟩
  rintro i m H' ⟨rfl, hil, st, acc, B', eb, w', hacc, zs, hz, hzs⟩
  by_cases hl : i = xs.length
  · subst hl
    rw [List.drop_length] at hz
    obtain ⟨rfl, rfl⟩ := Prod.mk.inj (Option.some.inj hz)
    rw [List.append_nil] at hzs
    subst hzs
    exact .inl ⟨wk.stop B' _ H' eb w', q D B' H' (e2.trans eb) w'⟩
  · have hlt : i < xs.length := by omega
    rw [List.drop_eq_getElem_cons hlt] at hz
    have hx : xs[i]? = some xs[i] := List.getElem?_eq_getElem hlt
    obtain ⟨g1, g2⟩ := wk.go i xs[i] B' _ H' eb w' hx
    unfold compM at hz
    cases hf : f st xs[i] with
    | none => rw [hf] at hz; cases hz
    | some q2 =>
      obtain ⟨o, st'⟩ := q2
      rw [hf] at hz
      dsimp only at hz
      cases hc : compM f st' (xs.drop (i + 1)) with
      | none => rw [hc] at hz; cases hz
      | some q3 =>
        obtain ⟨zs', s2⟩ := q3
        rw [hc] at hz
        obtain ⟨rfl, rfl⟩ := Prod.mk.inj (Option.some.inj hz)
        refine .inr ⟨g1, fun H5 => i + 1 ≤ xs.length ∧ ∃ st acc B', Ex B2 B' ∧ Own K B' M (⟨D, cLst s, acc⟩ :: Lf st) H5 ∧ acc.length ≤ i + 1 ∧ ∃ zs, compM f st (xs.drop (i + 1)) = some (zs, s2) ∧ acc ++ zs = ys, fun H5 h5 => ⟨xs.length - (i + 1), by omega, rfl, h5⟩, fun x H4 hy => ?_⟩
        obtain ⟨B4, e4, w4, hrx⟩ := g2 x H4 hy
        have hb := (e.trans e2).trans (eb.trans e4)
        refine hs st xs[i] o st' x D acc B4 H4 hf hb w4 hrx (fun y H6 => ∃ acc', H6 D = some (.lst acc') ∧ acc'.length < sizeLine ∧ (fun H5 => i + 1 ≤ xs.length ∧ ∃ st acc B', Ex B2 B' ∧ Own K B' M (⟨D, cLst s, acc⟩ :: Lf st) H5 ∧ acc.length ≤ i + 1 ∧ ∃ zs, compM f st (xs.drop (i + 1)) = some (zs, s2) ∧ acc ++ zs = ys) (upd H6 D (.lst (acc' ++ [y])))) _ (fun y B5 H5 b' ho e5 w5 hyb => ?_) fun B5 H5 ho e5 w5 => ?_
        · subst ho
          obtain ⟨⟨o', a1, vs', a2, a3⟩, _⟩ := w5.at (i := 0) rfl
          have a1 : H5 D = some o' := a1
          refine ⟨vs', by rw [a1, a2], ?_, hlt, st', acc ++ [b'], B5, (eb.trans e4).trans e5, w5.set (i := 0) rfl (c' := cLst s) ⟨_, rfl, paired_app a3 (.cons hyb .nil)⟩, by simp; omega, zs', hc, by simpa using hzs⟩
          have hq := room_some hr
          have := paired_len a3
          have : vs'.length = acc.length := this
          omega
        · subst ho
          exact ⟨hlt, st', acc, B5, (eb.trans e4).trans e5, w5, by omega, zs', hc, by simpa using hzs⟩
/-! ### tuple(..), list(..) -/
theorem ev_tupOfL {xs : List α} (h : EV K M te σ B L (rLst r) xs L') : EV K M (tCB (fun xs H Q => ∃ p ys, xs = [.ref p] ∧ ((SqL K H p ys ∧ ∀ l, H l = none → Q (.ref l) (upd H l (.tup ys))) ∨ (SqT K H p ys ∧ Q (.ref p) H))) (tCons te tNil)) σ B L (rTup r) xs L' := fun B1 H e w Q q =>
  h B1 H e w _ fun v B2 H2 e2 w2 hv => by
    obtain ⟨p, vs, rfl, hs, hp⟩ := rl_sc hv
    refine ⟨p, vs, rfl, .inl ⟨ex_l w2.b hs, fun l hl => ?_⟩⟩
    have eN := Ex.new (o := HO.tup vs) (fresh_back w2.b hl)
    exact q _ (upd B2 l _) _ (e2.trans eN) (w2.ext hl) ⟨l, vs, rfl, st_of upd_same, paired_mono eN hp⟩
theorem ev_tupOfT {xs : List α} (h : EV K M te σ B L (rTup r) xs L') : EV K M (tCB (fun xs H Q => ∃ p ys, xs = [.ref p] ∧ ((SqL K H p ys ∧ ∀ l, H l = none → Q (.ref l) (upd H l (.tup ys))) ∨ (SqT K H p ys ∧ Q (.ref p) H))) (tCons te tNil)) σ B L (rTup r) xs L' := fun B1 H e w Q q =>
  h B1 H e w _ fun v B2 H2 e2 w2 hv => by
    obtain ⟨p, vs, rfl, hs, hp⟩ := hv
    exact ⟨p, vs, rfl, .inr ⟨ex_t w2.b hs, q _ B2 H2 e2 w2 ⟨p, vs, rfl, hs, hp⟩⟩⟩
theorem el_listOf {xs : List α} (h : EV K M te σ B L (rSeq r) xs L') : EVL K M (tCB (fun xs H Q => ∃ p ys, xs = [.ref p] ∧ (SqL K H p ys ∨ SqT K H p ys) ∧ ∀ l, H l = none → Q (.ref l) (upd H l (.lst ys))) (tCons te tNil)) σ B L r xs L' := fun B1 H e w Q q =>
  h B1 H e w _ fun v B2 H2 e2 w2 hv => by
    obtain ⟨p, vs, rfl, hs, hp⟩ := hv
    exact ⟨p, vs, rfl, hs.imp (ex_l w2.b) (ex_t w2.b), fun l hl => q l B2 _ e2 (w2.new hl ⟨vs, rfl, hp⟩)⟩
theorem el_listOfC {n : Nat} {p : Addr} {xs : List α} (h : EV K M te σ B L rRef p L') (hc : L'[n]? = some ⟨p, cLst r, xs⟩) : EVL K M (tCB (fun xs H Q => ∃ p ys, xs = [.ref p] ∧ (SqL K H p ys ∨ SqT K H p ys) ∧ ∀ l, H l = none → Q (.ref l) (upd H l (.lst ys))) (tCons te tNil)) σ B L r xs L' := fun B1 H e w Q q =>
  h B1 H e w _ fun v B2 H2 e2 w2 hv => by
    have hv : v = .ref p := hv
    subst hv
    obtain ⟨⟨o, h1, vs, h2, hp⟩, _⟩ := w2.at hc
    have h1 : H2 p = some o := h1
    exact ⟨p, vs, rfl, .inl (sq_of (by rw [h1, h2])), fun l hl => q l B2 _ e2 (w2.new hl ⟨vs, rfl, hp⟩)⟩
theorem ev_tupOfC {n : Nat} {p : Addr} {xs : List α} (h : EV K M te σ B L rRef p L') (hc : L'[n]? = some ⟨p, cLst r, xs⟩) : EV K M (tCB (fun xs H Q => ∃ p ys, xs = [.ref p] ∧ ((SqL K H p ys ∧ ∀ l, H l = none → Q (.ref l) (upd H l (.tup ys))) ∨ (SqT K H p ys ∧ Q (.ref p) H))) (tCons te tNil)) σ B L (rTup r) xs L' := fun B1 H e w Q q =>
  h B1 H e w _ fun v B2 H2 e2 w2 hv => by
    have hv : v = .ref p := hv
    subst hv
    obtain ⟨⟨o, h1, vs, h2, hp⟩, _⟩ := w2.at hc
    have h1 : H2 p = some o := h1
    refine ⟨p, vs, rfl, .inl ⟨sq_of (by rw [h1, h2]), fun l hl => ?_⟩⟩
    have eN := Ex.new (o := HO.tup vs) (fresh_back w2.b hl)
    exact q _ (upd B2 l _) _ (e2.trans eN) (w2.ext hl) ⟨l, vs, rfl, st_of upd_same, paired_mono eN hp⟩
/-! ### slices -/
def cutL (xs : List α) (lo hi : Option Int) : List α := (xs.drop (HT.sIx xs.length 0 lo)).take (HT.sIx xs.length xs.length hi - HT.sIx xs.length 0 lo)
theorem paired_cut {F : V → α → Prop} {xs : List V} {as : List α} (h : Paired F xs as) (lo hi : Option Int) : Paired F (cutV xs lo hi) (cutL as lo hi) := by
  unfold cutV cutL
  rw [paired_len h]
  exact paired_take _ (paired_drop _ h)
def EO (K : Fg) (M : Fr) (t : TO) (σ : St) (B : Hp) (L : List Cell) (o : Option Int) (L' : List Cell) : Prop :=
  ∀ B1 H, Ex B B1 → Own K B1 M L H → ∀ Q : Option Int → Hp → Prop, (∀ B2 H2, Ex B1 B2 → Own K B2 M L' H2 → Q o H2) → t σ H Q
theorem eo_none : EO K M tNoPart σ B L none L := fun B1 H e w Q q => q B1 H (Ex.refl _) w
theorem eo_some (h : EV K M te σ B L rInt i L') : EO K M (tPart te) σ B L (some i) L' := fun B1 H e w Q q => h B1 H e w _ fun v B2 H2 e2 w2 hv => ⟨i, hv, q B2 H2 e2 w2⟩
theorem cut_all {xs : List α} {lo hi : Option Int} (h1 : HT.sIx xs.length 0 lo = 0) (h2 : HT.sIx xs.length xs.length hi = xs.length) : cutL xs lo hi = xs := by
  unfold cutL
  rw [h1, h2]
  simp
theorem ev_slT {xs : List α} {tl th : TO} {lo hi : Option Int} (h : EV K M te σ B L (rTup r) xs L1) (hl : EO K M tl σ B L1 lo L2) (hh : EO K M th σ B L2 hi L') : EV K M (tSl (rSlA K) te tl th) σ B L (rTup r) (cutL xs lo hi) L' := fun B1 H e w Q q =>
  h B1 H e w _ fun v B2 H2 e2 w2 hv => hl B2 H2 (e.trans e2) w2 _ fun B3 H3 e3 w3 => hh B3 H3 ((e.trans e2).trans e3) w3 _ fun B4 H4 e4 w4 => by
    obtain ⟨p, vs, rfl, hs, hp⟩ := hv
    have e34 := e3.trans e4
    have hp4 := paired_mono e34 hp
    refine ⟨p, vs, rfl, ex_t w4.b (ex_t e34 hs), fun ⟨h1, h2⟩ => ?_, fun _ l hl => ?_⟩
    · refine q _ B4 H4 (e2.trans e34) w4 ⟨p, vs, rfl, ex_t e34 hs, ?_⟩
      rw [paired_len hp] at h1 h2
      rw [cut_all h1 h2]
      exact hp4
    · have eN := Ex.new (o := HO.tup (cutV vs lo hi)) (fresh_back w4.b hl)
      exact q _ (upd B4 l _) _ ((e2.trans e34).trans eN) (w4.ext hl) ⟨l, _, rfl, st_of upd_same, paired_mono eN (paired_cut hp4 lo hi)⟩
theorem el_slL {xs : List α} {tl th : TO} {lo hi : Option Int} (h : EV K M te σ B L (rLst r) xs L1) (hl : EO K M tl σ B L1 lo L2) (hh : EO K M th σ B L2 hi L') : EVL K M (tSl (rSlL K) te tl th) σ B L r (cutL xs lo hi) L' := fun B1 H e w Q q =>
  h B1 H e w _ fun v B2 H2 e2 w2 hv => hl B2 H2 (e.trans e2) w2 _ fun B3 H3 e3 w3 => hh B3 H3 ((e.trans e2).trans e3) w3 _ fun B4 H4 e4 w4 => by
    obtain ⟨p, vs, rfl, hs, hp⟩ := rl_sc hv
    have e34 := e3.trans e4
    exact ⟨p, vs, rfl, ex_l w4.b (ex_l e34 hs), fun l hl => q l B4 _ (e2.trans e34) (w4.new hl ⟨_, rfl, paired_cut (paired_mono e34 hp) lo hi⟩)⟩
theorem el_revL {xs : List α} (h : EV K M te σ B L (rLst r) xs L') : EVL K M (tRevL K te) σ B L r xs.reverse L' := fun B1 H e w Q q =>
  h B1 H e w _ fun v B2 H2 e2 w2 hv => by
    obtain ⟨p, vs, rfl, hs, hp⟩ := rl_sc hv
    exact ⟨p, vs, rfl, ex_l w2.b hs, fun l hl => q l B2 _ e2 (w2.new hl ⟨_, rfl, paired_rev hp⟩)⟩
theorem el_revC {n : Nat} {p : Addr} {xs : List α} (h : EV K M te σ B L rRef p L') (hc : L'[n]? = some ⟨p, cLst r, xs⟩) : EVL K M (tRevL K te) σ B L r xs.reverse L' := fun B1 H e w Q q =>
  h B1 H e w _ fun v B2 H2 e2 w2 hv => by
    have hv : v = .ref p := hv
    subst hv
    obtain ⟨⟨o, h1, vs, h2, hp⟩, _⟩ := w2.at hc
    have h1 : H2 p = some o := h1
    exact ⟨p, vs, rfl, sq_of (by rw [h1, h2]), fun l hl => q l B2 _ e2 (w2.new hl ⟨_, rfl, paired_rev hp⟩)⟩
theorem ev_revT {xs : List α} (h : EV K M te σ B L (rTup r) xs L') : EV K M (L3G.tRevT K te) σ B L (rTup r) xs.reverse L' := fun B1 H e w Q q =>
  h B1 H e w _ fun v B2 H2 e2 w2 hv => by
    obtain ⟨p, vs, rfl, hs, hp⟩ := hv
    refine ⟨p, vs, rfl, ex_t w2.b hs, fun l hl => ?_⟩
    have eN := Ex.new (o := HO.tup vs.reverse) (fresh_back w2.b hl)
    exact q _ (upd B2 l _) _ (e2.trans eN) (w2.ext hl) ⟨l, _, rfl, st_of upd_same, paired_mono eN (paired_rev hp)⟩
/-! ### tuples: +, * -/
def catT (xs ys : List α) : Option (List α) := if xs.length + ys.length ≤ 1000000 then some (xs ++ ys) else none
theorem ev_catT {xs ys zs : List α} (h : EV K M ta σ B L (rTup r) xs L1) (h' : EV K M tb σ B L1 (rTup r) ys L2) (hc : catT xs ys = some zs) : EV K M (tOp (rCatA K) ta tb) σ B L (rTup r) zs L2 := fun B1 H e w Q q =>
  h B1 H e w _ fun v B2 H2 e2 w2 hv => h' B2 H2 (e.trans e2) w2 _ fun u B3 H3 e3 w3 hu => by
    obtain ⟨p, vs, rfl, hs, hp⟩ := hv
    obtain ⟨p', us, rfl, hs', hp'⟩ := hu
    unfold catT at hc
    split at hc
    · rename_i hl
      obtain rfl := Option.some.inj hc
      have hp3 := paired_mono e3 hp
      have l1 := paired_len hp
      have l2 := paired_len hp'
      refine ⟨p, p', vs, us, rfl, rfl, ex_t w3.b (ex_t e3 hs), ex_t w3.b hs', Nat.le_trans (by omega) (show 1000000 ≤ sizeLine by decide), fun hz => ?_, fun _ hz => ?_, fun _ _ l hl => ?_⟩
      · subst hz
        have : xs = [] := List.length_eq_zero_iff.mp l1.symm
        subst this
        exact q _ B3 H3 (e2.trans e3) w3 ⟨p', us, rfl, hs', hp'⟩
      · subst hz
        have : ys = [] := List.length_eq_zero_iff.mp l2.symm
        subst this
        exact q _ B3 H3 (e2.trans e3) w3 ⟨p, vs, rfl, ex_t e3 hs, by rw [List.append_nil]; exact hp3⟩
      · have eN := Ex.new (o := HO.tup (vs ++ us)) (fresh_back w3.b hl)
        exact q _ (upd B3 l _) _ ((e2.trans e3).trans eN) (w3.ext hl) ⟨l, _, rfl, st_of upd_same, paired_mono eN (paired_app hp3 hp')⟩
    · cases hc
def repT (xs : List α) (k : Int) : Option (List α) := if xs ≠ [] ∧ 2 ≤ k ∧ k ≤ 1000 ∧ xs.length ≤ 1000 then some (List.replicate k.toNat xs).flatten else none
theorem paired_rep {F : V → α → Prop} {xs : List V} {as : List α} (h : Paired F xs as) : ∀ n : Nat, Paired F (List.replicate n xs).flatten (List.replicate n as).flatten
  | 0 => .nil
  | n + 1 => by
    rw [List.replicate_succ, List.replicate_succ, List.flatten_cons, List.flatten_cons]
    exact paired_app h (paired_rep h n)
theorem ev_repT {xs zs : List α} (h : EV K M ta σ B L (rTup r) xs L1) (h' : EV K M tb σ B L1 rInt k L2) (hc : repT xs k = some zs) : EV K M (tOp (rRepT K) ta tb) σ B L (rTup r) zs L2 := fun B1 H e w Q q =>
  h B1 H e w _ fun v B2 H2 e2 w2 hv => h' B2 H2 (e.trans e2) w2 _ fun u B3 H3 e3 w3 hu => by
    obtain ⟨p, vs, rfl, hs, hp⟩ := hv
    unfold repT at hc
    split at hc
    · rename_i hl
      obtain ⟨l0, l1, l2, l3⟩ := hl
      obtain rfl := Option.some.inj hc
      have hp3 := paired_mono e3 hp
      have ll := paired_len hp
      refine ⟨p, k, vs, rfl, hu, ex_t w3.b (ex_t e3 hs), fun hz => l0 (by subst hz; exact List.length_eq_zero_iff.mp ll.symm), l1, l2, by omega, fun l hl => ?_⟩
      have eN := Ex.new (o := HO.tup (List.replicate k.toNat vs).flatten) (fresh_back w3.b hl)
      exact q _ (upd B3 l _) _ ((e2.trans e3).trans eN) (w3.ext hl) ⟨l, _, rfl, st_of upd_same, paired_mono eN (paired_rep hp3 _)⟩
    · cases hc
/-! ### typed values as data -/
def DQ (r : Rep α) (f : α → PyData) : Prop := ∀ K B v a, r.is K B v a → Dp K B v (f a)
theorem dq_int : DQ rInt PyData.int := dr_int.dp
theorem dq_bool : DQ rBool PyData.bool := dr_bool.dp
theorem dq_non : DQ rNon dNon := dr_non.dp
theorem dq_str : DQ rStr PyData.str := fun _ _ _ a h => by have h : _ = V.str a := h; subst h; exact .str a
theorem dq_dat : DQ rDat id := fun _ _ _ _ h => h
theorem dq_tup {f : α → PyData} (d : DQ r f) : DQ (rTup r) (dTup f) := fun K B v a ⟨p, xs, h1, h2, h3⟩ => by subst h1; exact .tup h2 (dpAll_of (d K B) h3)
theorem dq_lst {f : α → PyData} (d : DQ r f) : DQ (rLst r) (dLst f) := fun K B v a ⟨p, xs, h1, h2, h3⟩ => by subst h1; exact .lst (sq_of h2) (dpAll_of (d K B) h3)
theorem dq_T2 {f : α → PyData} {g : β → PyData} (d : DQ r f) (e : DQ s g) : DQ (rT2 r s) (dT2 f g) := fun K B v a ⟨p, x, y, h1, h2, h3, h4⟩ => by subst h1; exact .tup h2 (.cons (d _ _ _ _ h3) (.cons (e _ _ _ _ h4) .nil))
theorem dq_T3 {f : α → PyData} {g : β → PyData} {h : γ → PyData} (d : DQ r f) (e : DQ s g) (c : DQ t h) : DQ (rT3 r s t) (dT3 f g h) := fun K B v a ⟨p, x, y, z, h1, h2, h3, h4, h5⟩ => by subst h1; exact .tup h2 (.cons (d _ _ _ _ h3) (.cons (e _ _ _ _ h4) (.cons (c _ _ _ _ h5) .nil)))
theorem dq_opt {f : α → PyData} (d : DQ r f) : DQ (rOpt r) (dOpt f) := fun K B v a h => by
  cases a with
  | none => have h : v = .non := h; subst h; exact .non
  | some a => exact d _ _ _ _ h
theorem ev_dq {f : α → PyData} {a : α} (h : EV K M te σ B L r a L') (D : DQ r f) : EV K M te σ B L rDat (f a) L' := ev_as h fun _ _ h => D _ _ _ _ h
theorem ev_notND {d : PyData} (ha : EV K M ta σ B L rDat d L1) : EV K M (tNotN ta) σ B L rBool (!isNoneD d) L1 := fun B1 H e w Q q =>
  ha B1 H e w _ fun x B2 H2 e2 w2 hx => q _ B2 H2 e2 w2 (by
    show V.bl _ = V.bl _
    congr 1
    have hx : Dp K B2 x d := hx
    cases hx <;> rfl)
end
/-- a slot that may not be set yet -/
def slotIs {α : Type} (r : Rep α) (K : Fg) (B : Hp) (o : Option V) (x : Option α) : Prop := match x with
  | none => True
  | some a => ∃ v, o = some v ∧ r.is K B v a
theorem slot_mono {α : Type} {r : Rep α} {K : Fg} {B B' : Hp} {o : Option V} {x : Option α} (e : Ex B B') (h : slotIs r K B o x) : slotIs r K B' o x := by
  cases x with
  | none => trivial
  | some a => obtain ⟨v, h1, h2⟩ := h; exact ⟨v, h1, r.mono e h2⟩
theorem slot_get {α : Type} {r : Rep α} {K : Fg} {B : Hp} {o : Option V} {x : Option α} {a : α} (h : slotIs r K B o x) (e : x = some a) : ∃ v, o = some v ∧ r.is K B v a := by
  subst e; exact h
end L3

/-! () * k -/
namespace L3G
open PySem PySem.Spec PyProof.Rows L2
theorem tuple_mul0 (l : Addr) (n : Nat) (dd : Option Addr) (sl : Array (Option Value)) (x : Int) (u : Tok) (c0 : (decide (x < -(2 ^ 63)) || decide (x ≥ 2 ^ 63)) = false) :
    Meets (Builtin.«tuple.__mul__» ⟨[.ref l, .int x u], []⟩) (fun _ R s => s.heap.get? l = some { cls := .type "tuple", dict := dd, data := .seq #[] n, slots := sl } ∧
      R (.ok (.ret (Value.ref l))) s) :=
  .of_wp fun prog w A R s h => by
    obtain ⟨hp, g, d, tk, os⟩ := s
    obtain ⟨hl, h⟩ := h
    have f1 := AutoSeq1.idx_int
    wp_walk using wpAny_loadPart' hl
    repeat (first
      | (refine wpAny_ite_false (decide_eq_false (by rw [c0]; exact Bool.false_ne_true)) ?_; wp_walk using wpAny_loadPart' hl)
      | (refine wpAny_ite_true (decide_eq_true (by rfl)) ?_; wp_walk using wpAny_loadPart' hl))
    exact ⟨_, rfl, h⟩
def rRepA (K : PySem.W.Frag) : R2 := fun x y H Q => rRepT K x y H Q ∨ ∃ l k, x = .ref l ∧ y = .int k ∧ SqT K H l [] ∧ 0 ≤ k ∧ k ≤ 1000 ∧ Q (.ref l) H
theorem op_repA {X : Cx} : OpR X (binaryOp .Mult) (rRepA X.K) := by
  intro pins s σ H x y v u Q I rx ry h
  rcases h with h | h
  · exact op_repT pins s σ H x y v u Q I rx ry h
  · obtain ⟨l, k, rfl, rfl, hT, h1, h2, q⟩ := h
    cases rx
    obtain ⟨t, rfl⟩ := ry
    obtain ⟨its, r, ⟨⟨cls, dd, data, sl⟩, ho, hc, n, hd⟩, hs⟩ := I.tuple hT
    simp only at hc hd
    subst hc hd
    cases r
    have c0 : (decide (k < -(2 ^ 63)) || decide (k ≥ 2 ^ 63)) = false := by
      rw [decide_eq_false (by omega), decide_eq_false (by omega)] <;> rfl
    refine wpAny_binaryOp_repeat_ref (T := "tuple") (U := "int") (by decide) ⟨_, ho, rfl⟩ (fun s' => typeIs_int s' k t) noFill_tuple_mul F.fills_int_mul F.slot_int_rmul repeat_tuple F.slot_int_index.lookup
      (call_meets F.slot_int_rmul (typeIs_int s k t) F.entry_int_rmul (F.args_int_rmul_2 _ _) (int_rmul_tuple k t l #[] n dd sl)
        ⟨ho, rfl, ⟨_, ho, rfl⟩, call_meets F.slot_tuple_mul ⟨_, ho, rfl⟩ F.entry_tuple_mul (F.args_tuple_mul_2 _ _) (tuple_mul0 l n dd sl k t c0) ⟨ho, ?_⟩⟩)
    exact ⟨.ref l, H, I, rfl, q⟩
end L3G
namespace L3
open PySem L2
open Evl (Ex ex_rd ex_l ex_t sq_of st_of fresh_back)
section
variable {K : Fg} {M : Fr} {σ : St} {B : Hp} {L L1 L2 L' : List Cell} {α : Type} {r : Rep α} {ta tb : TE} {k : Int}
def repA (xs : List α) (k : Int) : Option (List α) := if 2 ≤ k ∧ k ≤ 1000 ∧ xs.length ≤ 1000 then some (List.replicate k.toNat xs).flatten else none
theorem rep_nil : ∀ n : Nat, (List.replicate n ([] : List α)).flatten = []
  | 0 => rfl
  | n + 1 => by rw [List.replicate_succ, List.flatten_cons, rep_nil n]; rfl
theorem ev_repA {xs zs : List α} (h : EV K M ta σ B L (rTup r) xs L1) (h' : EV K M tb σ B L1 rInt k L2) (hc : repA xs k = some zs) : EV K M (tOp (L3G.rRepA K) ta tb) σ B L (rTup r) zs L2 := fun B1 H e w Q q =>
  h B1 H e w _ fun v B2 H2 e2 w2 hv => h' B2 H2 (e.trans e2) w2 _ fun u B3 H3 e3 w3 hu => by
    obtain ⟨p, vs, rfl, hs, hp⟩ := hv
    unfold repA at hc
    split at hc
    · rename_i hl
      obtain ⟨l1, l2, l3⟩ := hl
      obtain rfl := Option.some.inj hc
      have hp3 := paired_mono e3 hp
      have ll := paired_len hp
      by_cases hn : vs = []
      · subst hn
        have hx : xs = [] := List.length_eq_zero_iff.mp ll.symm
        subst hx
        refine .inr ⟨p, k, rfl, hu, ex_t w3.b (ex_t e3 hs), by omega, l2, ?_⟩
        rw [rep_nil] at q
        exact q _ B3 H3 (e2.trans e3) w3 ⟨p, [], rfl, ex_t e3 hs, .nil⟩
      · refine .inl ⟨p, k, vs, rfl, hu, ex_t w3.b (ex_t e3 hs), hn, l1, l2, by omega, fun l hl => ?_⟩
        have eN := Ex.new (o := HO.tup (List.replicate k.toNat vs).flatten) (fresh_back w3.b hl)
        exact q _ (upd B3 l _) _ ((e2.trans e3).trans eN) (w3.ext hl) ⟨l, _, rfl, st_of upd_same, paired_mono eN (paired_rep hp3 _)⟩
    · cases hc
end
end L3

/-! dicts of ints by ints; sorted(d.items()) -/
namespace L3G
open PySem PySem.Spec PyProof.Rows L2
abbrev encI (kvs : List (Int × Int)) : List (Key × V) := kvs.map fun q => (Sum.inl q.1, V.int q.2)
def rSortI : V → Hp → VK → Prop := fun x H Q => ∃ (d : Addr) (kvs : List (Int × Int)), x = .ref d ∧ H d = some (.dK (encI kvs)) ∧
  ∀ (H' : Hp) (p : Addr) (ts : List Addr) (ys : List (Int × Int)), (∀ b o, H b = some o → H' b = some o) → (∀ t ∈ ts, H t = none) → H' p = none → Paired (fun (t : Addr) (q : Int × Int) => H' t = some (.tup [.int q.1, .int q.2])) ts ys →
    ys.Perm kvs → ys.Pairwise (fun a b => SrtO.lexB b a = false) → Q (.ref p) (upd H' p (.lst (ts.map V.ref)))
def tSortI (te : TE) : TE := fun σ H Q => te σ H fun x H1 => rSortI x H1 Q
def ofH (H : Hp) (v : Value) : Int × Int := match v with
  | .ref a => (match H a with
    | some (.tup [.int x, .int y]) => (x, y)
    | _ => (0, 0))
  | _ => (0, 0)
section
variable {X : Cx} {e : Expr} {te : TE} {p apos cpos pos : Pos}
theorem tups_laid {pins : List (Addr × Obj)} {σ : L2.St} {H : Hp} {s : Shared} {h' : Heap} {tk lo : Nat} {kvs : List (Key × V)} {vs : List (Key × Value)} {as : List Addr} (I : Inv X pins σ H s) (hlo : s.heap.objs.size ≤ lo) (kv : KV kvs vs)
    (hk : ∀ b o, s.heap.get? b = some o → h'.get? b = some o) (hl : as.length = vs.length) (hG : PySem.W.KdxG (mixKind X.prog X.w) vs lo h' as) :
    ∃ H' : Hp, (∀ b o, H b = some o → H' b = some o) ∧ (∀ t ∈ as, H t = none) ∧ Paired (fun (t : Addr) (q : Key × V) => H' t = some (.tup [kV q.1, q.2])) as kvs ∧ Inv X pins σ H' { s with heap := h', toks := tk } := by
  have lk : kvs.length = vs.length := Paired.length kv
  have nd : as.Nodup := List.Pairwise.imp (fun {a b} (h : a < b) => Nat.ne_of_lt h) hG.rise
  have ge : ∀ t ∈ as, s.heap.objs.size ≤ t := fun t ht => Nat.le_trans hlo (Nat.le_of_lt (hG.above t ht))
  have new : ∀ t ∈ as, H t = none := fun t ht => I.hok.fresh (ge t ht)
  have atP := LiI.putT_at as kvs H (by omega) nd
  have off : ∀ b, b ∉ as → LiI.putT H as kvs b = H b := fun b h1 => LiI.putT_off as kvs _ h1
  have low : ∀ b o, s.heap.get? b = some o → b ∉ as := fun b o e z => absurd (Heap.lt_size e) (Nat.not_lt.mpr (ge b z))
  have kp : ∀ b u, H b = some u → (LiI.putT H as kvs) b = some u := fun b u e => by
    rw [off b (fun z => by rw [new b z] at e; cases e)]
    exact e
  refine ⟨LiI.putT H as kvs, kp, new, atP, ?_⟩
  refine I.call' (ch := []) rfl ⟨fun b o q _ _ _ => hk b o q, fun b o q _ _ _ => ⟨o.slots, hk b o q⟩, fun b o q n _ => ?_, fun b o q _ => ⟨o, hk b o q⟩, fun b xs q => kp b _ q, fun b o u q => kp b _ q, fun b ps q => ⟨#[], by rw [kp b _ q]; simp⟩⟩ (fun b u q => ?_) I.bare fun b z => by simp at z
  · rw [off b (low b o q)]
    exact n
  · by_cases hb : b ∈ as
    · obtain ⟨j, pk, e1, e2, e3⟩ := LiI.paired_ix atP hb
      rw [e3] at q
      cases q
      obtain ⟨key, k, x, f1, f2, f3⟩ := hG.pairs j b e1
      obtain ⟨qv, g1, g2, g3⟩ := LiI.paired_get kv e2
      rw [f1] at g1
      cases g1
      have rk : RelV (kV pk.1) key := by
        rw [g2]
        exact relV_key (show keyIs k key = true from f2)
      exact ⟨by show 2 ≤ sizeLine; decide, [key, x], .cons rk (.cons g3 .nil), ⟨_, f3, rfl, _, rfl⟩⟩
    · rw [off b hb] at q
      exact (I.hok b u q).stay (fun d v _ y => hk d v y) (fun d y => kp d _ y) fun d xs y => kp d _ y
theorem ofH_eq {H : Hp} {a : Addr} {q : Int × Int} (h : H a = some (.tup [.int q.1, .int q.2])) : ofH H (.ref a) = q := by
  show (match H a with | some (.tup [.int x, .int y]) => (x, y) | _ => (0, 0)) = q
  rw [h]
theorem ofH_is {H : Hp} : ∀ {as : List Addr} {kvs : List (Int × Int)}, Paired (fun (t : Addr) (q : Key × V) => H t = some (.tup [kV q.1, q.2])) as (encI kvs) → (as.map Value.ref).map (ofH H) = kvs
  | [], [], _ => rfl
  | [], _ :: _, h => by cases h
  | _ :: _, [], h => by cases h
  | a :: as, q :: kvs, h => by
    cases h with
    | cons h1 h2 =>
      rw [List.map_cons, List.map_cons, ofH_is h2]
      have h1 : H a = some (.tup [.int q.1, .int q.2]) := h1
      show ofH H (.ref a) :: kvs = _
      rw [ofH_eq h1]
theorem ofH_at {H : Hp} : ∀ {as : List Addr} {kvs : List (Int × Int)}, Paired (fun (t : Addr) (q : Key × V) => H t = some (.tup [kV q.1, q.2])) as (encI kvs) → ∀ {a}, a ∈ as → H a = some (.tup [.int (ofH H (.ref a)).1, .int (ofH H (.ref a)).2])
  | [], _, _, a, h => absurd h (by simp)
  | _ :: _, [], h, _, _ => by cases h
  | b :: as, q :: kvs, h, a, ha => by
    cases h with
    | cons h1 h2 =>
      rcases List.mem_cons.mp ha with e | ha
      · subst e
        have h1 : H a = some (.tup [.int q.1, .int q.2]) := h1
        have e : ofH H (.ref a) = q := ofH_eq h1
        rw [e]; exact h1
      · exact ofH_at h2 ha
theorem paired_self {H : Hp} : ∀ {ts : List Addr}, (∀ t ∈ ts, H t = some (.tup [.int (ofH H (.ref t)).1, .int (ofH H (.ref t)).2])) → Paired (fun (t : Addr) (q : Int × Int) => H t = some (.tup [.int q.1, .int q.2])) ts ((ts.map Value.ref).map (ofH H))
  | [], _ => .nil
  | t :: ts, h => .cons (h t List.mem_cons_self) (paired_self fun u hu => h u (List.mem_cons_of_mem _ hu))
theorem refs_of : ∀ {us : List Value}, (∀ u ∈ us, ∃ a, u = Value.ref a) → ∃ ts : List Addr, us = ts.map Value.ref
  | [], _ => ⟨[], rfl⟩
  | u :: us, h => by
    obtain ⟨a, rfl⟩ := h u List.mem_cons_self
    obtain ⟨ts, rfl⟩ := refs_of fun v hv => h v (List.mem_cons_of_mem _ hv)
    exact ⟨a :: ts, rfl⟩
/-- sorted(e.items()) -/
theorem pe_sortI (hc : X.calm = true) (he : PE X e te) (hg : Gl X "sorted") (hm : X.mg "sorted" = none) (hv : bootBuiltins "sorted" = some (.builtin "sorted")) (hbase : attributeBase e "items" X.env (eval e X.env) = eval e X.env := by rfl) (hline : (apos.endLine == cpos.line) = true := by rfl)
    (hs : starEach [.Call (.Attribute e "items" apos) [] [] cpos] X.env = (false, eval (.Call (.Attribute e "items" apos) [] [] cpos) X.env) :: starEach [] X.env := by rfl) :
    PE X (.Call (.Name "sorted" p) [.Call (.Attribute e "items" apos) [] [] cpos] [] pos) (tSortI te) := by
  refine ⟨fun pins s σ H Q I hq => ?_⟩
  refine wpAny_Call_Name_kw (ld_blt I hg hm hv ?_)
  refine PyProof.Rows.callWith_builtin1 ?_ hs (by rfl)
  rw [hs]
  show wpAny _ _ (spliced ((false, eval (.Call (.Attribute e "items" apos) [] [] cpos) X.env) :: backTo pos (starEach [] X.env))) _ _ s
  refine Calls.spliced_cons ?_
  refine wpAny_Call_method (T := "dict") (id := "dict.items") hbase rfl hline F.plainAttrs_dict F.slot_dict_items F.type_dict_items (thn (he.run pins s σ H _ I hq) fun u s1 ⟨x, H1, I1, rx, d, kvs, ex, hd, q⟩ => ?_)
  subst ex
  obtain rfl : u = Value.ref d := rx
  obtain ⟨hz, hs0, vs, kv, hdo⟩ := I1.hok d _ hd
  obtain ⟨ep, hat⟩ := hdo.dictAt
  have lk : (encI kvs).length = vs.length := Paired.length kv
  have I2 : Inv X pins σ H1 { s1 with heap := s1.heap.push { cls := .type "dict_items", data := .fields #[.ref d] } } := I1.kept (t' := s1.toks) fun b ob q => Heap.get?_push_of_some _ q
  refine ⟨hdo.typeIs, hdo.mapOf.noDict, ?_⟩
  show wpAny _ _ (callWith cpos (.builtin "dict.items") [.ref d] [] []) _ X.xe s1
  refine method_meetsIn F.slot_dict_items F.entry_dict_items rfl (PySem.evalArgs_none ⟨rfl, hdo.typeIs, F.args_dict_items_1 _, _, meets_dict_items (mixKind X.prog X.w) d hs0, ⟨vs, hdo⟩, ?_⟩)
  refine Calls.spliced_nil ?_
  refine Calls.call_function_entry kind_sorted plain_sorted entry_sorted (args_sorted1 _) ?_
  unfold Builtin.«sorted»
  refine wpAny_bind (m := checkCount "sorted" 1 1 _) (wpAny_pure ?_)
  have hh : X.A.in1.handled = none := I1.ok.hd hc
  refine wpAny_bind (PySem.W.kdx_collect (A := X.A.in1) (knd := mixKind X.prog X.w) (kvs := vs) (ep := ep) hh ⟨_, Heap.get?_push_size _ rfl, rfl, rfl⟩ (hat.push _) (by omega) fun h' tk as hk hl hG => ?_)
  obtain ⟨H', k1, k3, k6, J⟩ := tups_laid (tk := tk) I2 (Nat.le_refl _) kv hk hl hG
  have hz2 : (as.map Value.ref).length ≤ sizeLine := by rw [List.length_map, hl]; omega
  refine wpAny_bind (wpAny_newList ?_ hz2)
  have hoL : (h'.push (seqObj "list" (as.map Value.ref).toArray 0)).get? h'.objs.size = some (seqObj "list" (as.map Value.ref).toArray 0) := Heap.get?_push_size _ rfl
  have isP : ∀ v ∈ as.map Value.ref, Srt.IsPair h' v (ofH H' v).1 (ofH H' v).2 := fun v hv => by
    obtain ⟨t, ht, rfl⟩ := List.mem_map.mp hv
    have ha := ofH_at k6 ht
    obtain ⟨_, its2, r2, o, ho, hc, n, hd⟩ := J.hok _ _ ha
    obtain ⟨u1, u2, rfl, ri, rj⟩ := vals2 r2
    obtain ⟨t1, rfl⟩ := ri
    obtain ⟨t2, rfl⟩ := rj
    exact ⟨t, o, t1, t2, n, rfl, ho, hc, hd⟩
  refine wpAny_bind (wpAny_holding (wpAny_call_entry slot_list_sort ⟨_, hoL, rfl⟩ entry_list_sort (SrtO.list_sort_ord (n := 0) (SrtO.swo_lex (ofH H')) hoL hz2 (fun h2 => SrtO.pairs_sortableO (by omega) (fun v hm => (isP v hm).keeps fun b o e _ => Heap.get?_push_of_some _ e) fun o e => ?_) fun out hs hb => ⟨_, rfl, ?_⟩) (args_list_sort _)))
  · have e' : some o = some (seqObj "list" (as.map Value.ref).toArray 0) := e.symm.trans hoL
    cases e'
    intro c
    exact absurd (Value.type.inj c) (by decide)
  · refine wpAny_pure ⟨_, rfl, ?_⟩
    obtain ⟨ts, rfl⟩ := refs_of (us := out) fun u hu => by
      obtain ⟨t, _, e⟩ := List.mem_map.mp (hb.perm.mem_iff.mp hu)
      exact ⟨t, e.symm⟩
    have mem : ∀ t ∈ ts, t ∈ as := fun t ht => by
      obtain ⟨t', h1, h2⟩ := List.mem_map.mp (hb.perm.mem_iff.mp (List.mem_map.mpr ⟨t, ht, rfl⟩))
      cases h2
      exact h1
    have hl2 := hb.perm.length_eq
    have e1 := ofH_is k6
    obtain ⟨n, hn⟩ := sortedHeap_at (out := (ts.map Value.ref).toArray) hoL
    have old : ∀ b o, h'.get? b = some o → (sortedHeap (h'.push (seqObj "list" (as.map Value.ref).toArray 0)) h'.objs.size (as.map Value.ref) (ts.map Value.ref).toArray).get? b = some o := fun b o e => by
      have := Heap.lt_size e
      rw [sortedHeap_old (Nat.ne_of_lt this) (by rw [size_push']; exact Nat.lt_succ_of_lt this)]
      exact Heap.get?_push_of_some _ e
    refine ⟨.ref h'.objs.size, _, J.laid (a := h'.objs.size) (o := .lst (ts.map V.ref)) (t' := tk) old (Nat.le_refl _) ?_, rfl, q H' h'.objs.size ts ((ts.map Value.ref).map (ofH H')) k1 (fun t ht => k3 t (mem t ht)) (J.hok.fresh (Nat.le_refl _)) (paired_self fun t ht => ofH_at k6 (mem t ht)) ?_ ?_⟩
    · refine ⟨by rw [List.length_map]; rw [List.length_map] at hl2; rw [hl2]; exact hz2, ts.map Value.ref, n, LiI.vals_refs ts, hn⟩
    · rw [← e1]
      exact hb.perm.map _
    · exact SrtO.srtd_map (lt := SrtO.lexB) hs
end
end L3G
namespace L3
open PySem L2
open Evl (Ex ex_rd ex_l ex_t sq_of st_of fresh_back)

/-! ### dicts of ints by ints -/
def putI : List (Int × Int) → Int → Int → List (Int × Int)
  | [], k, v => [(k, v)]
  | q :: kvs, k, v => if q.1 = k then (q.1, v) :: kvs.map (fun q => if q.1 = k then (q.1, v) else q) else q :: putI kvs k v
def leI (a b : Int × Int) : Bool := !SrtO.lexB b a
def sortI (l : List (Int × Int)) : List (Int × Int) := l.mergeSort leI
def cDk : CRep (List (Int × Int)) := ⟨fun _ _ o a => o = .dK (L3G.encI a), fun _ h => h⟩
theorem putI_cons_ne {q : Int × Int} {kvs : List (Int × Int)} {k v : Int} (h : q.1 ≠ k) : putI (q :: kvs) k v = q :: putI kvs k v := by
  show (if q.1 = k then _ else _) = _
  rw [if_neg h]
theorem enc_map (k v : Int) : ∀ kvs : List (Int × Int), (L3G.encI kvs).map (fun kv => if kv.1 = (Sum.inl k : Key) then (kv.1, V.int v) else kv) = L3G.encI (kvs.map fun q => if q.1 = k then (q.1, v) else q)
  | [] => rfl
  | q :: kvs => by
    have ih := enc_map k v kvs
    by_cases h : q.1 = k
    · show (if (Sum.inl q.1 : Key) = Sum.inl k then _ else _) :: (L3G.encI kvs).map _ = L3G.encI ((if q.1 = k then (q.1, v) else q) :: _)
      rw [ih, if_pos (by rw [h]), if_pos h]; rfl
    · show (if (Sum.inl q.1 : Key) = Sum.inl k then _ else _) :: (L3G.encI kvs).map _ = L3G.encI ((if q.1 = k then (q.1, v) else q) :: _)
      rw [ih, if_neg (fun z => h (Sum.inl.inj z)), if_neg h]; rfl
theorem enc_put (k v : Int) : ∀ kvs : List (Int × Int), putK (L3G.encI kvs) (Sum.inl k) (V.int v) = L3G.encI (putI kvs k v)
  | [] => rfl
  | q :: kvs => by
    by_cases h : q.1 = k
    · have e1 : ((L3G.encI (q :: kvs)).any fun kv => decide (kv.1 = (Sum.inl k : Key))) = true := by
        show (decide ((Sum.inl q.1 : Key) = Sum.inl k) || _) = true
        rw [h, decide_eq_true rfl, Bool.true_or]
      unfold putK
      rw [if_pos e1, enc_map]
      unfold putI
      rw [if_pos h, List.map_cons, if_pos h]
    · have ne : ¬ (Sum.inl q.1 : Key) = Sum.inl k := fun z => h (Sum.inl.inj z)
      have ih := enc_put k v kvs
      rw [putI_cons_ne h]
      unfold putK at ih ⊢
      have e0 : ((L3G.encI (q :: kvs)).any fun kv => decide (kv.1 = (Sum.inl k : Key))) = ((L3G.encI kvs).any fun kv => decide (kv.1 = (Sum.inl k : Key))) := by
        show (decide ((Sum.inl q.1 : Key) = Sum.inl k) || _) = _
        rw [decide_eq_false ne, Bool.false_or]
      rw [e0]
      by_cases ha : ((L3G.encI kvs).any fun kv => decide (kv.1 = (Sum.inl k : Key))) = true
      · rw [if_pos ha] at ih ⊢
        show (if (Sum.inl q.1 : Key) = Sum.inl k then _ else _) :: (L3G.encI kvs).map _ = _
        rw [if_neg ne, ih]
        rfl
      · rw [if_neg ha] at ih ⊢
        show _ :: (L3G.encI kvs ++ _) = _
        rw [ih]
        rfl
theorem sortI_eq {ys l : List (Int × Int)} (hp : ys.Perm l) (hs : ys.Pairwise (fun a b => SrtO.lexB b a = false)) : ys = sortI l := by
  refine List.Perm.eq_of_pairwise (le := fun a b => SrtO.lexB b a = false) (fun a b _ _ h1 h2 => ?_) hs ?_ (hp.trans (List.mergeSort_perm l leI).symm)
  · have a1 := SrtO.lexB_no.mp h1
    have a2 := SrtO.lexB_no.mp h2
    exact Prod.ext (by omega) (by omega)
  · refine (List.pairwise_mergeSort (le := leI) (fun a b c h1 h2 => ?_) (fun a b => ?_) l).imp fun {a b} h => ?_
    · unfold leI at *
      rw [Bool.not_eq_true'] at *
      have a1 := SrtO.lexB_no.mp h1
      have a2 := SrtO.lexB_no.mp h2
      refine SrtO.lexB_no.mpr ?_
      omega
    · unfold leI
      cases e : SrtO.lexB b a with
      | false => rfl
      | true =>
        have a1 := SrtO.lexB_iff.mp e
        have a2 : SrtO.lexB a b = false := SrtO.lexB_no.mpr (by omega)
        rw [a2]; rfl
    · unfold leI at h
      rwa [Bool.not_eq_true'] at h
theorem sortI_perm (l : List (Int × Int)) : (sortI l).Perm l := List.mergeSort_perm l leI
def rSetD : V → V → V → Hp → (Hp → Prop) → Prop := fun o i v H Q => ∃ a H4, o = .ref a ∧ DPut H a i v H4 ∧ Q H4
theorem set_dict {X : Cx} (hu : X.A.units + 1 < cLine) : PSet X rSetD := by
  intro pins s σ H o i v ov iv u Q I ro ri rv h
  obtain ⟨a, H4, rfl, g, q⟩ := h
  cases ro
  exact d_setItem hu I g ri rv fun s4 I4 => ⟨H4, I4, q⟩
section
variable {K : Fg} {M : Fr} {σ : St} {B H H' : Hp} {L L1 L2 L' : List Cell} {α β γ δ : Type} {r : Rep α} {s : Rep β} {ta tb tc te : TE} {tt tu : TT} {tA : TA} {i j k : Int} {D : Ends} {tz : TS}
theorem Own.grow (w : Own K B M L H) (k : ∀ b o, H b = some o → H' b = some o) : Own K B M L H' :=
  ⟨fun b u e => k b u (w.b b u e), fun b u e => k b u (w.m b u e), w.bm, fun x hx => by
    obtain ⟨⟨o, h1, h2⟩, h3⟩ := w.l x hx
    exact ⟨⟨o, k _ _ h1, h2⟩, h3⟩, w.nd, fun P hP => by
    obtain ⟨⟨ps, h1, h2⟩, h3⟩ := w.t P hP
    exact ⟨⟨ps, k _ _ h1, h2⟩, h3⟩⟩
/-- new things that stay -/
theorem Own.join {ts : List Addr} (w : Own K B M L H) (k : ∀ b o, H b = some o → H' b = some o) (new : ∀ t ∈ ts, H t = none) : Ex B (fun a => if a ∈ ts then H' a else B a) ∧ Own K (fun a => if a ∈ ts then H' a else B a) M L H' := by
  have off : ∀ {b u}, B b = some u → b ∉ ts := fun {b u} e z => by
    have := w.b b u e
    rw [new b z] at this
    cases this
  have e0 : Ex B (fun a => if a ∈ ts then H' a else B a) := fun b u e => by
    show (if b ∈ ts then H' b else B b) = some u
    rw [if_neg (off e)]; exact e
  refine ⟨e0, fun b u e => ?_, fun b u e => k b u (w.m b u e), fun b => ?_, fun x hx => ?_, w.nd, fun P hP => ?_⟩
  · have e : (if b ∈ ts then H' b else B b) = some u := e
    by_cases hb : b ∈ ts
    · rw [if_pos hb] at e; exact e
    · rw [if_neg hb] at e; exact k b u (w.b b u e)
  · by_cases hb : b ∈ ts
    · right
      exact fresh_back w.m (new b hb)
    · rcases w.bm b with h | h
      · left
        show (if b ∈ ts then H' b else B b) = none
        rw [if_neg hb]; exact h
      · exact .inr h
  · obtain ⟨⟨o, h1, h2⟩, h3, h4⟩ := w.l x hx
    refine ⟨⟨o, k _ _ h1, x.c.mono e0 h2⟩, ?_, h4⟩
    show (if x.p ∈ ts then H' x.p else B x.p) = none
    rw [if_neg (fun z => by rw [new _ z] at h1; cases h1)]; exact h3
  · obtain ⟨⟨ps, h1, h2⟩, h3, h4⟩ := w.t P hP
    refine ⟨⟨ps, k _ _ h1, h2⟩, ?_, h4⟩
    show (if P ∈ ts then H' P else B P) = none
    rw [if_neg (fun z => by rw [new _ z] at h1; cases h1)]; exact h3
theorem q_asgD {n : Nat} (w : Own K B M L H) (q : ∀ p H', Own K B M (⟨p, cDk, []⟩ :: L) H' → tz D (σ.set n (some (.ref p))) H') : tSeq (tAsg tDNewK (gName n)) tz D σ H :=
  fun p hp => q p _ (w.new hp rfl)
theorem q_setD {n m : Nat} {p : Addr} {as : List (Int × Int)} (w : Own K B M L H) (h : EV K M te σ B L rInt j L1) (hs : σ[m]? = some (some (.ref p))) (hb : EV K M tb σ B L1 rInt i L2) (hc : L2[n]? = some ⟨p, cDk, as⟩) (hr : room as.length = some ())
    (q : ∀ B' H', Ex B B' → Own K B' M (L2.set n ⟨p, cDk, putI as i j⟩) H' → tz D σ H') : tSeq (tAsg te (gSub (tVar m) tb rSetD)) tz D σ H :=
  h B H (Ex.refl _) w _ fun v B1 H1 e1 w1 hv => ⟨_, hs, hb B1 H1 e1 w1 _ fun y B2 H2 e2 w2 hy => by
    obtain ⟨⟨o', g1, g2⟩, _⟩ := w2.at hc
    have g1 : H2 p = some o' := g1
    have g2 : o' = .dK (L3G.encI as) := g2
    have hv : v = .int j := hv
    have hy : y = kV (Sum.inl i) := hy
    subst hv hy
    refine ⟨p, _, rfl, DPut.k (kvs := L3G.encI as) (by rw [g1, g2]) (by rw [List.length_map]; exact room_some hr), q B2 _ (e1.trans e2) (w2.set hc ?_)⟩
    show _ = HO.dK (L3G.encI (putI as i j))
    rw [← enc_put]⟩
theorem el_sortI {n m : Nat} {p : Addr} {as : List (Int × Int)} (hs : σ[m]? = some (some (.ref p))) (hc : L[n]? = some ⟨p, cDk, as⟩) : EVL K M (L3G.tSortI (tVar m)) σ B L (rT2 rInt rInt) (sortI as) L := fun B1 H e w Q q => by
  obtain ⟨⟨o', g1, g2⟩, _⟩ := w.at hc
  have g1 : H p = some o' := g1
  have g2 : o' = .dK (L3G.encI as) := g2
  refine ⟨_, hs, p, as, rfl, by rw [g1, g2], fun H' l ts ys k new hl hp pm st => ?_⟩
  obtain ⟨e2, w2⟩ := w.join k new
  have ey := sortI_eq pm st
  subst ey
  refine q l _ _ e2 (w2.new hl ⟨ts.map V.ref, rfl, ?_⟩)
  have go : ∀ (ts' : List Addr) (ys : List (Int × Int)), (∀ t ∈ ts', t ∈ ts) → Paired (fun (t : Addr) (q : Int × Int) => H' t = some (.tup [.int q.1, .int q.2])) ts' ys → Paired ((rT2 rInt rInt).is K fun a => if a ∈ ts then H' a else B1 a) (ts'.map V.ref) ys := fun ts' => by
    induction ts' with
    | nil => intro ys _ h; cases h; exact .nil
    | cons t ts' ih =>
      intro ys hm h
      cases h with
      | cons h1 h2 =>
        refine .cons ⟨t, _, _, rfl, st_of ?_, rfl, rfl⟩ (ih _ (fun u hu => hm u (List.mem_cons_of_mem _ hu)) h2)
        show (if t ∈ ts then H' t else B1 t) = _
        rw [if_pos (hm t List.mem_cons_self)]
        exact h1
  exact go ts _ (fun _ h => h) hp
theorem ints_of {K : Fg} {B : Hp} : ∀ {vs : List V} {xs : List Int}, Paired (rInt.is K B) vs xs → vs = xs.map V.int
  | _, _, .nil => rfl
  | _, _, .cons h t => by
    have h : _ = V.int _ := h
    rw [h, ints_of t]; rfl
theorem ev_sumL {xs : List Int} (h : EV K M te σ B L (rLst rInt) xs L') : EV K M (tCB (rSum K) (tCons te tNil)) σ B L rInt xs.sum L' := fun B1 H e w Q q =>
  h B1 H e w _ fun v B2 H2 e2 w2 hv => by
    obtain ⟨p, vs, rfl, hs, hp⟩ := rl_sc hv
    exact ⟨p, xs, rfl, by rw [← ints_of hp]; exact ex_l w2.b hs, q _ B2 H2 e2 w2 rfl⟩
end
end L3

namespace L3
open PySem L2
open Evl (Ex ex_rd ex_l ex_t sq_of st_of fresh_back)
/-! ### [..] * k -/
section
variable {K : Fg} {M : Fr} {σ : St} {B H H' : Hp} {L L1 L2 L' : List Cell} {α β γ δ : Type} {r : Rep α} {s : Rep β} {ta tb tc te : TE} {i j k : Int}
def repL (xs : List α) (k : Int) : Option (List α) := if -(2 ^ 62) ≤ k ∧ k < 2 ^ 62 ∧ xs.length * k.toNat ≤ sizeLine then some (List.replicate k.toNat xs).flatten else none
theorem el_rep {xs zs : List α} (h : EVL K M ta σ B L r xs L1) (h' : ∀ p, EV K M tb σ B (⟨p, cLst r, xs⟩ :: L1) rInt k (⟨p, cLst r, xs⟩ :: L2)) (hc : repL xs k = some zs) : EVL K M (tOp rRep ta tb) σ B L r zs L2 := fun B1 H e w Q q =>
  h B1 H e w _ fun p B2 H2 e2 w2 => h' p B2 H2 (e.trans e2) w2 _ fun u B3 H3 e3 w3 hu => by
    unfold repL at hc
    split at hc
    · rename_i hl
      obtain ⟨l1, l2, l3⟩ := hl
      obtain rfl := Option.some.inj hc
      obtain ⟨⟨o, g1, vs, g2, hp⟩, _⟩ := w3.at (i := 0) rfl
      have g1 : H3 p = some o := g1
      have ll := paired_len hp
      have ll : vs.length = xs.length := ll
      refine ⟨p, k, vs, rfl, hu, by rw [g1, g2], by omega, by omega, by rw [ll]; exact l3, fun l hl => ?_⟩
      exact q l B3 _ (e2.trans e3) (w3.tail.new hl ⟨_, rfl, paired_rep hp _⟩)
    · cases hc
theorem nn_rT2 {B : Hp} (v : V) (x : α × β) (h : (rT2 r s).is K B v x) : v ≠ .non := by
  obtain ⟨p, _, _, rfl, _⟩ := h
  exact fun z => by cases z
theorem nn_rTup {B : Hp} (v : V) (x : List α) (h : (rTup r).is K B v x) : v ≠ .non := by
  obtain ⟨p, _, rfl, _⟩ := h
  exact fun z => by cases z
theorem nn_rLst {B : Hp} (v : V) (x : List α) (h : (rLst r).is K B v x) : v ≠ .non := by
  obtain ⟨p, _, rfl, _⟩ := h
  exact fun z => by cases z
abbrev rTupOf (K : Fg) : List V → Hp → VK → Prop := fun xs H Q => ∃ p ys, xs = [.ref p] ∧ ((SqL K H p ys ∧ ∀ l, H l = none → Q (.ref l) (upd H l (.tup ys))) ∨ (SqT K H p ys ∧ Q (.ref p) H))
abbrev rListOf (K : Fg) : List V → Hp → VK → Prop := fun xs H Q => ∃ p ys, xs = [.ref p] ∧ (SqL K H p ys ∨ SqT K H p ys) ∧ ∀ l, H l = none → Q (.ref l) (upd H l (.lst ys))
/-! ### a def at an address -/
structure ClA (P : Program) (w : World) (K : Fg) (mg : Str → Option Value) (base : Heap) (k : Nat) (f : Addr) (sp : Sp) (dvs : List V) : Prop where
  ex : ∃ (fd : FuncData) (ps : List Str) (ds : List Value), FnOk P w K mg base CX0 k f fd ps sp ∧ PySem.W.keepIn K (.ref f) = true ∧ Binds K fd ps ds ∧ Vals dvs ds
theorem Cl.at {P : Program} {w : World} {mg : Str → Option Value} {base : Heap} {k : Nat} {x : Str} {sp : Sp} {dvs : List V} (c : Cl P w K mg base k x sp dvs) : ∃ f, mg x = some (.ref f) ∧ PySem.W.keepIn K (.ref f) = true ∧ ClA P w K mg base k f sp dvs := by
  obtain ⟨f, fd, ps, ds, F, hm, kp, b, d⟩ := c.ex
  exact ⟨f, hm, kp, fd, ps, ds, F, kp, b, d⟩
theorem pe_cL {X : Cx} {k j i : Nat} {f : Addr} {x : Str} {sp : Sp} {dvs : List V} {p pos : Pos} {e : Expr} {es : List Expr} {t : TA} (c : ClA X.prog X.w X.K X.mg X.base k f sp dvs) (hr : Room j X.A) (hk : k ≤ j) (hN : X.N[i]? = some x) (hv : Vis X.env.scope x) (ha : PA X (e :: es) t)
    (hdb : (x == ("__debug__" : Str)) = false := by decide) (hcd : (x == ("__classdict__" : Str)) = false := by decide) (he : starEach (e :: es) X.env = (false, eval e X.env) :: starEach es X.env := by rfl) (hpl : (backTo pos (starEach es X.env)).any (·.1) = false := by rfl) :
    PE X (.Call (.Name x p) (e :: es) [] pos) (tCallL i f sp dvs E0 t) := by
  obtain ⟨fd, ps, ds, F, kp, b, d⟩ := c.ex
  exact pe_callL F (hr.mono hk) hN hv kp b d pass0 ha hdb hcd he hpl
theorem ev_callL {i : Nat} {f : Addr} {sp : Sp} {dvs : List V} {E : XK} {tA : TA} {a : α} (hs : σ[i]? = some (some (.ref f))) (h : EV K M (tCall sp dvs E tA) σ B L r a L') : EV K M (tCallL i f sp dvs E tA) σ B L r a L' :=
  fun B1 H e w Q q => ⟨hs, h B1 H e w Q q⟩
/-- list(range(..)) -/
def rgO (a b : Int) : Option (List Int) := if -(2 ^ 62) ≤ a ∧ a < 2 ^ 62 ∧ -(2 ^ 62) ≤ b ∧ b < 2 ^ 62 ∧ (b - a).toNat ≤ 2 ^ 24 then some (rng a b) else none
theorem rg_paired {K : Fg} {B : Hp} (a b : Int) : Paired (rInt.is K B) (rgV a b) (rng a b) := by
  unfold rgV rng
  exact paired_map (F := rInt.is K B) (f := fun (i : Nat) => V.int (a + (i : Int))) (g := fun (k : Nat) => a + (k : Int)) (fun _ => rfl) _
theorem el_listRg1 {xs : List Int} (h : EV K M ta σ B L rInt k L') (hc : rgO 0 k = some xs) : EVL K M (tLstRg (tRg1 ta)) σ B L rInt xs L' := fun B1 H e w Q q =>
  h B1 H e w _ fun v B2 H2 e2 w2 hv => by
    unfold rgO at hc
    split at hc
    · rename_i ok
      obtain rfl := Option.some.inj hc
      exact ⟨k, hv, ok, fun l hl => q l B2 _ e2 (w2.new hl ⟨_, rfl, rg_paired 0 k⟩)⟩
    · cases hc
theorem el_listRg2 {xs : List Int} (h : EV K M ta σ B L rInt j L1) (h' : EV K M tb σ B L1 rInt k L') (hc : rgO j k = some xs) : EVL K M (tLstRg (tRg2 ta tb)) σ B L rInt xs L' := fun B1 H e w Q q =>
  h B1 H e w _ fun v B2 H2 e2 w2 hv => h' B2 H2 (e.trans e2) w2 _ fun u B3 H3 e3 w3 hu => by
    unfold rgO at hc
    split at hc
    · rename_i ok
      obtain rfl := Option.some.inj hc
      exact ⟨j, k, hv, hu, ok, fun l hl => q l B3 _ (e2.trans e3) (w3.new hl ⟨_, rfl, rg_paired j k⟩)⟩
    · cases hc
/-- a store as a part of a target -/
theorem g_setC {n m l : Nat} {p : Addr} {as : List α} {a : α} {v : V} {G : St → Hp → Prop} (w : Own K B M L H) (hv : r.is K B v a) (hs : σ[m]? = some (some (.ref p))) (hb : EV K M tb σ B L rInt i L2) (hc : L2[n]? = some ⟨p, cLst r, as⟩) (hi : ixO as.length i = some l)
    (q : ∀ B' H', Ex B B' → Own K B' M (L2.set n ⟨p, cLst r, as.set l a⟩) H' → G σ H') : gSub (tVar m) tb rSetL v σ H G :=
  ⟨_, hs, hb B H (Ex.refl _) w _ fun y B2 H2 e2 w2 hy => by
    obtain ⟨⟨o', g1, xs, g2, g3⟩, _⟩ := w2.at hc
    have g1 : H2 p = some o' := g1
    exact ⟨p, xs, i, l, rfl, hy, by rw [g1, g2], by rw [paired_len g3]; exact hi, q B2 _ e2 (w2.set hc ⟨_, rfl, paired_set (r.mono e2 hv) l g3⟩)⟩⟩
/-! ### k in xs, of ints -/
theorem flat_ints : ∀ xs : List Int, (xs.map V.int).all flatV = true
  | [] => rfl
  | x :: xs => by rw [List.map_cons, List.all_cons, flat_ints xs]; rfl
theorem inV_ints (k : Int) : ∀ xs : List Int, inV (.int k) (xs.map V.int) = decide (k ∈ xs)
  | [] => rfl
  | x :: xs => by
    have ih := inV_ints k xs
    unfold inV at ih ⊢
    rw [List.map_cons, List.any_cons, ih]
    have e : eqV (.int x) (.int k) = decide (x = k) := rfl
    rw [e]
    clear ih e
    by_cases h : x = k
    · subst h
      rw [decide_eq_true rfl, Bool.true_or, decide_eq_true (List.mem_cons_self)]
    · rw [decide_eq_false h, Bool.false_or]
      by_cases h2 : k ∈ xs
      · rw [decide_eq_true h2, decide_eq_true (List.mem_cons_of_mem _ h2)]
      · rw [decide_eq_false h2, decide_eq_false fun z => (List.mem_cons.mp z).elim (fun q => h q.symm) h2]
theorem sq_ints {B H : Hp} {v : V} {xs : List Int} (e : Ex B H) (h : (rSeq rInt).is K B v xs) : ∃ p, v = .ref p ∧ (SqL K H p (xs.map V.int) ∨ SqT K H p (xs.map V.int)) := by
  obtain ⟨p, vs, h1, h2, h3⟩ := h
  have ev := ints_of h3
  subst ev
  exact ⟨p, h1, h2.imp (ex_l e) (ex_t e)⟩
theorem ev_inI {xs : List Int} (h : EV K M ta σ B L rInt k L1) (h' : EV K M tb σ B L1 (rSeq rInt) xs L2) : EV K M (tOp (rIn K false) ta tb) σ B L rBool (decide (k ∈ xs)) L2 := fun B1 H e w Q q =>
  h B1 H e w _ fun v B2 H2 e2 w2 hv => h' B2 H2 (e.trans e2) w2 _ fun u B3 H3 e3 w3 hu => by
    have hv : v = .int k := hv
    subst hv
    obtain ⟨p, rfl, hs⟩ := sq_ints w3.b hu
    refine ⟨p, _, rfl, hs, rfl, flat_ints xs, ?_⟩
    rw [inV_ints]
    exact q _ B3 H3 (e2.trans e3) w3 rfl
theorem ev_niI {xs : List Int} (h : EV K M ta σ B L rInt k L1) (h' : EV K M tb σ B L1 (rSeq rInt) xs L2) : EV K M (tOp (rIn K true) ta tb) σ B L rBool (!decide (k ∈ xs)) L2 := fun B1 H e w Q q =>
  h B1 H e w _ fun v B2 H2 e2 w2 hv => h' B2 H2 (e.trans e2) w2 _ fun u B3 H3 e3 w3 hu => by
    have hv : v = .int k := hv
    subst hv
    obtain ⟨p, rfl, hs⟩ := sq_ints w3.b hu
    refine ⟨p, _, rfl, hs, rfl, flat_ints xs, ?_⟩
    rw [inV_ints]
    exact q _ B3 H3 (e2.trans e3) w3 rfl
theorem cell_ints {n : Nat} {p : Addr} {xs : List Int} (w : Own K B M L H) (hc : L[n]? = some ⟨p, cLst rInt, xs⟩) : SqL K H p (xs.map V.int) := by
  obtain ⟨⟨o, h1, vs, h2, h3⟩, _⟩ := w.at hc
  have h1 : H p = some o := h1
  have ev := ints_of h3
  subst ev
  exact sq_of (by rw [h1, h2])
theorem ev_inC {n : Nat} {p : Addr} {xs : List Int} (h : EV K M ta σ B L rInt k L1) (h' : EV K M tb σ B L1 rRef p L2) (hc : L2[n]? = some ⟨p, cLst rInt, xs⟩) : EV K M (tOp (rIn K false) ta tb) σ B L rBool (decide (k ∈ xs)) L2 := fun B1 H e w Q q =>
  h B1 H e w _ fun v B2 H2 e2 w2 hv => h' B2 H2 (e.trans e2) w2 _ fun u B3 H3 e3 w3 hu => by
    have hv : v = .int k := hv
    have hu : u = .ref p := hu
    subst hv hu
    refine ⟨p, _, rfl, .inl (cell_ints w3 hc), rfl, flat_ints xs, ?_⟩
    rw [inV_ints]
    exact q _ B3 H3 (e2.trans e3) w3 rfl
theorem ev_niC {n : Nat} {p : Addr} {xs : List Int} (h : EV K M ta σ B L rInt k L1) (h' : EV K M tb σ B L1 rRef p L2) (hc : L2[n]? = some ⟨p, cLst rInt, xs⟩) : EV K M (tOp (rIn K true) ta tb) σ B L rBool (!decide (k ∈ xs)) L2 := fun B1 H e w Q q =>
  h B1 H e w _ fun v B2 H2 e2 w2 hv => h' B2 H2 (e.trans e2) w2 _ fun u B3 H3 e3 w3 hu => by
    have hv : v = .int k := hv
    have hu : u = .ref p := hu
    subst hv hu
    refine ⟨p, _, rfl, .inl (cell_ints w3 hc), rfl, flat_ints xs, ?_⟩
    rw [inV_ints]
    exact q _ B3 H3 (e2.trans e3) w3 rfl
/-- a list of ours that stays from now on -/
theorem ev_frzC {te : TE} {n : Nat} {p : Addr} {xs : List α} (h : EV K M te σ B L rRef p L') (hc : L'[n]? = some ⟨p, cLst r, xs⟩) : EV K M te σ B L (rLst r) xs (L'.eraseIdx n) := fun B1 H e w Q q =>
  h B1 H e w _ fun v B2 H2 e2 w2 hv => by
    have hv : v = .ref p := hv
    subst hv
    obtain ⟨o, h1, ⟨vs, h2, hp⟩, hB, w3⟩ := w2.freeze hc
    have h1 : H2 p = some o := h1
    have eN := Ex.new (o := o) hB
    refine q _ _ H2 (e2.trans eN) w3 ⟨p, vs, rfl, upd_same.trans (congrArg some h2), paired_mono eN hp⟩
/-- a value that may be None, where it is none -/
theorem ev_get {te : TE} {o : Option α} {a : α} (h : EV K M te σ B L (rOpt r) o L') (e : o = some a) : EV K M te σ B L r a L' := by
  subst e
  exact h
end
/-! ### a global that is a pair of ints -/
def pairAt (K : Fg) (a : Addr) (i j : Int) : Bool := match K.lookup a with
  | some o => decide (o.cls = .type "tuple") && (match o.data with
    | .seq its _ => (match its.toList with
      | [.int x _, .int y _] => decide (x = i) && decide (y = j)
      | _ => false)
    | _ => false)
  | none => false
theorem pairAt_ok {K : Fg} {a : Addr} {i j : Int} (h : pairAt K a i j = true) (B : Hp) : (rT2 rInt rInt).is K B (.ref a) (i, j) := by
  unfold pairAt at h
  split at h
  · rename_i o ho
    rw [Bool.and_eq_true] at h
    obtain ⟨hc, h⟩ := h
    split at h
    · rename_i its n hd
      split at h
      · rename_i x tx y ty hi
        rw [Bool.and_eq_true] at h
        have e1 := of_decide_eq_true h.1
        have e2 := of_decide_eq_true h.2
        subst e1 e2
        refine ⟨a, .int x, .int y, rfl, .inr ⟨o, its, n, ho, of_decide_eq_true hc, hd, ?_, ?_⟩, rfl, rfl⟩
        · rw [← Array.length_toList, hi]; show 2 ≤ sizeLine; decide
        · rw [hi]; exact .cons ⟨_, rfl⟩ (.cons ⟨_, rfl⟩ .nil)
      · cases h
    · cases h
  · cases h
def pairG (K : Fg) (x : Str) (i j : Int) : Bool := match PySem.W.nsIn K mainGlobals x with
  | some (some (.ref a)) => pairAt K a i j
  | _ => false
theorem pairG_ok {K : Fg} {h : Heap} {mg : Str → Option Value} {x : Str} {i j : Int} (X : K.In h) (G : h.Ns mainGlobals mg) (e : pairG K x i j = true) : GV K mg x (rT2 rInt rInt) (i, j) := by
  unfold pairG at e
  split at e
  · rename_i a ha
    exact ⟨.ref a, .ref a, PySem.W.mg_of X G ha, rfl, pairAt_ok e⟩
  · cases e
end L3

namespace L3
open PySem L2
open Evl (Ex ex_rd ex_l ex_t sq_of st_of fresh_back)
/-! ### while -/
def iterM {S R : Type} (f : S → Option (Stp S R)) : Nat → S → Option (S ⊕ R)
  | 0, _ => none
  | n + 1, s => match f s with
    | some (.nx s') => iterM f n s'
    | some (.bk s') => some (.inl s')
    | some (.rt r) => some (.inr r)
    | none => none
open Classical in
noncomputable def whileR {S R : Type} (f : S → Option (Stp S R)) (s : S) : Option (S ⊕ R) :=
  if h : ∃ n o, iterM f n s = some o then some (choose (choose_spec h)) else none
theorem whileR_some {S R : Type} {f : S → Option (Stp S R)} {s : S} {o : S ⊕ R} (h : whileR f s = some o) : ∃ n, iterM f n s = some o := by
  unfold whileR at h
  split at h
  · rename_i h'
    rw [← h]
    exact ⟨_, Classical.choose_spec (Classical.choose_spec h')⟩
  · cases h
theorem iterM_up {S R : Type} {f : S → Option (Stp S R)} : ∀ {n m : Nat} {s : S} {o : S ⊕ R}, iterM f n s = some o → n ≤ m → iterM f m s = some o
  | 0, _, _, _, h, _ => by cases h
  | n + 1, 0, _, _, _, h => by omega
  | n + 1, m + 1, s, o, h, l => by
    unfold iterM at h ⊢
    cases hf : f s with
    | none => rw [hf] at h; cases h
    | some t =>
      rw [hf] at h
      cases t with
      | nx s' => exact iterM_up (n := n) h (by omega)
      | bk s' => exact h
      | rt r => exact h
theorem whileR_of {S R : Type} {f : S → Option (Stp S R)} {s : S} {o : S ⊕ R} {n : Nat} (h : iterM f n s = some o) : whileR f s = some o := by
  unfold whileR
  have e : ∃ n o, iterM f n s = some o := ⟨n, o, h⟩
  rw [dif_pos e]
  obtain ⟨m, hm⟩ : ∃ m, iterM f m s = some (Classical.choose (Classical.choose_spec e)) := ⟨_, Classical.choose_spec (Classical.choose_spec e)⟩
  have h1 := iterM_up h (Nat.le_max_left n m)
  have h2 := iterM_up hm (Nat.le_max_right n m)
  rw [h1] at h2
  exact h2.symm
noncomputable def whileB {S : Type} (f : S → Option (Stp S Empty)) (s : S) : Option S := (whileR f s).map fun o => match o with
  | .inl s => s
  | .inr r => nomatch r
section
variable {K : Fg} {M : Fr} {σ : St} {B B' H H' : Hp} {L L1 L2 L' : List Cell} {α β γ δ : Type} {r : Rep α} {s : Rep β} {t : Rep γ} {ta tb tc te : TE} {tt tu : TT} {tA : TA} {i j k : Int} {b c : Bool} {D : Ends} {tz t1 t2 : TS}
theorem q_wt {Q : Bool → Hp → Prop} (w : Own K B M L H) (h : ET K M tt σ B L b L') (h1 : b = true → ∀ B' H', Ex B B' → Own K B' M L' H' → Q true H') (h2 : b = false → ∀ B' H', Ex B B' → Own K B' M L' H' → Q false H') : tt σ H Q :=
  h B H (Ex.refl _) w _ fun B' H' e w' => by
    cases b with
    | true => exact h1 rfl B' H' e w'
    | false => exact h2 rfl B' H' e w'
theorem q_whileR {S R : Type} {tb : TS} (w : Own K B M L H) (f : S → Option (Stp S R)) (P : S → Hp → St → Prop) (Lf : S → List Cell) (s0 : S) {o : S ⊕ R} (hm : whileR f s0 = some o)
    (h0 : ∀ B', Ex B B' → P s0 B' σ) (hL : Lf s0 = L)
    (hs : ∀ s st B0 B' H' σ', f s = some st → Ex B B0 → P s B0 σ' → Ex B0 B' → Own K B' M (Lf s) H' → (∀ q, st = .rt q → o = .inr q) → ∀ (N : St → Hp → Prop) (BK : St → Hp → Prop),
      (∀ s3 B3 H3 σ3, st = .nx s3 → Ex B' B3 → Own K B3 M (Lf s3) H3 → P s3 B3 σ3 → N σ3 H3) → (∀ s3 B3 H3 σ3, st = .bk s3 → Ex B' B3 → Own K B3 M (Lf s3) H3 → P s3 B3 σ3 → BK σ3 H3) →
      ∀ Q : Bool → Hp → Prop, (∀ H1, tb { D with nx := N, ct := N, bk := BK } σ' H1 → Q true H1) → (∀ H1, BK σ' H1 → Q false H1) → tt σ' H' Q)
    (hd : ∀ s B' H' σ', o = .inl s → Ex B B' → Own K B' M (Lf s) H' → P s B' σ' → tz D σ' H') : tSeq (tWhile tt tb) tz D σ H := by
  obtain ⟨n, hn⟩ := whileR_some hm
  refine ⟨fun m σ' H' => ∃ s B', Ex B B' ∧ Own K B' M (Lf s) H' ∧ P s B' σ' ∧ iterM f m s = some o, ⟨n, s0, B, Ex.refl _, by rw [hL]; exact w, h0 B (Ex.refl _), hn⟩, ?_⟩
  rintro m σ' H' ⟨s, B', e', w', hP, hl⟩
  cases m with
  | zero => cases hl
  | succ m =>
    unfold iterM at hl
    cases hst : f s with
    | none => rw [hst] at hl; cases hl
    | some st =>
      rw [hst] at hl
      refine hs s st B' B' H' σ' hst e' hP (Ex.refl _) w' (fun q e => by rw [e] at hl; exact (Option.some.inj hl).symm) (fun σ3 H3 => ∃ s3 B3, st = .nx s3 ∧ Ex B B3 ∧ Own K B3 M (Lf s3) H3 ∧ P s3 B3 σ3) (tz D)
        (fun s3 B3 H3 σ3 e3 e4 w3 p3 => ⟨s3, B3, e3, e'.trans e4, w3, p3⟩) (fun s3 B3 H3 σ3 e3 e4 w3 p3 => by
          rw [e3] at hl
          exact hd s3 B3 H3 σ3 (Option.some.inj hl).symm (e'.trans e4) w3 p3) _ (fun H1 hb => ?_) (fun H1 hb => ?_)
      · refine (if_pos rfl).mpr ⟨_, ?_, hb⟩
        rintro σ3 H3 ⟨s3, B3, e3, a1, a2, a3⟩
        subst e3
        exact ⟨m, Nat.lt_succ_self m, s3, B3, a1, a2, a3, hl⟩
      · exact (if_neg Bool.false_ne_true).mpr hb
theorem q_whileB {S : Type} {tb : TS} (w : Own K B M L H) (f : S → Option (Stp S Empty)) (P : S → Hp → St → Prop) (Lf : S → List Cell) (s0 : S) {s1 : S} (hm : whileB f s0 = some s1)
    (h0 : ∀ B', Ex B B' → P s0 B' σ) (hL : Lf s0 = L)
    (hs : ∀ s st B0 B' H' σ', f s = some st → Ex B B0 → P s B0 σ' → Ex B0 B' → Own K B' M (Lf s) H' → ∀ (N : St → Hp → Prop) (BK : St → Hp → Prop),
      (∀ s3 B3 H3 σ3, st = .nx s3 → Ex B' B3 → Own K B3 M (Lf s3) H3 → P s3 B3 σ3 → N σ3 H3) → (∀ s3 B3 H3 σ3, st = .bk s3 → Ex B' B3 → Own K B3 M (Lf s3) H3 → P s3 B3 σ3 → BK σ3 H3) →
      ∀ Q : Bool → Hp → Prop, (∀ H1, tb { D with nx := N, ct := N, bk := BK } σ' H1 → Q true H1) → (∀ H1, BK σ' H1 → Q false H1) → tt σ' H' Q)
    (hd : ∀ B' H' σ', Ex B B' → Own K B' M (Lf s1) H' → P s1 B' σ' → tz D σ' H') : tSeq (tWhile tt tb) tz D σ H := by
  unfold whileB at hm
  cases h : whileR f s0 with
  | none => rw [h] at hm; cases hm
  | some o =>
    rw [h] at hm
    refine q_whileR w f P Lf s0 h h0 hL (fun s st B0 B' H' σ' a1 a2 a3 a4 a5 _ => hs s st B0 B' H' σ' a1 a2 a3 a4 a5) fun s B' H' σ' a1 => ?_
    subst a1
    have e : s = s1 := Option.some.inj hm
    subst e
    exact hd B' H' σ'
/-! ### calls that read lists of ours -/
def nTup : HO → Prop
  | .lst _ => True
  | .dK _ => True
  | _ => False
structure NT {α : Type} (c : CRep α) : Prop where
  nt : ∀ {K : Fg} {B : Hp} {o : HO} {a : α}, c.is K B o a → nTup o
theorem nt_lst {r : Rep α} : NT (cLst r) := ⟨fun ⟨xs, h, _⟩ => by subst h; trivial⟩
theorem nt_l2 {r : Rep α} {s : Rep β} : NT (cL2 r s) := ⟨fun ⟨x, y, h, _⟩ => by subst h; trivial⟩
theorem nt_dk : NT cDk := ⟨fun h => by
  have h : _ = HO.dK _ := h
  subst h; trivial⟩
def NTs (L : List Cell) : Prop := ∀ x ∈ L, NT x.c
theorem nts_nil : NTs [] := fun _ h => absurd h (by simp)
theorem nts_cons {x : Cell} (h : NT x.c) (h' : NTs L) : NTs (x :: L) := fun y hy => (List.mem_cons.mp hy).elim (fun e => e ▸ h) (h' y)
/-- without some addresses -/
def era (B : Hp) (ps : List Addr) : Hp := fun a => if a ∈ ps then none else B a
/-- with lists of ours -/
def frz (B : Hp) (L : List Cell) (H : Hp) : Hp := fun a => if a ∈ L.map (·.p) then H a else B a
structure TO {α : Type} (r : Rep α) : Prop where
  to : ∀ {K : Fg} {B : Hp} {ps : List Addr} {v : V} {a : α}, (∀ p ∈ ps, ∃ o, B p = some o ∧ nTup o) → r.is K B v a → r.is K (era B ps) v a
theorem era_t {ps : List Addr} {p : Addr} {xs : List V} (h : ∀ p ∈ ps, ∃ o, B p = some o ∧ nTup o) (hs : SqT K B p xs) : SqT K (era B ps) p xs := by
  have out : ∀ o, B p = some o → ¬ nTup o → era B ps p = some o := fun o e n => by
    unfold era
    rw [if_neg fun hp => ?_]
    · exact e
    · obtain ⟨u, e1, e2⟩ := h p hp
      rw [e] at e1
      cases e1
      exact n e2
  rcases hs with (e | ⟨o, e⟩) | e
  · exact .inl (.inl (out _ e id))
  · exact .inl (.inr ⟨o, out _ e id⟩)
  · exact .inr e
theorem to_int : TO rInt := ⟨fun _ h => h⟩
theorem to_bool : TO rBool := ⟨fun _ h => h⟩
theorem to_str : TO rStr := ⟨fun _ h => h⟩
theorem to_non : TO rNon := ⟨fun _ h => h⟩
theorem to_opt {r : Rep α} (h : TO r) : TO (rOpt r) := ⟨fun {K B ps v a} q e => by
  cases a with
  | none => exact e
  | some a => exact h.to q e⟩
theorem to_T2 {r : Rep α} {s : Rep β} (h : TO r) (g : TO s) : TO (rT2 r s) := ⟨fun q ⟨p, x, y, e1, e2, e3, e4⟩ => ⟨p, x, y, e1, era_t q e2, h.to q e3, g.to q e4⟩⟩
theorem to_T3 {r : Rep α} {s : Rep β} {t : Rep γ} (h : TO r) (g : TO s) (f : TO t) : TO (rT3 r s t) := ⟨fun q ⟨p, x, y, z, e1, e2, e3, e4, e5⟩ => ⟨p, x, y, z, e1, era_t q e2, h.to q e3, g.to q e4, f.to q e5⟩⟩
theorem paired_to {F G : V → α → Prop} (h : ∀ v a, F v a → G v a) {xs : List V} {as : List α} (e : Paired F xs as) : Paired G xs as := paired_imp h e
theorem to_tup {r : Rep α} (h : TO r) : TO (rTup r) := ⟨fun q ⟨p, xs, e1, e2, e3⟩ => ⟨p, xs, e1, era_t q e2, paired_to (fun _ _ => h.to q) e3⟩⟩
def AF (K : Fg) (M : Fr) (L : List Cell) (as as' : List Arg) : Prop := ∀ B H vs, Own K B M L H → ArgsIs K B vs as → ArgsIs K (frz B L H) vs as'
theorem ex_frz (w : Own K B M L H) : Ex B (frz B L H) := fun a u e => by
  unfold frz
  split
  · exact w.b a u e
  · exact e
theorem af_nil : AF K M L [] [] := fun B H vs w h => by
  match vs, h with
  | [], _ => trivial
theorem af_same {a : Arg} {as as' : List Arg} (h : AF K M L as as') : AF K M L (a :: as) (a :: as') := fun B H vs w g => by
  match vs, g with
  | _ :: _, ⟨g1, g2⟩ => exact ⟨a.r.mono (ex_frz w) g1, h B H _ w g2⟩
theorem af_cell {n : Nat} {p : Addr} {r : Rep α} {xs : List α} {as as' : List Arg} (hc : L[n]? = some ⟨p, cLst r, xs⟩) (h : AF K M L as as') : AF K M L (⟨rRef, p⟩ :: as) (⟨rLst r, xs⟩ :: as') := fun B H vs w g => by
  match vs, g with
  | v :: _, ⟨g1, g2⟩ =>
    obtain ⟨⟨o, h1, ys, h2, h3⟩, _⟩ := w.at hc
    have h1 : H p = some o := h1
    have g1 : v = .ref p := g1
    refine ⟨⟨p, ys, g1, ?_, paired_mono (ex_frz w) h3⟩, h B H _ w g2⟩
    unfold frz
    rw [if_pos (List.mem_map.mpr ⟨_, List.mem_of_getElem? hc, rfl⟩), h1, h2]
theorem Own.frzAll (w : Own K B M L H) : Own K (frz B L H) M [] H := by
  refine ⟨fun a u e => ?_, w.m, fun a => ?_, fun _ h => absurd h (by simp), by simp, fun P hP => ?_⟩
  · unfold frz at e
    split at e
    · exact e
    · exact w.b a u e
  · unfold frz
    split
    · rename_i h
      obtain ⟨x, hx, rfl⟩ := List.mem_map.mp h
      exact .inr (w.l x hx).2.2
    · exact w.bm a
  · obtain ⟨t1, t2, t3, t4⟩ := w.t P hP
    exact ⟨t1, by unfold frz; rw [if_neg t4]; exact t2, t3, by simp⟩
theorem Own.unfrz {B3 H3 : Hp} (w : Own K B M L H) (e : Ex (frz B L H) B3) (w3 : Own K B3 M [] H3) : Ex B (era B3 (L.map (·.p))) ∧ Own K (era B3 (L.map (·.p))) M L H3 := by
  have hex : Ex B (era B3 (L.map (·.p))) := fun a u h => by
    have hn : a ∉ L.map (·.p) := fun hm => by
      obtain ⟨x, hx, rfl⟩ := List.mem_map.mp hm
      rw [(w.l x hx).2.1] at h
      cases h
    unfold era
    rw [if_neg hn]
    exact e a u (ex_frz w a u h)
  refine ⟨hex, fun a u h => ?_, w3.m, fun a => ?_, fun x hx => ?_, w.nd, fun P hP => ?_⟩
  · unfold era at h
    split at h
    · cases h
    · exact w3.b a u h
  · unfold era
    split
    · exact .inl rfl
    · exact w3.bm a
  · obtain ⟨⟨o, h1, h2⟩, h3, h4⟩ := w.l x hx
    have hm : x.p ∈ L.map (·.p) := List.mem_map.mpr ⟨x, hx, rfl⟩
    refine ⟨⟨o, w3.b _ _ (e _ _ ?_), x.c.mono hex h2⟩, by unfold era; rw [if_pos hm], h4⟩
    unfold frz
    rw [if_pos hm, h1]
  · obtain ⟨t1, t2, t3, _⟩ := w3.t P hP
    obtain ⟨_, _, _, t4⟩ := w.t P hP
    exact ⟨t1, by unfold era; rw [if_neg t4]; exact t2, t3, t4⟩
theorem ev_callF {C : List Arg → List Cell → Arg → List Cell → Prop} {E : XK} {as as' : List Arg} {a : α} (ha : EA K M tA σ B L as L1) (hf : AF K M L1 as as') (hn : NTs L1) (hr : TO r) (h : C as' [] ⟨r, a⟩ []) : EV K M (tCall (spV K M.T C) [] E tA) σ B L r a L1 := fun B1 H e w Q q =>
  ha B1 H e w _ fun vs B2 H2 e2 w2 hv => by
    show spV K M.T C (vs ++ []) H2 Q E
    rw [List.append_nil]
    refine ⟨frz B2 L1 H2, M, [], as', ⟨r, a⟩, [], rfl, w2.frzAll, hf B2 H2 vs w2 hv, h, fun v B' H' e3 w3 hr3 => ?_⟩
    obtain ⟨e4, w4⟩ := w2.unfrz e3 w3
    refine q v _ H' (e2.trans e4) w4 (hr.to (fun p hp => ?_) hr3)
    obtain ⟨x, hx, rfl⟩ := List.mem_map.mp hp
    obtain ⟨⟨o, h1, h2⟩, _⟩ := w2.l x hx
    refine ⟨o, e3 _ _ ?_, (hn x hx).nt h2⟩
    unfold frz
    rw [if_pos hp, h1]
/-- a list of ours stays from now on -/
theorem frz_step {n : Nat} {p : Addr} {xs : List α} (w : Own K B M L H) (hc : L[n]? = some ⟨p, cLst r, xs⟩) : ∃ B', Ex B B' ∧ Own K B' M (L.eraseIdx n) H ∧ (rLst r).is K B' (.ref p) xs := by
  obtain ⟨o, h1, ⟨vs, h2, h3⟩, h4, w'⟩ := w.freeze hc
  have h4 : B p = none := h4
  refine ⟨_, Ex.new h4, w', p, vs, rfl, ?_, paired_mono (Ex.new h4) h3⟩
  show upd B p o p = _
  rw [upd_same, h2]
end
/-! ### defs that return a new list -/
def spN (K : Fg) (T : List Addr) {α : Type} (r : Rep α) (C : List Arg → List Cell → List α → List Cell → Prop) : Sp := fun vs H Q _ => ∃ B M L as xs L', M.T = T ∧ Own K B M L H ∧ ArgsIs K B vs as ∧ C as L xs L' ∧
  ∀ p B' H', Ex B B' → Own K B' M (⟨p, cLst r, xs⟩ :: L') H' → Q (.ref p) H'
section
variable {K : Fg} {M : Fr} {σ : St} {B B' H H' : Hp} {L L1 L2 L' : List Cell} {α β γ δ : Type} {r : Rep α} {s : Rep β} {t : Rep γ} {ta tb tc te : TE} {tt tu : TT} {tA : TA} {i j k : Int} {b c : Bool} {D : Ends} {tz t1 t2 : TS}
theorem Own.pick {n d : Nat} {x : Cell} (w : Own K B M L H) (hc : L[n]? = some x) (h : n < d) : Own K B M (x :: L.drop d) H := by
  have hx : x ∈ L.take d := by
    refine List.mem_of_getElem? (i := n) ?_
    rw [List.getElem?_take, if_pos h]; exact hc
  have sub : (x :: L.drop d).Sublist L := by
    have := (List.singleton_sublist.mpr hx).append (List.Sublist.refl (L.drop d))
    rwa [List.take_append_drop] at this
  exact w.perm (fun y hy => sub.subset hy) (w.nd.sublist (sub.map _))
theorem back_new {L2 : List Cell} {B1 B3 H1 H3 : Hp} {x : Cell} (w : Own K B1 M L2 H1) (e : Ex B1 B3) (w3 : Own K B3 (absorb M L2 H1) [x] H3) : Own K B3 M (x :: L2) H3 := by
  have hx := w3.l x (List.mem_singleton.mpr rfl)
  refine w.back (L := L2) (L1' := [x]) (L2 := L2) (fun _ h => h) w.nd e w3 fun y hy => ?_
  rw [List.mem_singleton.mp hy]
  intro hm
  obtain ⟨z, hz, ez⟩ := List.mem_map.mp hm
  have h1 := hx.2.2
  obtain ⟨⟨o, g1, _⟩, _⟩ := w.l z hz
  have e2 : absorb M L2 H1 z.p = H1 z.p := absorb_in hz
  rw [ez] at e2
  rw [e2] at h1
  rw [← ez, g1] at h1
  cases h1
theorem el_call {C : List Arg → List Cell → List α → List Cell → Prop} {E : XK} {as : List Arg} {xs : List α} (ha : EA K M tA σ B L as L1) (h : C as [] xs []) : EVL K M (tCall (spN K M.T r C) [] E tA) σ B L r xs L1 := fun B1 H e w Q q =>
  ha B1 H e w _ fun vs B2 H2 e2 w2 hv => by
    show spN K M.T r C (vs ++ []) H2 Q E
    rw [List.append_nil]
    refine ⟨B2, absorb M L1 H2, [], as, xs, [], rfl, w2.lend (L1 := []) (L2 := L1) (fun _ h => absurd h (by simp)) (fun _ h => h) (by simp) (fun _ h => absurd h (by simp)), hv, h, fun p B' H' e3 w3 => ?_⟩
    exact q p B' H' (e2.trans e3) (back_new w2 e3 w3)
theorem el_callF {C : List Arg → List Cell → List α → List Cell → Prop} {E : XK} {as as' : List Arg} {xs : List α} (ha : EA K M tA σ B L as L1) (hf : AF K M L1 as as') (hn : NTs L1) (hr : TO r) (h : C as' [] xs []) : EVL K M (tCall (spN K M.T r C) [] E tA) σ B L r xs L1 := fun B1 H e w Q q =>
  ha B1 H e w _ fun vs B2 H2 e2 w2 hv => by
    show spN K M.T r C (vs ++ []) H2 Q E
    rw [List.append_nil]
    refine ⟨frz B2 L1 H2, M, [], as', xs, [], rfl, w2.frzAll, hf B2 H2 vs w2 hv, h, fun p B' H' e3 w3 => ?_⟩
    have hx := w3.l _ (List.mem_singleton.mpr rfl)
    obtain ⟨e4, w4⟩ := w2.unfrz e3 w3.tail
    have nt : ∀ q ∈ L1.map (·.p), ∃ o, B' q = some o ∧ nTup o := fun q hq => by
      obtain ⟨x, hx, rfl⟩ := List.mem_map.mp hq
      obtain ⟨⟨o, h1, h2⟩, _⟩ := w2.l x hx
      refine ⟨o, e3 _ _ ?_, (hn x hx).nt h2⟩
      unfold frz
      rw [if_pos hq, h1]
    obtain ⟨⟨o, g1, ys, g2, g3⟩, gB, gM⟩ := hx
    have pn : p ∉ L1.map (·.p) := fun hp => by
      obtain ⟨o, e5, _⟩ := nt p hp
      have gB : B' p = none := gB
      rw [e5] at gB
      cases gB
    refine q p _ H' (e2.trans e4) ⟨w4.b, w4.m, w4.bm, fun x hx => ?_, ?_, fun P hP => ?_⟩
    · rcases List.mem_cons.mp hx with rfl | hx
      · refine ⟨⟨o, g1, ys, g2, paired_imp (fun v a => hr.to nt) g3⟩, ?_, gM⟩
        show era B' _ p = none
        unfold era
        rw [if_neg pn]
        exact gB
      · exact w4.l x hx
    · rw [List.map_cons, List.nodup_cons]
      exact ⟨pn, w4.nd⟩
    · obtain ⟨t1, t2, t3, t4⟩ := w4.t P hP
      obtain ⟨_, _, _, t5⟩ := w3.t P hP
      refine ⟨t1, t2, t3, fun z => ?_⟩
      rcases List.mem_cons.mp z with e | z
      · exact t5 (by rw [e]; simp)
      · exact t4 z
theorem q_retCN {n m : Nat} {p : Addr} {as : List α} (w : Own K B M L H) (hs : σ[m]? = some (some (.ref p))) (hc : L[n]? = some ⟨p, cLst r, as⟩) (q : D.rt (.ref p) H) : tSeq (tRet (tVar m)) tz D σ H := ⟨_, hs, q⟩
theorem q_retL {as : List α} (w : Own K B M L H) (h : EVL K M te σ B L r as L') (q : ∀ p B' H', Ex B B' → Own K B' M (⟨p, cLst r, as⟩ :: L') H' → D.rt (.ref p) H') : tSeq (tRet te) tz D σ H := h B H (Ex.refl _) w _ q
end
/-! ### lists: + -/
section
variable {K : Fg} {M : Fr} {σ : St} {B B' H H' : Hp} {L L1 L2 L' : List Cell} {α β γ δ : Type} {r : Rep α} {s : Rep β} {t : Rep γ} {ta tb tc te : TE} {tt tu : TT} {tA : TA} {i j k : Int} {b c : Bool} {D : Ends} {tz t1 t2 : TS}
theorem el_cat {xs ys zs : List α} (h : EV K M ta σ B L (rLst r) xs L1) (h' : EV K M tb σ B L1 (rLst r) ys L2) (hc : catT xs ys = some zs) : EVL K M (tOp rCat ta tb) σ B L r zs L2 := fun B1 H e w Q q =>
  h B1 H e w _ fun v B2 H2 e2 w2 hv => h' B2 H2 (e.trans e2) w2 _ fun u B3 H3 e3 w3 hu => by
    obtain ⟨p, vs, rfl, hs, hp⟩ := hv
    obtain ⟨p', us, rfl, hs', hp'⟩ := hu
    unfold catT at hc
    split at hc
    · rename_i hl
      obtain rfl := Option.some.inj hc
      have hp3 := paired_mono e3 hp
      have l1 := paired_len hp
      have l2 := paired_len hp'
      exact ⟨p, p', vs, us, rfl, rfl, w3.b _ _ (e3 _ _ hs), w3.b _ _ hs', Nat.le_trans (by omega) (show 1000000 ≤ sizeLine by decide), fun l hl => q l B3 _ (e2.trans e3) (w3.new hl ⟨_, rfl, paired_app hp3 hp'⟩)⟩
    · cases hc
end
/-! ### while: it ends -/
section
variable {S R : Type}
theorem y_while (f : S → Option (Stp S R)) (I : S → Prop) (μ : S → Nat) (E : S ⊕ R → Prop) {s : S} (h0 : I s)
    (hs : ∀ s, I s → Yes (f s) fun t => match t with | .nx s' => I s' ∧ μ s' < μ s | .bk s' => E (.inl s') | .rt r => E (.inr r)) : Yes (whileR f s) E := by
  have key : ∀ (n : Nat) (s : S), μ s < n → I s → ∃ o, iterM f n s = some o ∧ E o := by
    intro n
    induction n with
    | zero => intro s h; omega
    | succ n ih =>
      intro s h hI
      obtain ⟨t, h1, h2⟩ := hs s hI
      unfold iterM
      rw [h1]
      cases t with
      | nx s' => exact ih s' (by have := h2.2; omega) h2.1
      | bk s' => exact ⟨_, rfl, h2⟩
      | rt r => exact ⟨_, rfl, h2⟩
  obtain ⟨o, h1, h2⟩ := key _ s (Nat.lt_succ_self _) h0
  exact ⟨o, whileR_of h1, h2⟩
theorem y_whileB (f : S → Option (Stp S Empty)) (I : S → Prop) (μ : S → Nat) (E : S → Prop) {s : S} (h0 : I s)
    (hs : ∀ s, I s → Yes (f s) fun t => match t with | .nx s' => I s' ∧ μ s' < μ s | .bk s' => E s' | .rt r => False) : Yes (whileB f s) E := by
  obtain ⟨o, h1, h2⟩ := y_while f I μ (fun o => match o with | .inl s => E s | .inr r => False) h0 fun s hI => (hs s hI).mono fun t ht => by cases t <;> exact ht
  unfold whileB
  rw [h1]
  cases o with
  | inl s => exact ⟨s, rfl, h2⟩
  | inr r => exact h2.elim
end
end L3

namespace L3
open PySem L2
open Evl (Ex ex_rd ex_l ex_t sq_of st_of fresh_back)
/-! ### sorted ints -/
def sortL (xs : List Int) : List Int := xs.mergeSort fun a b => decide (a ≤ b)
theorem sortL_perm (xs : List Int) : (sortL xs).Perm xs := List.mergeSort_perm xs _
theorem sortL_le (xs : List Int) : (sortL xs).Pairwise (· ≤ ·) := by
  refine (List.pairwise_mergeSort (le := fun a b : Int => decide (a ≤ b)) (fun a b c h1 h2 => ?_) (fun a b => ?_) xs).imp fun {a b} h => of_decide_eq_true h
  · simp at *; omega
  · simp; omega
theorem sortL_eq {ys xs : List Int} (hp : ys.Perm xs) (hs : ys.Pairwise (· ≤ ·)) : ys = sortL xs :=
  List.Perm.eq_of_pairwise (le := fun a b : Int => a ≤ b) (fun a b _ _ h1 h2 => Int.le_antisymm h1 h2) hs (sortL_le xs) (hp.trans (sortL_perm xs).symm)
theorem paired_intsY {K : Fg} {B : Hp} : ∀ ns : List Int, Paired (rInt.is K B) (ns.map V.int) ns
  | [] => .nil
  | _ :: l => .cons rfl (paired_intsY l)
section
variable {K : Fg} {M : Fr} {σ : St} {B B' H H' : Hp} {L L1 L2 L' : List Cell} {α β γ δ : Type} {r : Rep α} {s : Rep β} {t : Rep γ} {ta tb tc te : TE} {tt tu : TT} {tA : TA} {i j k : Int} {b c : Bool} {D : Ends} {tz t1 t2 : TS}
theorem el_sorted {xs : List Int} (h : EV K M te σ B L (rScr rInt) xs L') : EVL K M (tCB (rSortedI K) (tCons te tNil)) σ B L rInt (sortL xs) L' := fun B1 H e w Q q =>
  h B1 H e w _ fun v B2 H2 e2 w2 hv => by
    obtain ⟨p, vs, rfl, hs, hp⟩ := hv
    have ev := ints_of hp
    subst ev
    refine ⟨p, xs, rfl, ex_l w2.b hs, fun ns l hp2 hs2 hl => ?_⟩
    rw [sortL_eq hp2 hs2]
    exact q l B2 _ e2 (w2.new hl ⟨_, rfl, paired_intsY _⟩)
/-! ### a, b, .. = a list -/
def un2 : List α → Option (α × α)
  | [a, b] => some (a, b)
  | _ => none
def un3 : List α → Option (α × α × α)
  | [a, b, c] => some (a, b, c)
  | _ => none
def un4 : List α → Option (α × α × α × α)
  | [a, b, c, d] => some (a, b, c, d)
  | _ => none
variable {Qs : St → Hp → Prop}
theorem g_U2 {as : List α} {a : α × α} {v : V} {gs : TGs} (h : (rLst r).is K B v as) (w : Own K B M L H) (e : un2 as = some a) (q : ∀ x y, r.is K B x a.1 → r.is K B y a.2 → gs [x, y] σ H Qs) : gUnl K 2 gs v σ H Qs := by
  obtain ⟨p, vs, rfl, hs, hp⟩ := h
  match as, e, vs, hp, hs with
  | [a, b], e, [x, y], .cons h1 (.cons h2 .nil), hs =>
    cases e
    exact ⟨p, _, rfl, sq_of (w.b _ _ hs), rfl, q x y h1 h2⟩
theorem g_U3 {as : List α} {a : α × α × α} {v : V} {gs : TGs} (h : (rLst r).is K B v as) (w : Own K B M L H) (e : un3 as = some a) (q : ∀ x y z, r.is K B x a.1 → r.is K B y a.2.1 → r.is K B z a.2.2 → gs [x, y, z] σ H Qs) : gUnl K 3 gs v σ H Qs := by
  obtain ⟨p, vs, rfl, hs, hp⟩ := h
  match as, e, vs, hp, hs with
  | [a, b, c], e, [x, y, z], .cons h1 (.cons h2 (.cons h3 .nil)), hs =>
    cases e
    exact ⟨p, _, rfl, sq_of (w.b _ _ hs), rfl, q x y z h1 h2 h3⟩
theorem g_U4 {as : List α} {a : α × α × α × α} {v : V} {gs : TGs} (h : (rLst r).is K B v as) (w : Own K B M L H) (e : un4 as = some a) (q : ∀ x y z u, r.is K B x a.1 → r.is K B y a.2.1 → r.is K B z a.2.2.1 → r.is K B u a.2.2.2 → gs [x, y, z, u] σ H Qs) : gUnl K 4 gs v σ H Qs := by
  obtain ⟨p, vs, rfl, hs, hp⟩ := h
  match as, e, vs, hp, hs with
  | [a, b, c, d], e, [x, y, z, u], .cons h1 (.cons h2 (.cons h3 (.cons h4 .nil))), hs =>
    cases e
    exact ⟨p, _, rfl, sq_of (w.b _ _ hs), rfl, q x y z u h1 h2 h3 h4⟩
end
end L3

namespace L3
open PySem L2
open Evl (Ex ex_rd ex_l ex_t sq_of st_of fresh_back)
def top (i : Nat) : Stmt := PySem.Challenge.pw_bestodds_k08_whole_sure_states_hang_toge.main.body.getD i (.Pass ⟨0, 0, 0, 0⟩)
abbrev s_ends_in : Stmt := top 1
abbrev s_all_in : Stmt := top 2
abbrev s_marks : Stmt := top 3
abbrev s_listed : Stmt := top 4
abbrev s_rest_of : Stmt := top 6
abbrev s_backward : Stmt := top 7
abbrev s_never : Stmt := top 8
abbrev s_grown_inside : Stmt := top 9
abbrev s_surely : Stmt := top 10
abbrev s_possible : Stmt := top 11
abbrev s_avoidable : Stmt := top 12
abbrev s_attainable : Stmt := top 13
abbrev s_certain : Stmt := top 14
abbrev s__law_tape : Stmt := top 16
abbrev s__law_draw : Stmt := top 17
abbrev s__law_take : Stmt := top 18
abbrev s__law_ends : Stmt := top 19
abbrev s__law_choices : Stmt := top 20
abbrev s__law_system : Stmt := top 21
abbrev s__law_some : Stmt := top 22
abbrev s__law_drawn_policy : Stmt := top 23
abbrev s__law_all : Stmt := top 24
abbrev s__law_in : Stmt := top 25
abbrev s__law_ordered : Stmt := top 26
abbrev s__law_grows : Stmt := top 27
abbrev s__law_large : Stmt := top 28
abbrev s_law : Stmt := top 29
section
variable {P : Program} {w : World} {K : PySem.W.Frag} {mg : Str → Option Value} {base : Heap} {f : Addr} {fd : FuncData} {T : List Addr} {cc : Addr}
noncomputable def m_ends_in (a0 : (List (Int × Int))) (a1 : (List Bool)) : Option Bool :=
  Option.bind (anyM (fun (x18 : (Int × Int)) => (Option.bind (ixL a1 x18.1) fun t28 => some t28)) a0) fun t30 =>
  some t30
def C_ends_in : List Arg → List Cell → Arg → List Cell → Prop := fun as L r L' => ∃ a0 a1 c, as = [⟨(rTup (rT2 rInt rInt)), a0⟩, ⟨(rLst rBool), a1⟩] ∧ L = [] ∧ m_ends_in a0 a1 = some c ∧ r = ⟨rBool, c⟩ ∧ L' = []
theorem sc_ends_in : FnScope ["ends", "known"] ["ends", "known"] (defScope s_ends_in) := ⟨rfl, rfl, rfl, by decide +kernel, rfl, by decide +kernel, by decide +kernel⟩
set_option maxHeartbeats 4000000 in
theorem ok_ends_in (F : FunC K "ends_in" s_ends_in f fd cc) (z_any : mg "any" = none) (tb : ∃ P0, GxR.TabB base mg cc P0 ∧ P0 ∈ T) : FnOk P w K mg base CX0 2 f fd ["ends", "known"] (spV K T C_ends_in) := by
  obtain ⟨P0, tb, hP0⟩ := tb
  refine F.ok sc_ends_in (fun vs H Q E h => ?_) (fun A outer s H vs Q E hr h => ?_)
  · obtain ⟨B, M, L, as, r, L', hT, w, ha, ⟨_, _, _, rfl, _⟩, k⟩ := h
    exact args_len ha
  · skip
    obtain ⟨B, M, L, as, r, L', rfl, w, ha, ⟨a0, a1, c, rfl, rfl, hm, rfl, rfl⟩, k⟩ := h
    obtain ⟨u0, u1, rfl, f0, f1⟩ := args2 ha
    replace f0 : ((rTup (rT2 rInt rInt))).is K B u0 a0 := f0
    replace f1 : ((rLst rBool)).is K B u1 a1 := f1
    unfold m_ends_in at hm
    refine ⟨_, (pss_cons (ps_ret (L3G.pe_anyG (NG := ["state", "_", "known"]) (js := [none, none, some 1]) (Room.mono hr (j := 1) (by omega)) rfl z_any bt_any tb rfl (L3G.gs_by (sc := defScope s_ends_in) (by decide +kernel)) (pi_tup (pv 0)) (show L3G.capB ["ends", "known"] ["state", "_", "known"] _ _ = true by decide +kernel) (fun _ => (pg_tup rfl (pgs_cons (pg_name (i := 0) (show List.Nodup (["state", "_", "known"] : List Str) by decide +kernel) rfl (by first | exact Or.inl rfl | exact Or.inr rfl)) (pgs_cons (pg_name (i := 1) (show List.Nodup (["state", "_", "known"] : List Str) by decide +kernel) rfl (by first | exact Or.inl rfl | exact Or.inr rfl)) pgs_nil)))) (fun _ hr => (pe_ix ix_seq (pv 2) (pv 0) (fun _ _ => rfl))) (fun _ => rfl))) pss_nil), ?_⟩
    rw [show start ["ends", "known"] [u0, u1] = ([some u0, some u1] : L2.St) from rfl]
    obtain ⟨t30, e31, hm⟩ := bindS hm
    replace hm : some _ = some _ := hm
    obtain rfl := Option.some.inj hm
    exact q_ret w (ev_anyG hP0 (ei_tup (ev_var rfl f0)) _ (fun σ23 => ∃ o10 o11, σ23 = [o10, o11, some u1]) ⟨none, none, rfl⟩ e31 (by rintro _ x18 c19 v16 B12 H13 σ23 hb20 x14 ⟨o10, o11, rfl⟩ w15 h17 Q21 q22; replace w15 : Own K B12 M [] H13 := w15; refine g_T2 h17 w15 fun v24 v25 h26 h27 => ?_; refine g_cons ?_; refine g_name ?_; refine g_cons ?_; refine g_name ?_; refine g_nil ?_; obtain ⟨t28, e29, hb20⟩ := bindS hb20; obtain rfl := Option.some.inj hb20; exact (ev_ix (ev_seqL (ev_var rfl (((rLst rBool)).mono x14 f1))) (ev_varI rfl h26) e29) B12 H13 (Ex.refl _) w15 _ fun v32 B33 H34 x35 w36 h37 => by rw [show v32 = V.bl _ from h37]; exact q22 _ B33 H34 ⟨_, _, rfl⟩ x35 w36)) fun v9 B9 H9 x9 w9 h9 => k _ _ _ ((Ex.refl _).trans x9) w9 h9
noncomputable def m_all_in (a0 : (List (Int × Int))) (a1 : (List Bool)) : Option Bool :=
  Option.bind (allM (fun (x18 : (Int × Int)) => (Option.bind (ixL a1 x18.1) fun t28 => some t28)) a0) fun t30 =>
  some t30
def C_all_in : List Arg → List Cell → Arg → List Cell → Prop := fun as L r L' => ∃ a0 a1 c, as = [⟨(rTup (rT2 rInt rInt)), a0⟩, ⟨(rLst rBool), a1⟩] ∧ L = [] ∧ m_all_in a0 a1 = some c ∧ r = ⟨rBool, c⟩ ∧ L' = []
theorem sc_all_in : FnScope ["ends", "known"] ["ends", "known"] (defScope s_all_in) := ⟨rfl, rfl, rfl, by decide +kernel, rfl, by decide +kernel, by decide +kernel⟩
set_option maxHeartbeats 4000000 in
theorem ok_all_in (F : FunC K "all_in" s_all_in f fd cc) (z_all : mg "all" = none) (tb : ∃ P0, GxR.TabB base mg cc P0 ∧ P0 ∈ T) : FnOk P w K mg base CX0 2 f fd ["ends", "known"] (spV K T C_all_in) := by
  obtain ⟨P0, tb, hP0⟩ := tb
  refine F.ok sc_all_in (fun vs H Q E h => ?_) (fun A outer s H vs Q E hr h => ?_)
  · obtain ⟨B, M, L, as, r, L', hT, w, ha, ⟨_, _, _, rfl, _⟩, k⟩ := h
    exact args_len ha
  · skip
    obtain ⟨B, M, L, as, r, L', rfl, w, ha, ⟨a0, a1, c, rfl, rfl, hm, rfl, rfl⟩, k⟩ := h
    obtain ⟨u0, u1, rfl, f0, f1⟩ := args2 ha
    replace f0 : ((rTup (rT2 rInt rInt))).is K B u0 a0 := f0
    replace f1 : ((rLst rBool)).is K B u1 a1 := f1
    unfold m_all_in at hm
    refine ⟨_, (pss_cons (ps_ret (L3G.pe_allG (NG := ["state", "_", "known"]) (js := [none, none, some 1]) (Room.mono hr (j := 1) (by omega)) rfl z_all bt_all tb rfl (L3G.gs_by (sc := defScope s_all_in) (by decide +kernel)) (pi_tup (pv 0)) (show L3G.capB ["ends", "known"] ["state", "_", "known"] _ _ = true by decide +kernel) (fun _ => (pg_tup rfl (pgs_cons (pg_name (i := 0) (show List.Nodup (["state", "_", "known"] : List Str) by decide +kernel) rfl (by first | exact Or.inl rfl | exact Or.inr rfl)) (pgs_cons (pg_name (i := 1) (show List.Nodup (["state", "_", "known"] : List Str) by decide +kernel) rfl (by first | exact Or.inl rfl | exact Or.inr rfl)) pgs_nil)))) (fun _ hr => (pe_ix ix_seq (pv 2) (pv 0) (fun _ _ => rfl))) (fun _ => rfl))) pss_nil), ?_⟩
    rw [show start ["ends", "known"] [u0, u1] = ([some u0, some u1] : L2.St) from rfl]
    obtain ⟨t30, e31, hm⟩ := bindS hm
    replace hm : some _ = some _ := hm
    obtain rfl := Option.some.inj hm
    exact q_ret w (ev_allG hP0 (ei_tup (ev_var rfl f0)) _ (fun σ23 => ∃ o10 o11, σ23 = [o10, o11, some u1]) ⟨none, none, rfl⟩ e31 (by rintro _ x18 c19 v16 B12 H13 σ23 hb20 x14 ⟨o10, o11, rfl⟩ w15 h17 Q21 q22; replace w15 : Own K B12 M [] H13 := w15; refine g_T2 h17 w15 fun v24 v25 h26 h27 => ?_; refine g_cons ?_; refine g_name ?_; refine g_cons ?_; refine g_name ?_; refine g_nil ?_; obtain ⟨t28, e29, hb20⟩ := bindS hb20; obtain rfl := Option.some.inj hb20; exact (ev_ix (ev_seqL (ev_var rfl (((rLst rBool)).mono x14 f1))) (ev_varI rfl h26) e29) B12 H13 (Ex.refl _) w15 _ fun v32 B33 H34 x35 w36 h37 => by rw [show v32 = V.bl _ from h37]; exact q22 _ B33 H34 ⟨_, _, rfl⟩ x35 w36)) fun v9 B9 H9 x9 w9 h9 => k _ _ _ ((Ex.refl _).trans x9) w9 h9
noncomputable def m_marks (a0 : (List (List (Int × (List (Int × Int)))))) (a1 : (List Int)) : Option (List Bool) :=
  Option.bind (small62 ((a0.length : Int))) fun t10 =>
  Option.bind (room ((rng 0 ((a0.length : Int)))).length) fun t36 =>
  Option.bind (compM (S := Unit) (β := Bool) (fun (s12 : Unit) (x19 : Int) => ( some (some ((decide (x19 ∈ a1))), ()))) (()) ((rng 0 ((a0.length : Int))))) fun t38 =>
  some t38.1
def C_marks : List Arg → List Cell → (List Bool) → List Cell → Prop := fun as L r L' => ∃ a0 a1 c, as = [⟨(rTup (rTup (rT2 rInt (rTup (rT2 rInt rInt))))), a0⟩, ⟨(rLst rInt), a1⟩] ∧ L = [] ∧ m_marks a0 a1 = some c ∧ r = c ∧ L' = []
theorem sc_marks : FnScope ["system", "states", "state"] ["system", "states"] (defScope s_marks) := ⟨rfl, rfl, rfl, by decide +kernel, rfl, by decide +kernel, by decide +kernel⟩
set_option maxHeartbeats 4000000 in
theorem ok_marks (F : FunC K "marks" s_marks f fd cc) (z_range : mg "range" = none) (z_len : mg "len" = none) : FnOk P w K mg base CX0 1 f fd ["system", "states"] (spN K T rBool C_marks) := by
  refine F.ok sc_marks (fun vs H Q E h => ?_) (fun A outer s H vs Q E hr h => ?_)
  · obtain ⟨B, M, L, as, r, L', hT, w, ha, ⟨_, _, _, rfl, _⟩, k⟩ := h
    exact args_len ha
  · skip
    obtain ⟨B, M, L, as, r, L', rfl, w, ha, ⟨a0, a1, c, rfl, rfl, hm, rfl, rfl⟩, k⟩ := h
    obtain ⟨u0, u1, rfl, f0, f1⟩ := args2 ha
    replace f0 : ((rTup (rTup (rT2 rInt (rTup (rT2 rInt rInt)))))).is K B u0 a0 := f0
    replace f1 : ((rLst rInt)).is K B u1 a1 := f1
    unfold m_marks at hm
    refine ⟨_, (pss_cons (ps_ret (pe_lc rfl sc_marks.nd (pi_range1 rfl z_range (pa_cons (pe_callB call_len_seq rfl z_len bt_len (pa_cons (pv 0) pa_nil)) pa_nil)) (blkOk_by (own := [("state", 2)]) (show blkC ["system", "states", "state"] (defScope s_marks) _ _ = true by decide +kernel)) (fun _ _ _ _ _ => (pg_name (i := 2) sc_marks.nd rfl (by first | exact Or.inl rfl | exact Or.inr rfl))) (fun _ _ _ _ _ => pts_nil) (fun _ _ _ _ _ => (pe_cmpR (show OpR _ _ (rIn K false) from op_in_seq) (pv 2) (pv 1) rfl)))) pss_nil), ?_⟩
    rw [show start ["system", "states", "state"] [u0, u1] = ([some u0, some u1, none] : L2.St) from rfl]
    obtain ⟨t10, e11, hm⟩ := bindS hm
    obtain ⟨t36, e37, hm⟩ := bindS hm
    obtain ⟨t38, e39, hm⟩ := bindS hm
    replace hm : some _ = some _ := hm
    obtain rfl := Option.some.inj hm
    exact q_retL w (el_lc (S := Unit) (ys := t38.1) (s1 := t38.2) (s0 := ()) (σ' := [some u0, some u1, none]) rBool (ei_rng1 (ea_cons (ev_len (ev_seqT (ev_var rfl f0))) ea_nil) e11) _ (fun (s12 : Unit) => []) rfl e39 e37 rfl (by rintro s12 x19 o24 s25 v17 D22 a23 B13 H14 hb21 x15 w16 h18 PY26 PN27 qY28 qN29; replace w16 : Own K B13 M [⟨D22, (cLst rBool), a23⟩] H14 := w16; refine g_name ?_; refine ⟨rfl, ?_⟩; obtain ⟨rfl, rfl⟩ := Prod.mk.inj (Option.some.inj hb21); refine lc_yes ?_; exact (ev_inI (ev_varI rfl h18) (ev_seqL (ev_var rfl (((rLst rInt)).mono x15 f1)))) B13 H14 (Ex.refl _) w16 _ fun v30 B31 H32 x33 w34 h35 => qY28 v30 B31 H32 _ rfl x33 w34 h35)) fun p9 B9 H9 x9 w9 => k _ _ _ ((Ex.refl _).trans x9) (Own.pick (n := 0) (d := 1) w9 rfl (by decide))
noncomputable def m_listed (a0 : (List Bool)) : Option (List Int) :=
  Option.bind (room ((enumI 0 a0)).length) fun t43 =>
  Option.bind (compM (S := Unit) (β := Int) (fun (s10 : Unit) (x17 : (Int × Bool)) => ( if x17.2 = true then ( some (some x17.1, ())) else some (none, ()))) (()) ((enumI 0 a0))) fun t45 =>
  some t45.1
def C_listed : List Arg → List Cell → Arg → List Cell → Prop := fun as L r L' => ∃ a0 c, as = [⟨(rLst rBool), a0⟩] ∧ L = [] ∧ m_listed a0 = some c ∧ r = ⟨(rLst rInt), c⟩ ∧ L' = []
theorem sc_listed : FnScope ["known", "state", "here"] ["known"] (defScope s_listed) := ⟨rfl, rfl, rfl, by decide +kernel, rfl, by decide +kernel, by decide +kernel⟩
set_option maxHeartbeats 4000000 in
theorem ok_listed (F : FunC K "listed" s_listed f fd cc) (z_enumerate : mg "enumerate" = none) : FnOk P w K mg base CX0 1 f fd ["known"] (spV K T C_listed) := by
  refine F.ok sc_listed (fun vs H Q E h => ?_) (fun A outer s H vs Q E hr h => ?_)
  · obtain ⟨B, M, L, as, r, L', hT, w, ha, ⟨_, _, rfl, _⟩, k⟩ := h
    exact args_len ha
  · skip
    obtain ⟨B, M, L, as, r, L', rfl, w, ha, ⟨a0, c, rfl, rfl, hm, rfl, rfl⟩, k⟩ := h
    obtain ⟨u0, rfl, f0⟩ := args1 ha
    replace f0 : ((rLst rBool)).is K B u0 a0 := f0
    unfold m_listed at hm
    refine ⟨_, (pss_cons (ps_ret (pe_lc rfl sc_listed.nd (pi_enum rfl z_enumerate (pa_cons (pv 0) pa_nil)) (blkOk_by (own := [("state", 1), ("here", 2)]) (show blkC ["known", "state", "here"] (defScope s_listed) _ _ = true by decide +kernel)) (fun _ _ _ _ _ => (show PG _ _ (gTup K 2 (gCons (gName 1) (gCons (gName 2) gNil))) from (pg_tup rfl (pgs_cons (pg_name (i := 1) sc_listed.nd rfl (by first | exact Or.inl rfl | exact Or.inr rfl)) (pgs_cons (pg_name (i := 2) sc_listed.nd rfl (by first | exact Or.inl rfl | exact Or.inr rfl)) pgs_nil))))) (fun _ _ _ _ _ => (pts_one (pt_val (pv 2)))) (fun _ _ _ _ _ => (pv 1)))) pss_nil), ?_⟩
    rw [show start ["known", "state", "here"] [u0] = ([some u0, none, none] : L2.St) from rfl]
    obtain ⟨t43, e44, hm⟩ := bindS hm
    obtain ⟨t45, e46, hm⟩ := bindS hm
    replace hm : some _ = some _ := hm
    obtain rfl := Option.some.inj hm
    exact q_ret w (ev_frz (el_lc (S := Unit) (ys := t45.1) (s1 := t45.2) (s0 := ()) (σ' := [some u0, none, none]) rInt (ei_enumL (ev_var rfl f0)) _ (fun (s10 : Unit) => []) rfl e46 e44 rfl (by rintro s10 x17 o22 s23 v15 D20 a21 B11 H12 hb19 x13 w14 h16 PY24 PN25 qY26 qN27; replace w14 : Own K B11 M [⟨D20, (cLst rInt), a21⟩] H12 := w14; refine g_T2 h16 w14 fun v28 v29 h30 h31 => ?_; refine g_cons ?_; refine g_name ?_; refine g_cons ?_; refine g_name ?_; refine g_nil ?_; refine ⟨rfl, ?_⟩; exact (et_B (ev_varB rfl h31)) B11 H12 (Ex.refl _) w14 _ fun B38 H39 x40 (w41 : Own K B38 M [⟨D20, (cLst rInt), a21⟩] H39) => lc_if (fun hq42 => by rw [if_pos hq42] at hb19; obtain ⟨rfl, rfl⟩ := Prod.mk.inj (Option.some.inj hb19); exact (ev_varI rfl h30) B38 H39 (Ex.refl _) w41 _ fun v32 B33 H34 x35 w36 h37 => qY26 v32 B33 H34 _ rfl (x40.trans x35) w36 h37) (fun hq42 => by rw [if_neg (by rw [hq42]; exact Bool.false_ne_true)] at hb19; obtain ⟨rfl, rfl⟩ := Prod.mk.inj (Option.some.inj hb19); exact qN27 B38 H39 rfl x40 w41)))) fun v9 B9 H9 x9 w9 h9 => k _ _ _ ((Ex.refl _).trans x9) w9 h9
noncomputable def m_rest_of (a0 : (List (List (Int × (List (Int × Int)))))) (a1 : (List Int)) (a2 : (List Int)) : Option (List Int) :=
  Option.bind (small62 ((a0.length : Int))) fun t10 =>
  Option.bind (room ((rng 0 ((a0.length : Int)))).length) fun t41 =>
  Option.bind (compM (S := Unit) (β := Int) (fun (s12 : Unit) (x19 : Int) => ( if ((decide (x19 ∈ a1)) && (!decide (x19 ∈ a2))) = true then ( some (some x19, ())) else some (none, ()))) (()) ((rng 0 ((a0.length : Int))))) fun t43 =>
  some t43.1
def C_rest_of : List Arg → List Cell → Arg → List Cell → Prop := fun as L r L' => ∃ a0 a1 a2 c, as = [⟨(rTup (rTup (rT2 rInt (rTup (rT2 rInt rInt))))), a0⟩, ⟨(rLst rInt), a1⟩, ⟨(rLst rInt), a2⟩] ∧ L = [] ∧ m_rest_of a0 a1 a2 = some c ∧ r = ⟨(rLst rInt), c⟩ ∧ L' = []
theorem sc_rest_of : FnScope ["system", "allowed", "targets", "state"] ["system", "allowed", "targets"] (defScope s_rest_of) := ⟨rfl, rfl, rfl, by decide +kernel, rfl, by decide +kernel, by decide +kernel⟩
set_option maxHeartbeats 4000000 in
theorem ok_rest_of (F : FunC K "rest_of" s_rest_of f fd cc) (z_range : mg "range" = none) (z_len : mg "len" = none) : FnOk P w K mg base CX0 1 f fd ["system", "allowed", "targets"] (spV K T C_rest_of) := by
  refine F.ok sc_rest_of (fun vs H Q E h => ?_) (fun A outer s H vs Q E hr h => ?_)
  · obtain ⟨B, M, L, as, r, L', hT, w, ha, ⟨_, _, _, _, rfl, _⟩, k⟩ := h
    exact args_len ha
  · skip
    obtain ⟨B, M, L, as, r, L', rfl, w, ha, ⟨a0, a1, a2, c, rfl, rfl, hm, rfl, rfl⟩, k⟩ := h
    obtain ⟨u0, u1, u2, rfl, f0, f1, f2⟩ := args3 ha
    replace f0 : ((rTup (rTup (rT2 rInt (rTup (rT2 rInt rInt)))))).is K B u0 a0 := f0
    replace f1 : ((rLst rInt)).is K B u1 a1 := f1
    replace f2 : ((rLst rInt)).is K B u2 a2 := f2
    unfold m_rest_of at hm
    refine ⟨_, (pss_cons (ps_ret (pe_lc rfl sc_rest_of.nd (pi_range1 rfl z_range (pa_cons (pe_callB call_len_seq rfl z_len bt_len (pa_cons (pv 0) pa_nil)) pa_nil)) (blkOk_by (own := [("state", 3)]) (show blkC ["system", "allowed", "targets", "state"] (defScope s_rest_of) _ _ = true by decide +kernel)) (fun _ _ _ _ _ => (pg_name (i := 3) sc_rest_of.nd rfl (by first | exact Or.inl rfl | exact Or.inr rfl))) (fun _ _ _ _ _ => (pts_one (PW.pt (pw_and (pt_cmpR (show OpR _ _ (rIn K false) from op_in_seq) (pv 3) (pv 1) rfl) (pw_and1 (pt_cmpR (show OpR _ _ (rIn K true) from op_notIn_seq) (pv 3) (pv 2) rfl)))))) (fun _ _ _ _ _ => (pv 3)))) pss_nil), ?_⟩
    rw [show start ["system", "allowed", "targets", "state"] [u0, u1, u2] = ([some u0, some u1, some u2, none] : L2.St) from rfl]
    obtain ⟨t10, e11, hm⟩ := bindS hm
    obtain ⟨t41, e42, hm⟩ := bindS hm
    obtain ⟨t43, e44, hm⟩ := bindS hm
    replace hm : some _ = some _ := hm
    obtain rfl := Option.some.inj hm
    exact q_ret w (ev_frz (el_lc (S := Unit) (ys := t43.1) (s1 := t43.2) (s0 := ()) (σ' := [some u0, some u1, some u2, none]) rInt (ei_rng1 (ea_cons (ev_len (ev_seqT (ev_var rfl f0))) ea_nil) e11) _ (fun (s12 : Unit) => []) rfl e44 e42 rfl (by rintro s12 x19 o24 s25 v17 D22 a23 B13 H14 hb21 x15 w16 h18 PY26 PN27 qY28 qN29; replace w16 : Own K B13 M [⟨D22, (cLst rInt), a23⟩] H14 := w16; refine g_name ?_; refine ⟨rfl, ?_⟩; exact (et_and (et_test (ev_inI (ev_varI rfl h18) (ev_seqL (ev_var rfl (((rLst rInt)).mono x15 f1))))) fun _ => (et_test (ev_niI (ev_varI rfl h18) (ev_seqL (ev_var rfl (((rLst rInt)).mono x15 f2)))))) B13 H14 (Ex.refl _) w16 _ fun B36 H37 x38 (w39 : Own K B36 M [⟨D22, (cLst rInt), a23⟩] H37) => lc_if (fun hq40 => by rw [if_pos hq40] at hb21; obtain ⟨rfl, rfl⟩ := Prod.mk.inj (Option.some.inj hb21); exact (ev_varI rfl h18) B36 H37 (Ex.refl _) w39 _ fun v30 B31 H32 x33 w34 h35 => qY28 v30 B31 H32 _ rfl (x38.trans x33) w34 h35) (fun hq40 => by rw [if_neg (by rw [hq40]; exact Bool.false_ne_true)] at hb21; obtain ⟨rfl, rfl⟩ := Prod.mk.inj (Option.some.inj hb21); exact qN29 B36 H37 rfl x38 w39)))) fun v9 B9 H9 x9 w9 h9 => k _ _ _ ((Ex.refl _).trans x9) w9 h9
noncomputable def m_backward (a0 : (List (List (Int × (List (Int × Int)))))) (a1 : (List Int)) (a2 : (List Bool)) : Option (List Bool) :=
  Option.bind (whileB (S := (Bool × (List Bool))) (fun (s15 : (Bool × (List Bool))) => (
    if s15.1 = true then
      Option.bind (foldO (S := (Bool × (List Bool))) (α := Int) (fun (s44 : (Bool × (List Bool))) (x45 : Int) => (
        Option.bind (ixL s44.2 x45) fun t66 =>
        Option.bind ((if (!t66) = true then (Option.bind (ixL a0 x45) fun t68 => Option.bind (anyM (fun (x78 : (Int × (List (Int × Int)))) => (Option.bind (m_ends_in x78.2 s44.2) fun t88 => some t88)) t68) fun t90 => some (t90)) else (some (false)))) fun t98 =>
        Option.bind (if t98 = true then
          Option.bind (ixO s44.2.length x45) fun t105 =>
          some ((true, (s44.2.set t105 true)))
        else
          some ((s44.1, s44.2))
        ) fun (s102 : (Bool × (List Bool))) =>
        some ((s102.1, s102.2))
      )) ((false, s15.2)) a1) fun s116 =>
      some (Stp.nx ((s116.1, s116.2)))
    else
      some (Stp.bk ((s15.1, s15.2)))
  )) ((true, a2))) fun s126 =>
  some s126.2
def C_backward : List Arg → List Cell → Arg → List Cell → Prop := fun as L r L' => ∃ a0 a1 a2 c, as = [⟨(rTup (rTup (rT2 rInt (rTup (rT2 rInt rInt))))), a0⟩, ⟨(rLst rInt), a1⟩, ⟨(rLst rBool), a2⟩] ∧ L = [] ∧ m_backward a0 a1 a2 = some c ∧ r = ⟨(rLst rBool), c⟩ ∧ L' = []
theorem sc_backward : FnScope ["system", "rest", "known", "grown", "state"] ["system", "rest", "known"] (defScope s_backward) := ⟨rfl, rfl, rfl, by decide +kernel, rfl, by decide +kernel, by decide +kernel⟩
set_option maxHeartbeats 4000000 in
theorem ok_backward (F : FunC K "backward" s_backward f fd cc) (c_ends_in : Cl P w K mg base 2 "ends_in" (spV K T C_ends_in) []) (z_list : mg "list" = none) (z_any : mg "any" = none) (tb : ∃ P0, GxR.TabB base mg cc P0 ∧ P0 ∈ T) : FnOk P w K mg base CX0 4 f fd ["system", "rest", "known"] (spV K T C_backward) := by
  obtain ⟨P0, tb, hP0⟩ := tb
  refine F.ok sc_backward (fun vs H Q E h => ?_) (fun A outer s H vs Q E hr h => ?_)
  · obtain ⟨B, M, L, as, r, L', hT, w, ha, ⟨_, _, _, _, rfl, _⟩, k⟩ := h
    exact args_len ha
  · skip
    obtain ⟨B, M, L, as, r, L', rfl, w, ha, ⟨a0, a1, a2, c, rfl, rfl, hm, rfl, rfl⟩, k⟩ := h
    obtain ⟨u0, u1, u2, rfl, f0, f1, f2⟩ := args3 ha
    replace f0 : ((rTup (rTup (rT2 rInt (rTup (rT2 rInt rInt)))))).is K B u0 a0 := f0
    replace f1 : ((rLst rInt)).is K B u1 a1 := f1
    replace f2 : ((rLst rBool)).is K B u2 a2 := f2
    unfold m_backward at hm
    refine ⟨_, (pss_cons (ps_set (i := 2) sc_backward.nd rfl (by first | exact Or.inl rfl | exact Or.inr rfl) (pe_callTy call_list_of rfl z_list bt_list (pa_cons (pv 2) pa_nil))) (pss_cons (ps_set (i := 3) sc_backward.nd rfl (by first | exact Or.inl rfl | exact Or.inr rfl) pe_bl) (pss_cons (ps_while PassesOwn.never (pt_val (pv 3)) (pss_cons (ps_set (i := 3) sc_backward.nd rfl (by first | exact Or.inl rfl | exact Or.inr rfl) pe_bl) (pss_cons (ps_for PassesOwn.never rfl (pi_list (pv 1)) (pg_name (i := 4) sc_backward.nd rfl (by first | exact Or.inl rfl | exact Or.inr rfl)) (Evl.pss_cut (ps_if (PW.pt (pw_and (pt_not (pt_val (pe_ix ix_seq (pv 2) (pv 4) (fun _ _ => rfl)))) (pw_and1 (pt_val (L3G.pe_anyG (NG := ["_", "ends", "known"]) (js := [none, none, some 2]) (Room.mono hr (j := 3) (by omega)) rfl z_any bt_any tb rfl (L3G.gs_by (sc := defScope s_backward) (by decide +kernel)) (pi_tup (pe_ix ix_seq (pv 0) (pv 4) (fun _ _ => rfl))) (show L3G.capB ["system", "rest", "known", "grown", "state"] ["_", "ends", "known"] _ _ = true by decide +kernel) (fun _ => (pg_tup rfl (pgs_cons (pg_name (i := 0) (show List.Nodup (["_", "ends", "known"] : List Str) by decide +kernel) rfl (by first | exact Or.inl rfl | exact Or.inr rfl)) (pgs_cons (pg_name (i := 1) (show List.Nodup (["_", "ends", "known"] : List Str) by decide +kernel) rfl (by first | exact Or.inl rfl | exact Or.inr rfl)) pgs_nil)))) (fun _ hr => (pe_c c_ends_in hr (by omega) rfl (pa_cons (pv 1) (pa_cons (pv 2) pa_nil)))) (fun _ => rfl)))))) (pss_cons (ps_asg pe_bl (pg_sub (pv 2) (pv 4) set_list)) (pss_cons (ps_set (i := 3) sc_backward.nd rfl (by first | exact Or.inl rfl | exact Or.inr rfl) pe_bl) pss_nil)) pss_nil) pss_nil)) pss_nil))) (pss_cons (ps_ret (pv 2)) pss_nil)))), ?_⟩
    rw [show start ["system", "rest", "known", "grown", "state"] [u0, u1, u2] = ([some u0, some u1, some u2, none, none] : L2.St) from rfl]
    refine q_asgL (n := 2) w (el_listOf (ev_seqL (ev_var rfl f2))) fun p11 B10 H10 x10 (w10 : Own K B10 M [⟨p11, (cLst rBool), a2⟩] H10) => ?_
    refine q_asg (n := 3) w10 (ev_bl (b := true)) fun v13 B12 H12 x12 (w12 : Own K B12 M [⟨p11, (cLst rBool), a2⟩] H12) h14 => ?_
    obtain ⟨s126, e18, hm⟩ := bindS hm
    refine q_whileB w12 _ (fun s15 B19 σ30 => ∃ v34 o36, σ30 = [some u0, some u1, some (.ref p11), some v34, o36] ∧ (rBool).is K B19 v34 s15.1) (fun s15 => [⟨p11, (cLst rBool), s15.2⟩]) ((true, a2)) e18 (fun B9 x9 => ⟨v13, _, rfl, ((rBool).mono x9 h14)⟩) rfl ?_ ?_
    · skip
      rintro s15 s135 B19 B20 H21 σ30 hb16 x22 ⟨v34, o36, rfl, h35⟩ x23 w24 N25 K26 hN27 hB28 Q31 qT32 qF33
      replace w24 : Own K B20 M [⟨p11, (cLst rBool), s15.2⟩] H21 := w24
      refine q_wt w24 (et_B (ev_varB rfl h35)) (fun hq38 B37 H37 x37 (w37 : Own K B37 M [⟨p11, (cLst rBool), s15.2⟩] H37) => qT32 _ ?_) (fun hq40 B39 H39 x39 (w39 : Own K B39 M [⟨p11, (cLst rBool), s15.2⟩] H39) => qF33 _ ?_)
      · skip
        rw [if_pos hq38] at hb16
        refine q_asg (n := 3) w37 (ev_bl (b := false)) fun v42 B41 H41 x41 (w41 : Own K B41 M [⟨p11, (cLst rBool), s15.2⟩] H41) h43 => ?_
        obtain ⟨s116, e48, hb16⟩ := bindS hb16
        refine q_fold w41 (ei_lst (ev_var rfl (((rLst rInt)).mono (((((x10.trans x12).trans x22).trans x23).trans x37).trans x41) f1))) _ (fun s44 B49 σ62 => ∃ v63 o65, σ62 = [some u0, some u1, some (.ref p11), some v63, o65] ∧ (rBool).is K B49 v63 s44.1) (fun s44 => [⟨p11, (cLst rBool), s44.2⟩]) ((false, s15.2)) e48 (fun B9 x9 => ⟨v42, _, rfl, ((rBool).mono x9 h43)⟩) rfl ?_ ?_
        · skip
          rintro s44 x45 s125 v55 B49 B50 H51 σ62 hb46 x52 ⟨v63, o65, rfl, h64⟩ x53 w54 h56 N57 K58 hN59
          replace w54 : Own K B50 M [⟨p11, (cLst rBool), s44.2⟩] H51 := w54
          refine g_name ?_
          obtain ⟨t66, e67, hb46⟩ := bindS hb46
          obtain ⟨t98, e99, hb46⟩ := bindS hb46
          obtain ⟨s102, e103, hb46⟩ := bindS hb46
          refine q_cut (fun σ115 H112 => ∃ v113 B112, Ex B50 B112 ∧ Own K B112 M [⟨p11, (cLst rBool), s102.2⟩] H112 ∧ σ115 = [some u0, some u1, some (.ref p11), some v113, some v55] ∧ (rBool).is K B112 v113 s102.1) ?_ ?_
          · skip
            refine q_ifc w54 (et_and' (d := t98) (et_not (et_B (ev_ixC (n := 0) (ev_varR rfl) (ev_varI rfl h56) rfl e67))) (fun hb100 => by rw [if_pos hb100] at e99; obtain ⟨t68, e69, e99⟩ := bindS e99; obtain ⟨t90, e91, e99⟩ := bindS e99; obtain rfl := Option.some.inj e99; exact (et_B (ev_anyG hP0 (ei_tup (ev_ix (ev_seqT (ev_var rfl (((rTup (rTup (rT2 rInt (rTup (rT2 rInt rInt)))))).mono (((((((x10.trans x12).trans x22).trans x23).trans x37).trans x41).trans x52).trans x53) f0))) (ev_varI rfl h56) e69)) _ (fun σ83 => ∃ o70 o71, σ83 = [o70, o71, some (.ref p11)]) ⟨none, none, rfl⟩ e91 (by rintro _ x78 c79 v76 B72 H73 σ83 hb80 x74 ⟨o70, o71, rfl⟩ w75 h77 Q81 q82; replace w75 : Own K B72 M [⟨p11, (cLst rBool), s44.2⟩] H73 := w75; refine g_T2 h77 w75 fun v84 v85 h86 h87 => ?_; refine g_cons ?_; refine g_name ?_; refine g_cons ?_; refine g_name ?_; refine g_nil ?_; obtain ⟨t88, e89, hb80⟩ := bindS hb80; obtain rfl := Option.some.inj hb80; exact (ev_callF (ea_cons (ev_var rfl h87) (ea_cons (ev_varR rfl) ea_nil)) (af_same (af_cell (n := 0) rfl af_nil)) (nts_cons nt_lst nts_nil) to_bool ⟨_, _, _, rfl, rfl, e89, rfl, rfl⟩) B72 H73 (Ex.refl _) w75 _ fun v92 B93 H94 x95 w96 h97 => by rw [show v92 = V.bl _ from h97]; exact q82 _ B93 H94 ⟨_, _, rfl⟩ x95 w96)))) (fun hb100 => by rw [if_neg (by rw [hb100]; exact Bool.false_ne_true)] at e99; obtain rfl := Option.some.inj e99; exact ⟨rfl, rfl⟩)) (fun hb101 B104 H104 x104 (w104 : Own K B104 M [⟨p11, (cLst rBool), s44.2⟩] H104) => ?_) (fun hb101 B111 H111 x111 (w111 : Own K B111 M [⟨p11, (cLst rBool), s44.2⟩] H111) => ?_)
            · skip
              rw [if_pos hb101] at e103
              obtain ⟨t105, e106, e103⟩ := bindS e103
              refine q_setC (n := 0) w104 (ev_bl (b := true)) rfl (ev_varI rfl h56) rfl e106 fun B107 H107 x107 (w107 : Own K B107 M [⟨p11, (cLst rBool), (s44.2.set t105 true)⟩] H107) => ?_
              refine q_asg (n := 3) w107 (ev_bl (b := true)) fun v109 B108 H108 x108 (w108 : Own K B108 M [⟨p11, (cLst rBool), (s44.2.set t105 true)⟩] H108) h110 => ?_
              replace e103 : some _ = some _ := e103
              cases e103
              exact ⟨v109, _, ((x104.trans x107).trans x108), w108, rfl, h110⟩
            rw [if_neg (by rw [hb101]; exact Bool.false_ne_true)] at e103
            replace e103 : some _ = some _ := e103
            cases e103
            exact ⟨v63, _, x111, w111, rfl, ((rBool).mono (x53.trans x111) h64)⟩
          rintro σ115' H112 ⟨v113, B112, x112, w112, rfl, h114⟩
          replace hb46 : some _ = some _ := hb46
          cases hb46
          exact hN59 _ _ _ x112 w112 ⟨v113, _, rfl, h114⟩
        rintro B117 H118 σ121 x119 w120 ⟨v122, o124, rfl, h123⟩
        replace w120 : Own K B117 M [⟨p11, (cLst rBool), s116.2⟩] H118 := w120
        replace hb16 : some _ = some _ := hb16
        cases hb16
        exact hN27 _ _ _ _ rfl ((x37.trans x41).trans x119) w120 ⟨v122, _, rfl, h123⟩
      rw [if_neg (by rw [hq40]; exact Bool.false_ne_true)] at hb16
      replace hb16 : some _ = some _ := hb16
      cases hb16
      exact hB28 _ _ _ _ rfl x39 w39 ⟨v34, _, rfl, ((rBool).mono (x23.trans x39) h35)⟩
    rintro B127 H128 σ131 x129 w130 ⟨v132, o134, rfl, h133⟩
    replace w130 : Own K B127 M [⟨p11, (cLst rBool), s126.2⟩] H128 := w130
    replace hm : some _ = some _ := hm
    obtain rfl := Option.some.inj hm
    exact q_retC (n := 0) (m := 2) w130 rfl rfl fun v9 B9 x9 w9 h9 => k _ _ _ (((x10.trans x12).trans x129).trans x9) w9 h9
noncomputable def m_never (a0 : (List (List (Int × (List (Int × Int)))))) (a1 : (List Int)) (a2 : (List Int)) : Option (List Bool) :=
  Option.bind (m_rest_of a0 a1 a2) fun t10 =>
  Option.bind (small62 ((a0.length : Int))) fun t15 =>
  Option.bind (room ((rng 0 ((a0.length : Int)))).length) fun t41 =>
  Option.bind (compM (S := Unit) (β := Bool) (fun (s17 : Unit) (x24 : Int) => ( some (some ((!decide (x24 ∈ a2))), ()))) (()) ((rng 0 ((a0.length : Int))))) fun t43 =>
  Option.bind (whileB (S := (Bool × (List Bool))) (fun (s50 : (Bool × (List Bool))) => (
    if s50.1 = true then
      Option.bind (foldO (S := (Bool × (List Bool))) (α := Int) (fun (s79 : (Bool × (List Bool))) (x80 : Int) => (
        Option.bind (ixL s79.2 x80) fun t101 =>
        Option.bind ((if t101 = true then (Option.bind (ixL a0 x80) fun t103 => Option.bind (anyM (fun (x113 : (Int × (List (Int × Int)))) => (Option.bind (m_all_in x113.2 s79.2) fun t123 => some t123)) t103) fun t125 => some ((!t125))) else (some (false)))) fun t133 =>
        Option.bind (if t133 = true then
          Option.bind (ixO s79.2.length x80) fun t140 =>
          some ((true, (s79.2.set t140 false)))
        else
          some ((s79.1, s79.2))
        ) fun (s137 : (Bool × (List Bool))) =>
        some ((s137.1, s137.2))
      )) ((false, s50.2)) t10) fun s151 =>
      some (Stp.nx ((s151.1, s151.2)))
    else
      some (Stp.bk ((s50.1, s50.2)))
  )) ((true, t43.1))) fun s161 =>
  some s161.2
def C_never : List Arg → List Cell → Arg → List Cell → Prop := fun as L r L' => ∃ a0 a1 a2 c, as = [⟨(rTup (rTup (rT2 rInt (rTup (rT2 rInt rInt))))), a0⟩, ⟨(rLst rInt), a1⟩, ⟨(rLst rInt), a2⟩] ∧ L = [] ∧ m_never a0 a1 a2 = some c ∧ r = ⟨(rLst rBool), c⟩ ∧ L' = []
theorem sc_never : FnScope ["system", "allowed", "targets", "rest", "known", "shrunk", "state"] ["system", "allowed", "targets"] (defScope s_never) := ⟨rfl, rfl, rfl, by decide +kernel, rfl, by decide +kernel, by decide +kernel⟩
set_option maxHeartbeats 4000000 in
theorem ok_never (F : FunC K "never" s_never f fd cc) (c_rest_of : Cl P w K mg base 1 "rest_of" (spV K T C_rest_of) []) (c_all_in : Cl P w K mg base 2 "all_in" (spV K T C_all_in) []) (z_range : mg "range" = none) (z_len : mg "len" = none) (z_any : mg "any" = none) (tb : ∃ P0, GxR.TabB base mg cc P0 ∧ P0 ∈ T) : FnOk P w K mg base CX0 4 f fd ["system", "allowed", "targets"] (spV K T C_never) := by
  obtain ⟨P0, tb, hP0⟩ := tb
  refine F.ok sc_never (fun vs H Q E h => ?_) (fun A outer s H vs Q E hr h => ?_)
  · obtain ⟨B, M, L, as, r, L', hT, w, ha, ⟨_, _, _, _, rfl, _⟩, k⟩ := h
    exact args_len ha
  · skip
    obtain ⟨B, M, L, as, r, L', rfl, w, ha, ⟨a0, a1, a2, c, rfl, rfl, hm, rfl, rfl⟩, k⟩ := h
    obtain ⟨u0, u1, u2, rfl, f0, f1, f2⟩ := args3 ha
    replace f0 : ((rTup (rTup (rT2 rInt (rTup (rT2 rInt rInt)))))).is K B u0 a0 := f0
    replace f1 : ((rLst rInt)).is K B u1 a1 := f1
    replace f2 : ((rLst rInt)).is K B u2 a2 := f2
    unfold m_never at hm
    refine ⟨_, (pss_cons (ps_set (i := 3) sc_never.nd rfl (by first | exact Or.inl rfl | exact Or.inr rfl) (pe_c c_rest_of hr (by omega) rfl (pa_cons (pv 0) (pa_cons (pv 1) (pa_cons (pv 2) pa_nil))))) (pss_cons (ps_set (i := 4) sc_never.nd rfl (by first | exact Or.inl rfl | exact Or.inr rfl) (pe_lc rfl sc_never.nd (pi_range1 rfl z_range (pa_cons (pe_callB call_len_seq rfl z_len bt_len (pa_cons (pv 0) pa_nil)) pa_nil)) (blkOk_by (own := [("state", 6)]) (show blkC ["system", "allowed", "targets", "rest", "known", "shrunk", "state"] (defScope s_never) _ _ = true by decide +kernel)) (fun _ _ _ _ _ => (pg_name (i := 6) sc_never.nd rfl (by first | exact Or.inl rfl | exact Or.inr rfl))) (fun _ _ _ _ _ => pts_nil) (fun _ _ _ _ _ => (pe_cmpR (show OpR _ _ (rIn K true) from op_notIn_seq) (pv 6) (pv 2) rfl)))) (pss_cons (ps_set (i := 5) sc_never.nd rfl (by first | exact Or.inl rfl | exact Or.inr rfl) pe_bl) (pss_cons (ps_while PassesOwn.never (pt_val (pv 5)) (pss_cons (ps_set (i := 5) sc_never.nd rfl (by first | exact Or.inl rfl | exact Or.inr rfl) pe_bl) (pss_cons (ps_for PassesOwn.never rfl (pi_list (pv 3)) (pg_name (i := 6) sc_never.nd rfl (by first | exact Or.inl rfl | exact Or.inr rfl)) (Evl.pss_cut (ps_if (PW.pt (pw_and (pt_val (pe_ix ix_seq (pv 4) (pv 6) (fun _ _ => rfl))) (pw_and1 (pt_not (pt_val (L3G.pe_anyG (NG := ["_", "ends", "known"]) (js := [none, none, some 4]) (Room.mono hr (j := 3) (by omega)) rfl z_any bt_any tb rfl (L3G.gs_by (sc := defScope s_never) (by decide +kernel)) (pi_tup (pe_ix ix_seq (pv 0) (pv 6) (fun _ _ => rfl))) (show L3G.capB ["system", "allowed", "targets", "rest", "known", "shrunk", "state"] ["_", "ends", "known"] _ _ = true by decide +kernel) (fun _ => (pg_tup rfl (pgs_cons (pg_name (i := 0) (show List.Nodup (["_", "ends", "known"] : List Str) by decide +kernel) rfl (by first | exact Or.inl rfl | exact Or.inr rfl)) (pgs_cons (pg_name (i := 1) (show List.Nodup (["_", "ends", "known"] : List Str) by decide +kernel) rfl (by first | exact Or.inl rfl | exact Or.inr rfl)) pgs_nil)))) (fun _ hr => (pe_c c_all_in hr (by omega) rfl (pa_cons (pv 1) (pa_cons (pv 2) pa_nil)))) (fun _ => rfl))))))) (pss_cons (ps_asg pe_bl (pg_sub (pv 4) (pv 6) set_list)) (pss_cons (ps_set (i := 5) sc_never.nd rfl (by first | exact Or.inl rfl | exact Or.inr rfl) pe_bl) pss_nil)) pss_nil) pss_nil)) pss_nil))) (pss_cons (ps_ret (pv 4)) pss_nil))))), ?_⟩
    rw [show start ["system", "allowed", "targets", "rest", "known", "shrunk", "state"] [u0, u1, u2] = ([some u0, some u1, some u2, none, none, none, none] : L2.St) from rfl]
    obtain ⟨t10, e11, hm⟩ := bindS hm
    refine q_asg (n := 3) w (ev_call (ea_cons (ev_var rfl f0) (ea_cons (ev_var rfl f1) (ea_cons (ev_var rfl f2) ea_nil))) ⟨_, _, _, _, rfl, rfl, e11, rfl, rfl⟩) fun v13 B12 H12 x12 (w12 : Own K B12 M [] H12) h14 => ?_
    obtain ⟨t15, e16, hm⟩ := bindS hm
    obtain ⟨t41, e42, hm⟩ := bindS hm
    obtain ⟨t43, e44, hm⟩ := bindS hm
    refine q_asgL (n := 4) w12 (el_lc (S := Unit) (ys := t43.1) (s1 := t43.2) (s0 := ()) (σ' := [some u0, some u1, some u2, some v13, none, none, none]) rBool (ei_rng1 (ea_cons (ev_len (ev_seqT (ev_var rfl (((rTup (rTup (rT2 rInt (rTup (rT2 rInt rInt)))))).mono x12 f0)))) ea_nil) e16) _ (fun (s17 : Unit) => []) rfl e44 e42 rfl (by rintro s17 x24 o29 s30 v22 D27 a28 B18 H19 hb26 x20 w21 h23 PY31 PN32 qY33 qN34; replace w21 : Own K B18 M [⟨D27, (cLst rBool), a28⟩] H19 := w21; refine g_name ?_; refine ⟨rfl, ?_⟩; obtain ⟨rfl, rfl⟩ := Prod.mk.inj (Option.some.inj hb26); refine lc_yes ?_; exact (ev_niI (ev_varI rfl h23) (ev_seqL (ev_var rfl (((rLst rInt)).mono (x12.trans x20) f2)))) B18 H19 (Ex.refl _) w21 _ fun v35 B36 H37 x38 w39 h40 => qY33 v35 B36 H37 _ rfl x38 w39 h40)) fun p46 B45 H45 x45 (w45 : Own K B45 M [⟨p46, (cLst rBool), t43.1⟩] H45) => ?_
    refine q_asg (n := 5) w45 (ev_bl (b := true)) fun v48 B47 H47 x47 (w47 : Own K B47 M [⟨p46, (cLst rBool), t43.1⟩] H47) h49 => ?_
    obtain ⟨s161, e53, hm⟩ := bindS hm
    refine q_whileB w47 _ (fun s50 B54 σ65 => ∃ v69 o71, σ65 = [some u0, some u1, some u2, some v13, some (.ref p46), some v69, o71] ∧ (rBool).is K B54 v69 s50.1) (fun s50 => [⟨p46, (cLst rBool), s50.2⟩]) ((true, t43.1)) e53 (fun B9 x9 => ⟨v48, _, rfl, ((rBool).mono x9 h49)⟩) rfl ?_ ?_
    · skip
      rintro s50 s170 B54 B55 H56 σ65 hb51 x57 ⟨v69, o71, rfl, h70⟩ x58 w59 N60 K61 hN62 hB63 Q66 qT67 qF68
      replace w59 : Own K B55 M [⟨p46, (cLst rBool), s50.2⟩] H56 := w59
      refine q_wt w59 (et_B (ev_varB rfl h70)) (fun hq73 B72 H72 x72 (w72 : Own K B72 M [⟨p46, (cLst rBool), s50.2⟩] H72) => qT67 _ ?_) (fun hq75 B74 H74 x74 (w74 : Own K B74 M [⟨p46, (cLst rBool), s50.2⟩] H74) => qF68 _ ?_)
      · skip
        rw [if_pos hq73] at hb51
        refine q_asg (n := 5) w72 (ev_bl (b := false)) fun v77 B76 H76 x76 (w76 : Own K B76 M [⟨p46, (cLst rBool), s50.2⟩] H76) h78 => ?_
        obtain ⟨s151, e83, hb51⟩ := bindS hb51
        refine q_fold w76 (ei_lst (ev_var rfl (((rLst rInt)).mono (((((x45.trans x47).trans x57).trans x58).trans x72).trans x76) h14))) _ (fun s79 B84 σ97 => ∃ v98 o100, σ97 = [some u0, some u1, some u2, some v13, some (.ref p46), some v98, o100] ∧ (rBool).is K B84 v98 s79.1) (fun s79 => [⟨p46, (cLst rBool), s79.2⟩]) ((false, s50.2)) e83 (fun B9 x9 => ⟨v77, _, rfl, ((rBool).mono x9 h78)⟩) rfl ?_ ?_
        · skip
          rintro s79 x80 s160 v90 B84 B85 H86 σ97 hb81 x87 ⟨v98, o100, rfl, h99⟩ x88 w89 h91 N92 K93 hN94
          replace w89 : Own K B85 M [⟨p46, (cLst rBool), s79.2⟩] H86 := w89
          refine g_name ?_
          obtain ⟨t101, e102, hb81⟩ := bindS hb81
          obtain ⟨t133, e134, hb81⟩ := bindS hb81
          obtain ⟨s137, e138, hb81⟩ := bindS hb81
          refine q_cut (fun σ150 H147 => ∃ v148 B147, Ex B85 B147 ∧ Own K B147 M [⟨p46, (cLst rBool), s137.2⟩] H147 ∧ σ150 = [some u0, some u1, some u2, some v13, some (.ref p46), some v148, some v90] ∧ (rBool).is K B147 v148 s137.1) ?_ ?_
          · skip
            refine q_ifc w89 (et_and' (d := t133) (et_B (ev_ixC (n := 0) (ev_varR rfl) (ev_varI rfl h91) rfl e102)) (fun hb135 => by rw [if_pos hb135] at e134; obtain ⟨t103, e104, e134⟩ := bindS e134; obtain ⟨t125, e126, e134⟩ := bindS e134; obtain rfl := Option.some.inj e134; exact (et_not (et_B (ev_anyG hP0 (ei_tup (ev_ix (ev_seqT (ev_var rfl (((rTup (rTup (rT2 rInt (rTup (rT2 rInt rInt)))))).mono ((((((((x12.trans x45).trans x47).trans x57).trans x58).trans x72).trans x76).trans x87).trans x88) f0))) (ev_varI rfl h91) e104)) _ (fun σ118 => ∃ o105 o106, σ118 = [o105, o106, some (.ref p46)]) ⟨none, none, rfl⟩ e126 (by rintro _ x113 c114 v111 B107 H108 σ118 hb115 x109 ⟨o105, o106, rfl⟩ w110 h112 Q116 q117; replace w110 : Own K B107 M [⟨p46, (cLst rBool), s79.2⟩] H108 := w110; refine g_T2 h112 w110 fun v119 v120 h121 h122 => ?_; refine g_cons ?_; refine g_name ?_; refine g_cons ?_; refine g_name ?_; refine g_nil ?_; obtain ⟨t123, e124, hb115⟩ := bindS hb115; obtain rfl := Option.some.inj hb115; exact (ev_callF (ea_cons (ev_var rfl h122) (ea_cons (ev_varR rfl) ea_nil)) (af_same (af_cell (n := 0) rfl af_nil)) (nts_cons nt_lst nts_nil) to_bool ⟨_, _, _, rfl, rfl, e124, rfl, rfl⟩) B107 H108 (Ex.refl _) w110 _ fun v127 B128 H129 x130 w131 h132 => by rw [show v127 = V.bl _ from h132]; exact q117 _ B128 H129 ⟨_, _, rfl⟩ x130 w131))))) (fun hb135 => by rw [if_neg (by rw [hb135]; exact Bool.false_ne_true)] at e134; obtain rfl := Option.some.inj e134; exact ⟨rfl, rfl⟩)) (fun hb136 B139 H139 x139 (w139 : Own K B139 M [⟨p46, (cLst rBool), s79.2⟩] H139) => ?_) (fun hb136 B146 H146 x146 (w146 : Own K B146 M [⟨p46, (cLst rBool), s79.2⟩] H146) => ?_)
            · skip
              rw [if_pos hb136] at e138
              obtain ⟨t140, e141, e138⟩ := bindS e138
              refine q_setC (n := 0) w139 (ev_bl (b := false)) rfl (ev_varI rfl h91) rfl e141 fun B142 H142 x142 (w142 : Own K B142 M [⟨p46, (cLst rBool), (s79.2.set t140 false)⟩] H142) => ?_
              refine q_asg (n := 5) w142 (ev_bl (b := true)) fun v144 B143 H143 x143 (w143 : Own K B143 M [⟨p46, (cLst rBool), (s79.2.set t140 false)⟩] H143) h145 => ?_
              replace e138 : some _ = some _ := e138
              cases e138
              exact ⟨v144, _, ((x139.trans x142).trans x143), w143, rfl, h145⟩
            rw [if_neg (by rw [hb136]; exact Bool.false_ne_true)] at e138
            replace e138 : some _ = some _ := e138
            cases e138
            exact ⟨v98, _, x146, w146, rfl, ((rBool).mono (x88.trans x146) h99)⟩
          rintro σ150' H147 ⟨v148, B147, x147, w147, rfl, h149⟩
          replace hb81 : some _ = some _ := hb81
          cases hb81
          exact hN94 _ _ _ x147 w147 ⟨v148, _, rfl, h149⟩
        rintro B152 H153 σ156 x154 w155 ⟨v157, o159, rfl, h158⟩
        replace w155 : Own K B152 M [⟨p46, (cLst rBool), s151.2⟩] H153 := w155
        replace hb51 : some _ = some _ := hb51
        cases hb51
        exact hN62 _ _ _ _ rfl ((x72.trans x76).trans x154) w155 ⟨v157, _, rfl, h158⟩
      rw [if_neg (by rw [hq75]; exact Bool.false_ne_true)] at hb51
      replace hb51 : some _ = some _ := hb51
      cases hb51
      exact hB63 _ _ _ _ rfl x74 w74 ⟨v69, _, rfl, ((rBool).mono (x58.trans x74) h70)⟩
    rintro B162 H163 σ166 x164 w165 ⟨v167, o169, rfl, h168⟩
    replace w165 : Own K B162 M [⟨p46, (cLst rBool), s161.2⟩] H163 := w165
    replace hm : some _ = some _ := hm
    obtain rfl := Option.some.inj hm
    exact q_retC (n := 0) (m := 4) w165 rfl rfl fun v9 B9 x9 w9 h9 => k _ _ _ ((((x12.trans x45).trans x47).trans x164).trans x9) w9 h9
noncomputable def m_grown_inside (a0 : (List (List (Int × (List (Int × Int)))))) (a1 : (List Int)) (a2 : (List Int)) (a3 : (List Bool)) : Option (List Bool) :=
  Option.bind (m_marks a0 a2) fun t10 =>
  Option.bind (whileB (S := (Bool × (List Bool))) (fun (s17 : (Bool × (List Bool))) => (
    if s17.1 = true then
      Option.bind (foldO (S := (Bool × (List Bool))) (α := Int) (fun (s46 : (Bool × (List Bool))) (x47 : Int) => (
        Option.bind (ixL s46.2 x47) fun t68 =>
        Option.bind ((if (!t68) = true then (Option.bind (ixL a0 x47) fun t70 => Option.bind (anyM (fun (x80 : (Int × (List (Int × Int)))) => (Option.bind (m_all_in x80.2 a3) fun t90 => Option.bind ((if t90 = true then (Option.bind (m_ends_in x80.2 s46.2) fun t92 => some (t92)) else (some (false)))) fun t94 => some t94)) t70) fun t97 => some (t97)) else (some (false)))) fun t105 =>
        Option.bind (if t105 = true then
          Option.bind (ixO s46.2.length x47) fun t112 =>
          some ((true, (s46.2.set t112 true)))
        else
          some ((s46.1, s46.2))
        ) fun (s109 : (Bool × (List Bool))) =>
        some ((s109.1, s109.2))
      )) ((false, s17.2)) a1) fun s123 =>
      some (Stp.nx ((s123.1, s123.2)))
    else
      some (Stp.bk ((s17.1, s17.2)))
  )) ((true, t10))) fun s133 =>
  some s133.2
def C_grown_inside : List Arg → List Cell → Arg → List Cell → Prop := fun as L r L' => ∃ a0 a1 a2 a3 c, as = [⟨(rTup (rTup (rT2 rInt (rTup (rT2 rInt rInt))))), a0⟩, ⟨(rLst rInt), a1⟩, ⟨(rLst rInt), a2⟩, ⟨(rLst rBool), a3⟩] ∧ L = [] ∧ m_grown_inside a0 a1 a2 a3 = some c ∧ r = ⟨(rLst rBool), c⟩ ∧ L' = []
theorem sc_grown_inside : FnScope ["system", "rest", "targets", "inside", "known", "grown", "state"] ["system", "rest", "targets", "inside"] (defScope s_grown_inside) := ⟨rfl, rfl, rfl, by decide +kernel, rfl, by decide +kernel, by decide +kernel⟩
set_option maxHeartbeats 4000000 in
theorem ok_grown_inside (F : FunC K "grown_inside" s_grown_inside f fd cc) (c_marks : Cl P w K mg base 1 "marks" (spN K T rBool C_marks) []) (c_all_in : Cl P w K mg base 2 "all_in" (spV K T C_all_in) []) (c_ends_in : Cl P w K mg base 2 "ends_in" (spV K T C_ends_in) []) (z_any : mg "any" = none) (tb : ∃ P0, GxR.TabB base mg cc P0 ∧ P0 ∈ T) : FnOk P w K mg base CX0 4 f fd ["system", "rest", "targets", "inside"] (spV K T C_grown_inside) := by
  obtain ⟨P0, tb, hP0⟩ := tb
  refine F.ok sc_grown_inside (fun vs H Q E h => ?_) (fun A outer s H vs Q E hr h => ?_)
  · obtain ⟨B, M, L, as, r, L', hT, w, ha, ⟨_, _, _, _, _, rfl, _⟩, k⟩ := h
    exact args_len ha
  · skip
    obtain ⟨B, M, L, as, r, L', rfl, w, ha, ⟨a0, a1, a2, a3, c, rfl, rfl, hm, rfl, rfl⟩, k⟩ := h
    obtain ⟨u0, u1, u2, u3, rfl, f0, f1, f2, f3⟩ := args4 ha
    replace f0 : ((rTup (rTup (rT2 rInt (rTup (rT2 rInt rInt)))))).is K B u0 a0 := f0
    replace f1 : ((rLst rInt)).is K B u1 a1 := f1
    replace f2 : ((rLst rInt)).is K B u2 a2 := f2
    replace f3 : ((rLst rBool)).is K B u3 a3 := f3
    unfold m_grown_inside at hm
    refine ⟨_, (pss_cons (ps_set (i := 4) sc_grown_inside.nd rfl (by first | exact Or.inl rfl | exact Or.inr rfl) (pe_c c_marks hr (by omega) rfl (pa_cons (pv 0) (pa_cons (pv 2) pa_nil)))) (pss_cons (ps_set (i := 5) sc_grown_inside.nd rfl (by first | exact Or.inl rfl | exact Or.inr rfl) pe_bl) (pss_cons (ps_while PassesOwn.never (pt_val (pv 5)) (pss_cons (ps_set (i := 5) sc_grown_inside.nd rfl (by first | exact Or.inl rfl | exact Or.inr rfl) pe_bl) (pss_cons (ps_for PassesOwn.never rfl (pi_list (pv 1)) (pg_name (i := 6) sc_grown_inside.nd rfl (by first | exact Or.inl rfl | exact Or.inr rfl)) (Evl.pss_cut (ps_if (PW.pt (pw_and (pt_not (pt_val (pe_ix ix_seq (pv 4) (pv 6) (fun _ _ => rfl)))) (pw_and1 (pt_val (L3G.pe_anyG (NG := ["_", "ends", "inside", "known"]) (js := [none, none, some 3, some 4]) (Room.mono hr (j := 3) (by omega)) rfl z_any bt_any tb rfl (L3G.gs_by (sc := defScope s_grown_inside) (by decide +kernel)) (pi_tup (pe_ix ix_seq (pv 0) (pv 6) (fun _ _ => rfl))) (show L3G.capB ["system", "rest", "targets", "inside", "known", "grown", "state"] ["_", "ends", "inside", "known"] _ _ = true by decide +kernel) (fun _ => (pg_tup rfl (pgs_cons (pg_name (i := 0) (show List.Nodup (["_", "ends", "inside", "known"] : List Str) by decide +kernel) rfl (by first | exact Or.inl rfl | exact Or.inr rfl)) (pgs_cons (pg_name (i := 1) (show List.Nodup (["_", "ends", "inside", "known"] : List Str) by decide +kernel) rfl (by first | exact Or.inl rfl | exact Or.inr rfl)) pgs_nil)))) (fun _ hr => (pe_and (pe_c c_all_in hr (by omega) rfl (pa_cons (pv 1) (pa_cons (pv 2) pa_nil))) (pe_one (pe_c c_ends_in hr (by omega) rfl (pa_cons (pv 1) (pa_cons (pv 3) pa_nil)))))) (fun _ => rfl)))))) (pss_cons (ps_asg pe_bl (pg_sub (pv 4) (pv 6) set_list)) (pss_cons (ps_set (i := 5) sc_grown_inside.nd rfl (by first | exact Or.inl rfl | exact Or.inr rfl) pe_bl) pss_nil)) pss_nil) pss_nil)) pss_nil))) (pss_cons (ps_ret (pv 4)) pss_nil)))), ?_⟩
    rw [show start ["system", "rest", "targets", "inside", "known", "grown", "state"] [u0, u1, u2, u3] = ([some u0, some u1, some u2, some u3, none, none, none] : L2.St) from rfl]
    obtain ⟨t10, e11, hm⟩ := bindS hm
    refine q_asgL (n := 4) w (el_call (ea_cons (ev_var rfl f0) (ea_cons (ev_var rfl f2) ea_nil)) ⟨_, _, _, rfl, rfl, e11, rfl, rfl⟩) fun p13 B12 H12 x12 (w12 : Own K B12 M [⟨p13, (cLst rBool), t10⟩] H12) => ?_
    refine q_asg (n := 5) w12 (ev_bl (b := true)) fun v15 B14 H14 x14 (w14 : Own K B14 M [⟨p13, (cLst rBool), t10⟩] H14) h16 => ?_
    obtain ⟨s133, e20, hm⟩ := bindS hm
    refine q_whileB w14 _ (fun s17 B21 σ32 => ∃ v36 o38, σ32 = [some u0, some u1, some u2, some u3, some (.ref p13), some v36, o38] ∧ (rBool).is K B21 v36 s17.1) (fun s17 => [⟨p13, (cLst rBool), s17.2⟩]) ((true, t10)) e20 (fun B9 x9 => ⟨v15, _, rfl, ((rBool).mono x9 h16)⟩) rfl ?_ ?_
    · skip
      rintro s17 s142 B21 B22 H23 σ32 hb18 x24 ⟨v36, o38, rfl, h37⟩ x25 w26 N27 K28 hN29 hB30 Q33 qT34 qF35
      replace w26 : Own K B22 M [⟨p13, (cLst rBool), s17.2⟩] H23 := w26
      refine q_wt w26 (et_B (ev_varB rfl h37)) (fun hq40 B39 H39 x39 (w39 : Own K B39 M [⟨p13, (cLst rBool), s17.2⟩] H39) => qT34 _ ?_) (fun hq42 B41 H41 x41 (w41 : Own K B41 M [⟨p13, (cLst rBool), s17.2⟩] H41) => qF35 _ ?_)
      · skip
        rw [if_pos hq40] at hb18
        refine q_asg (n := 5) w39 (ev_bl (b := false)) fun v44 B43 H43 x43 (w43 : Own K B43 M [⟨p13, (cLst rBool), s17.2⟩] H43) h45 => ?_
        obtain ⟨s123, e50, hb18⟩ := bindS hb18
        refine q_fold w43 (ei_lst (ev_var rfl (((rLst rInt)).mono (((((x12.trans x14).trans x24).trans x25).trans x39).trans x43) f1))) _ (fun s46 B51 σ64 => ∃ v65 o67, σ64 = [some u0, some u1, some u2, some u3, some (.ref p13), some v65, o67] ∧ (rBool).is K B51 v65 s46.1) (fun s46 => [⟨p13, (cLst rBool), s46.2⟩]) ((false, s17.2)) e50 (fun B9 x9 => ⟨v44, _, rfl, ((rBool).mono x9 h45)⟩) rfl ?_ ?_
        · skip
          rintro s46 x47 s132 v57 B51 B52 H53 σ64 hb48 x54 ⟨v65, o67, rfl, h66⟩ x55 w56 h58 N59 K60 hN61
          replace w56 : Own K B52 M [⟨p13, (cLst rBool), s46.2⟩] H53 := w56
          refine g_name ?_
          obtain ⟨t68, e69, hb48⟩ := bindS hb48
          obtain ⟨t105, e106, hb48⟩ := bindS hb48
          obtain ⟨s109, e110, hb48⟩ := bindS hb48
          refine q_cut (fun σ122 H119 => ∃ v120 B119, Ex B52 B119 ∧ Own K B119 M [⟨p13, (cLst rBool), s109.2⟩] H119 ∧ σ122 = [some u0, some u1, some u2, some u3, some (.ref p13), some v120, some v57] ∧ (rBool).is K B119 v120 s109.1) ?_ ?_
          · skip
            refine q_ifc w56 (et_and' (d := t105) (et_not (et_B (ev_ixC (n := 0) (ev_varR rfl) (ev_varI rfl h58) rfl e69))) (fun hb107 => by rw [if_pos hb107] at e106; obtain ⟨t70, e71, e106⟩ := bindS e106; obtain ⟨t97, e98, e106⟩ := bindS e106; obtain rfl := Option.some.inj e106; exact (et_B (ev_anyG hP0 (ei_tup (ev_ix (ev_seqT (ev_var rfl (((rTup (rTup (rT2 rInt (rTup (rT2 rInt rInt)))))).mono (((((((x12.trans x14).trans x24).trans x25).trans x39).trans x43).trans x54).trans x55) f0))) (ev_varI rfl h58) e71)) _ (fun σ85 => ∃ o72 o73, σ85 = [o72, o73, some u3, some (.ref p13)]) ⟨none, none, rfl⟩ e98 (by rintro _ x80 c81 v78 B74 H75 σ85 hb82 x76 ⟨o72, o73, rfl⟩ w77 h79 Q83 q84; replace w77 : Own K B74 M [⟨p13, (cLst rBool), s46.2⟩] H75 := w77; refine g_T2 h79 w77 fun v86 v87 h88 h89 => ?_; refine g_cons ?_; refine g_name ?_; refine g_cons ?_; refine g_name ?_; refine g_nil ?_; obtain ⟨t90, e91, hb82⟩ := bindS hb82; obtain ⟨t94, e95, hb82⟩ := bindS hb82; obtain rfl := Option.some.inj hb82; exact (ev_andV (d := t94) (ev_call (ea_cons (ev_var rfl h89) (ea_cons (ev_var rfl (((rLst rBool)).mono ((((((((x12.trans x14).trans x24).trans x25).trans x39).trans x43).trans x54).trans x55).trans x76) f3)) ea_nil)) ⟨_, _, _, rfl, rfl, e91, rfl, rfl⟩) (fun hb96 => by rw [if_pos hb96] at e95; obtain ⟨t92, e93, e95⟩ := bindS e95; obtain rfl := Option.some.inj e95; exact (ev_callF (ea_cons (ev_var rfl h89) (ea_cons (ev_varR rfl) ea_nil)) (af_same (af_cell (n := 0) rfl af_nil)) (nts_cons nt_lst nts_nil) to_bool ⟨_, _, _, rfl, rfl, e93, rfl, rfl⟩)) (fun hb96 => by rw [if_neg (by rw [hb96]; exact Bool.false_ne_true)] at e95; obtain rfl := Option.some.inj e95; exact ⟨rfl, rfl⟩)) B74 H75 (Ex.refl _) w77 _ fun v99 B100 H101 x102 w103 h104 => by rw [show v99 = V.bl _ from h104]; exact q84 _ B100 H101 ⟨_, _, rfl⟩ x102 w103)))) (fun hb107 => by rw [if_neg (by rw [hb107]; exact Bool.false_ne_true)] at e106; obtain rfl := Option.some.inj e106; exact ⟨rfl, rfl⟩)) (fun hb108 B111 H111 x111 (w111 : Own K B111 M [⟨p13, (cLst rBool), s46.2⟩] H111) => ?_) (fun hb108 B118 H118 x118 (w118 : Own K B118 M [⟨p13, (cLst rBool), s46.2⟩] H118) => ?_)
            · skip
              rw [if_pos hb108] at e110
              obtain ⟨t112, e113, e110⟩ := bindS e110
              refine q_setC (n := 0) w111 (ev_bl (b := true)) rfl (ev_varI rfl h58) rfl e113 fun B114 H114 x114 (w114 : Own K B114 M [⟨p13, (cLst rBool), (s46.2.set t112 true)⟩] H114) => ?_
              refine q_asg (n := 5) w114 (ev_bl (b := true)) fun v116 B115 H115 x115 (w115 : Own K B115 M [⟨p13, (cLst rBool), (s46.2.set t112 true)⟩] H115) h117 => ?_
              replace e110 : some _ = some _ := e110
              cases e110
              exact ⟨v116, _, ((x111.trans x114).trans x115), w115, rfl, h117⟩
            rw [if_neg (by rw [hb108]; exact Bool.false_ne_true)] at e110
            replace e110 : some _ = some _ := e110
            cases e110
            exact ⟨v65, _, x118, w118, rfl, ((rBool).mono (x55.trans x118) h66)⟩
          rintro σ122' H119 ⟨v120, B119, x119, w119, rfl, h121⟩
          replace hb48 : some _ = some _ := hb48
          cases hb48
          exact hN61 _ _ _ x119 w119 ⟨v120, _, rfl, h121⟩
        rintro B124 H125 σ128 x126 w127 ⟨v129, o131, rfl, h130⟩
        replace w127 : Own K B124 M [⟨p13, (cLst rBool), s123.2⟩] H125 := w127
        replace hb18 : some _ = some _ := hb18
        cases hb18
        exact hN29 _ _ _ _ rfl ((x39.trans x43).trans x126) w127 ⟨v129, _, rfl, h130⟩
      rw [if_neg (by rw [hq42]; exact Bool.false_ne_true)] at hb18
      replace hb18 : some _ = some _ := hb18
      cases hb18
      exact hB30 _ _ _ _ rfl x41 w41 ⟨v36, _, rfl, ((rBool).mono (x25.trans x41) h37)⟩
    rintro B134 H135 σ138 x136 w137 ⟨v139, o141, rfl, h140⟩
    replace w137 : Own K B134 M [⟨p13, (cLst rBool), s133.2⟩] H135 := w137
    replace hm : some _ = some _ := hm
    obtain rfl := Option.some.inj hm
    exact q_retC (n := 0) (m := 4) w137 rfl rfl fun v9 B9 x9 w9 h9 => k _ _ _ (((x12.trans x14).trans x136).trans x9) w9 h9
noncomputable def m_surely (a0 : (List (List (Int × (List (Int × Int)))))) (a1 : (List Int)) (a2 : (List Int)) : Option (List Bool) :=
  Option.bind (m_rest_of a0 a1 a2) fun t10 =>
  Option.bind (repL ([true]) ((a0.length : Int))) fun t16 =>
  Option.bind (whileR (S := (List Bool)) (R := (List Bool)) (fun (s21 : (List Bool)) => (
    if true = true then
      Option.bind (m_grown_inside a0 t10 a2 s21) fun t47 =>
      if (decide (t47 = s21)) = true then
        some (Stp.rt s21)
      else
        some (Stp.nx t47)
    else
      some (Stp.bk s21)
  )) t16) fun o23 =>
  match o23 with
  | .inl s58 =>
    none
  | .inr q9 => some q9
def C_surely : List Arg → List Cell → Arg → List Cell → Prop := fun as L r L' => ∃ a0 a1 a2 c, as = [⟨(rTup (rTup (rT2 rInt (rTup (rT2 rInt rInt))))), a0⟩, ⟨(rLst rInt), a1⟩, ⟨(rLst rInt), a2⟩] ∧ L = [] ∧ m_surely a0 a1 a2 = some c ∧ r = ⟨(rLst rBool), c⟩ ∧ L' = []
theorem sc_surely : FnScope ["system", "allowed", "targets", "rest", "inside", "found"] ["system", "allowed", "targets"] (defScope s_surely) := ⟨rfl, rfl, rfl, by decide +kernel, rfl, by decide +kernel, by decide +kernel⟩
set_option maxHeartbeats 4000000 in
theorem ok_surely (F : FunC K "surely" s_surely f fd cc) (c_rest_of : Cl P w K mg base 1 "rest_of" (spV K T C_rest_of) []) (c_grown_inside : Cl P w K mg base 4 "grown_inside" (spV K T C_grown_inside) []) (z_len : mg "len" = none) : FnOk P w K mg base CX0 5 f fd ["system", "allowed", "targets"] (spV K T C_surely) := by
  refine F.ok sc_surely (fun vs H Q E h => ?_) (fun A outer s H vs Q E hr h => ?_)
  · obtain ⟨B, M, L, as, r, L', hT, w, ha, ⟨_, _, _, _, rfl, _⟩, k⟩ := h
    exact args_len ha
  · skip
    obtain ⟨B, M, L, as, r, L', rfl, w, ha, ⟨a0, a1, a2, c, rfl, rfl, hm, rfl, rfl⟩, k⟩ := h
    obtain ⟨u0, u1, u2, rfl, f0, f1, f2⟩ := args3 ha
    replace f0 : ((rTup (rTup (rT2 rInt (rTup (rT2 rInt rInt)))))).is K B u0 a0 := f0
    replace f1 : ((rLst rInt)).is K B u1 a1 := f1
    replace f2 : ((rLst rInt)).is K B u2 a2 := f2
    have hu := room_hu hr
    unfold m_surely at hm
    refine ⟨_, (pss_cons (ps_set (i := 3) sc_surely.nd rfl (by first | exact Or.inl rfl | exact Or.inr rfl) (pe_c c_rest_of hr (by omega) rfl (pa_cons (pv 0) (pa_cons (pv 1) (pa_cons (pv 2) pa_nil))))) (pss_cons (ps_set (i := 4) sc_surely.nd rfl (by first | exact Or.inl rfl | exact Or.inr rfl) (pe_op op_rep (pe_lst (pa_cons pe_bl pa_nil)) (pe_callB call_len_seq rfl z_len bt_len (pa_cons (pv 0) pa_nil)))) (pss_cons (ps_while PassesOwn.never (pt_val pe_bl) (pss_cons (ps_set (i := 5) sc_surely.nd rfl (by first | exact Or.inl rfl | exact Or.inr rfl) (pe_c c_grown_inside hr (by omega) rfl (pa_cons (pv 0) (pa_cons (pv 3) (pa_cons (pv 2) (pa_cons (pv 4) pa_nil)))))) (pss_cons (ps_if (pt_cmpR (op_eqD hu) (pv 5) (pv 4) (nomark _)) (pss_cons (ps_ret (pv 4)) pss_nil) pss_nil) (pss_cons (ps_set (i := 4) sc_surely.nd rfl (by first | exact Or.inl rfl | exact Or.inr rfl) (pv 5)) pss_nil)))) pss_nil))), ?_⟩
    rw [show start ["system", "allowed", "targets", "rest", "inside", "found"] [u0, u1, u2] = ([some u0, some u1, some u2, none, none, none] : L2.St) from rfl]
    obtain ⟨t10, e11, hm⟩ := bindS hm
    refine q_asg (n := 3) w (ev_call (ea_cons (ev_var rfl f0) (ea_cons (ev_var rfl f1) (ea_cons (ev_var rfl f2) ea_nil))) ⟨_, _, _, _, rfl, rfl, e11, rfl, rfl⟩) fun v13 B12 H12 x12 (w12 : Own K B12 M [] H12) h14 => ?_
    obtain ⟨t16, e17, hm⟩ := bindS hm
    refine q_asg (n := 4) w12 (ev_frz (el_rep (el_lst (r := rBool) [true] (ea_cons (ev_bl (b := true)) ea_nil)) (fun p15 => (ev_len (ev_seqT (ev_var rfl (((rTup (rTup (rT2 rInt (rTup (rT2 rInt rInt)))))).mono x12 f0))))) e17)) fun v19 B18 H18 x18 (w18 : Own K B18 M [] H18) h20 => ?_
    obtain ⟨o23, e24, hm⟩ := bindS hm
    refine q_whileR w18 _ (fun s21 B25 σ36 => ∃ v40 o42, σ36 = [some u0, some u1, some u2, some v13, some v40, o42] ∧ ((rLst rBool)).is K B25 v40 s21) (fun s21 => []) t16 e24 (fun B9 x9 => ⟨v19, _, rfl, (((rLst rBool)).mono x9 h20)⟩) rfl ?_ ?_
    · skip
      rintro s21 s67 B25 B26 H27 σ36 hb22 x28 ⟨v40, o42, rfl, h41⟩ x29 w30 ho35 N31 K32 hN33 hB34 Q37 qT38 qF39
      replace w30 : Own K B26 M [] H27 := w30
      refine q_wt w30 (et_B (ev_bl (b := true))) (fun hq44 B43 H43 x43 (w43 : Own K B43 M [] H43) => qT38 _ ?_) (fun hq46 B45 H45 x45 (w45 : Own K B45 M [] H45) => qF39 _ ?_)
      · skip
        rw [if_pos hq44] at hb22
        obtain ⟨t47, e48, hb22⟩ := bindS hb22
        refine q_asg (n := 5) w43 (ev_call (ea_cons (ev_var rfl (((rTup (rTup (rT2 rInt (rTup (rT2 rInt rInt)))))).mono ((((x12.trans x18).trans x28).trans x29).trans x43) f0)) (ea_cons (ev_var rfl (((rLst rInt)).mono (((x18.trans x28).trans x29).trans x43) h14)) (ea_cons (ev_var rfl (((rLst rInt)).mono ((((x12.trans x18).trans x28).trans x29).trans x43) f2)) (ea_cons (ev_var rfl (((rLst rBool)).mono (x29.trans x43) h41)) ea_nil)))) ⟨_, _, _, _, _, rfl, rfl, e48, rfl, rfl⟩) fun v50 B49 H49 x49 (w49 : Own K B49 M [] H49) h51 => ?_
        refine q_if w49 (et_test (ev_eqT (dr_lst dr_bool) (by decide) (ev_var rfl h51) (ev_var rfl (((rLst rBool)).mono ((x29.trans x43).trans x49) h41)))) (fun hb52 B53 H53 x53 (w53 : Own K B53 M [] H53) => ?_) (fun hb52 B54 H54 x54 (w54 : Own K B54 M [] H54) => ?_)
        · skip
          rw [if_pos hb52] at hb22
          replace hb22 : some _ = some _ := hb22
          obtain rfl := Option.some.inj hb22
          obtain rfl := ho35 _ rfl
          replace hm : some _ = some _ := hm
          obtain rfl := Option.some.inj hm
          exact q_ret w53 (ev_var rfl (((rLst rBool)).mono (((x29.trans x43).trans x49).trans x53) h41)) fun v9 B9 H9 x9 w9 h9 => k _ _ _ (((((((x12.trans x18).trans x28).trans x29).trans x43).trans x49).trans x53).trans x9) w9 h9
        rw [if_neg (by rw [hb52]; exact Bool.false_ne_true)] at hb22
        refine q_asg (n := 4) w54 (ev_var rfl (((rLst rBool)).mono x54 h51)) fun v56 B55 H55 x55 (w55 : Own K B55 M [] H55) h57 => ?_
        replace hb22 : some _ = some _ := hb22
        cases hb22
        exact hN33 _ _ _ _ rfl (((x43.trans x49).trans x54).trans x55) w55 ⟨v56, _, rfl, h57⟩
      cases hq46
    rintro s58 B59 H60 σ63 rfl x61 w62 ⟨v64, o66, rfl, h65⟩
    dsimp only at hm
    replace w62 : Own K B59 M [] H60 := w62
    cases hm
noncomputable def m_possible (a0 : (List (List (Int × (List (Int × Int)))))) (a1 : (List Int)) (a2 : (List Int)) : Option (List Int) :=
  Option.bind (m_rest_of a0 a1 a2) fun t10 =>
  Option.bind (m_marks a0 a2) fun t12 =>
  Option.bind (m_backward a0 t10 t12) fun t14 =>
  Option.bind (m_listed t14) fun t16 =>
  some t16
def C_possible : List Arg → List Cell → Arg → List Cell → Prop := fun as L r L' => ∃ a0 a1 a2 c, as = [⟨(rTup (rTup (rT2 rInt (rTup (rT2 rInt rInt))))), a0⟩, ⟨(rLst rInt), a1⟩, ⟨(rLst rInt), a2⟩] ∧ L = [] ∧ m_possible a0 a1 a2 = some c ∧ r = ⟨(rLst rInt), c⟩ ∧ L' = []
theorem sc_possible : FnScope ["system", "allowed", "targets"] ["system", "allowed", "targets"] (defScope s_possible) := ⟨rfl, rfl, rfl, by decide +kernel, rfl, by decide +kernel, by decide +kernel⟩
set_option maxHeartbeats 4000000 in
theorem ok_possible (F : FunC K "possible" s_possible f fd cc) (c_listed : Cl P w K mg base 1 "listed" (spV K T C_listed) []) (c_backward : Cl P w K mg base 4 "backward" (spV K T C_backward) []) (c_rest_of : Cl P w K mg base 1 "rest_of" (spV K T C_rest_of) []) (c_marks : Cl P w K mg base 1 "marks" (spN K T rBool C_marks) []) : FnOk P w K mg base CX0 5 f fd ["system", "allowed", "targets"] (spV K T C_possible) := by
  refine F.ok sc_possible (fun vs H Q E h => ?_) (fun A outer s H vs Q E hr h => ?_)
  · obtain ⟨B, M, L, as, r, L', hT, w, ha, ⟨_, _, _, _, rfl, _⟩, k⟩ := h
    exact args_len ha
  · skip
    obtain ⟨B, M, L, as, r, L', rfl, w, ha, ⟨a0, a1, a2, c, rfl, rfl, hm, rfl, rfl⟩, k⟩ := h
    obtain ⟨u0, u1, u2, rfl, f0, f1, f2⟩ := args3 ha
    replace f0 : ((rTup (rTup (rT2 rInt (rTup (rT2 rInt rInt)))))).is K B u0 a0 := f0
    replace f1 : ((rLst rInt)).is K B u1 a1 := f1
    replace f2 : ((rLst rInt)).is K B u2 a2 := f2
    unfold m_possible at hm
    refine ⟨_, (pss_cons (ps_ret (pe_c c_listed hr (by omega) rfl (pa_cons (pe_c c_backward hr (by omega) rfl (pa_cons (pv 0) (pa_cons (pe_c c_rest_of hr (by omega) rfl (pa_cons (pv 0) (pa_cons (pv 1) (pa_cons (pv 2) pa_nil)))) (pa_cons (pe_c c_marks hr (by omega) rfl (pa_cons (pv 0) (pa_cons (pv 2) pa_nil))) pa_nil)))) pa_nil))) pss_nil), ?_⟩
    rw [show start ["system", "allowed", "targets"] [u0, u1, u2] = ([some u0, some u1, some u2] : L2.St) from rfl]
    obtain ⟨t10, e11, hm⟩ := bindS hm
    obtain ⟨t12, e13, hm⟩ := bindS hm
    obtain ⟨t14, e15, hm⟩ := bindS hm
    obtain ⟨t16, e17, hm⟩ := bindS hm
    replace hm : some _ = some _ := hm
    obtain rfl := Option.some.inj hm
    exact q_ret w (ev_call (ea_cons (ev_call (ea_cons (ev_var rfl f0) (ea_cons (ev_call (ea_cons (ev_var rfl f0) (ea_cons (ev_var rfl f1) (ea_cons (ev_var rfl f2) ea_nil))) ⟨_, _, _, _, rfl, rfl, e11, rfl, rfl⟩) (ea_cons (ev_frz (el_call (ea_cons (ev_var rfl f0) (ea_cons (ev_var rfl f2) ea_nil)) ⟨_, _, _, rfl, rfl, e13, rfl, rfl⟩)) ea_nil))) ⟨_, _, _, _, rfl, rfl, e15, rfl, rfl⟩) ea_nil) ⟨_, _, rfl, rfl, e17, rfl, rfl⟩) fun v9 B9 H9 x9 w9 h9 => k _ _ _ ((Ex.refl _).trans x9) w9 h9
noncomputable def m_avoidable (a0 : (List (List (Int × (List (Int × Int)))))) (a1 : (List Int)) (a2 : (List Int)) : Option (List Int) :=
  Option.bind (m_never a0 a1 a2) fun t10 =>
  Option.bind (m_listed t10) fun t12 =>
  some t12
def C_avoidable : List Arg → List Cell → Arg → List Cell → Prop := fun as L r L' => ∃ a0 a1 a2 c, as = [⟨(rTup (rTup (rT2 rInt (rTup (rT2 rInt rInt))))), a0⟩, ⟨(rLst rInt), a1⟩, ⟨(rLst rInt), a2⟩] ∧ L = [] ∧ m_avoidable a0 a1 a2 = some c ∧ r = ⟨(rLst rInt), c⟩ ∧ L' = []
theorem sc_avoidable : FnScope ["system", "allowed", "targets"] ["system", "allowed", "targets"] (defScope s_avoidable) := ⟨rfl, rfl, rfl, by decide +kernel, rfl, by decide +kernel, by decide +kernel⟩
set_option maxHeartbeats 4000000 in
theorem ok_avoidable (F : FunC K "avoidable" s_avoidable f fd cc) (c_listed : Cl P w K mg base 1 "listed" (spV K T C_listed) []) (c_never : Cl P w K mg base 4 "never" (spV K T C_never) []) : FnOk P w K mg base CX0 5 f fd ["system", "allowed", "targets"] (spV K T C_avoidable) := by
  refine F.ok sc_avoidable (fun vs H Q E h => ?_) (fun A outer s H vs Q E hr h => ?_)
  · obtain ⟨B, M, L, as, r, L', hT, w, ha, ⟨_, _, _, _, rfl, _⟩, k⟩ := h
    exact args_len ha
  · skip
    obtain ⟨B, M, L, as, r, L', rfl, w, ha, ⟨a0, a1, a2, c, rfl, rfl, hm, rfl, rfl⟩, k⟩ := h
    obtain ⟨u0, u1, u2, rfl, f0, f1, f2⟩ := args3 ha
    replace f0 : ((rTup (rTup (rT2 rInt (rTup (rT2 rInt rInt)))))).is K B u0 a0 := f0
    replace f1 : ((rLst rInt)).is K B u1 a1 := f1
    replace f2 : ((rLst rInt)).is K B u2 a2 := f2
    unfold m_avoidable at hm
    refine ⟨_, (pss_cons (ps_ret (pe_c c_listed hr (by omega) rfl (pa_cons (pe_c c_never hr (by omega) rfl (pa_cons (pv 0) (pa_cons (pv 1) (pa_cons (pv 2) pa_nil)))) pa_nil))) pss_nil), ?_⟩
    rw [show start ["system", "allowed", "targets"] [u0, u1, u2] = ([some u0, some u1, some u2] : L2.St) from rfl]
    obtain ⟨t10, e11, hm⟩ := bindS hm
    obtain ⟨t12, e13, hm⟩ := bindS hm
    replace hm : some _ = some _ := hm
    obtain rfl := Option.some.inj hm
    exact q_ret w (ev_call (ea_cons (ev_call (ea_cons (ev_var rfl f0) (ea_cons (ev_var rfl f1) (ea_cons (ev_var rfl f2) ea_nil))) ⟨_, _, _, _, rfl, rfl, e11, rfl, rfl⟩) ea_nil) ⟨_, _, rfl, rfl, e13, rfl, rfl⟩) fun v9 B9 H9 x9 w9 h9 => k _ _ _ ((Ex.refl _).trans x9) w9 h9
noncomputable def m_attainable (a0 : (List (List (Int × (List (Int × Int)))))) (a1 : (List Int)) (a2 : (List Int)) : Option (List Int) :=
  Option.bind (m_surely a0 a1 a2) fun t10 =>
  Option.bind (m_listed t10) fun t12 =>
  some t12
def C_attainable : List Arg → List Cell → Arg → List Cell → Prop := fun as L r L' => ∃ a0 a1 a2 c, as = [⟨(rTup (rTup (rT2 rInt (rTup (rT2 rInt rInt))))), a0⟩, ⟨(rLst rInt), a1⟩, ⟨(rLst rInt), a2⟩] ∧ L = [] ∧ m_attainable a0 a1 a2 = some c ∧ r = ⟨(rLst rInt), c⟩ ∧ L' = []
theorem sc_attainable : FnScope ["system", "allowed", "targets"] ["system", "allowed", "targets"] (defScope s_attainable) := ⟨rfl, rfl, rfl, by decide +kernel, rfl, by decide +kernel, by decide +kernel⟩
set_option maxHeartbeats 4000000 in
theorem ok_attainable (F : FunC K "attainable" s_attainable f fd cc) (c_listed : Cl P w K mg base 1 "listed" (spV K T C_listed) []) (c_surely : Cl P w K mg base 5 "surely" (spV K T C_surely) []) : FnOk P w K mg base CX0 6 f fd ["system", "allowed", "targets"] (spV K T C_attainable) := by
  refine F.ok sc_attainable (fun vs H Q E h => ?_) (fun A outer s H vs Q E hr h => ?_)
  · obtain ⟨B, M, L, as, r, L', hT, w, ha, ⟨_, _, _, _, rfl, _⟩, k⟩ := h
    exact args_len ha
  · skip
    obtain ⟨B, M, L, as, r, L', rfl, w, ha, ⟨a0, a1, a2, c, rfl, rfl, hm, rfl, rfl⟩, k⟩ := h
    obtain ⟨u0, u1, u2, rfl, f0, f1, f2⟩ := args3 ha
    replace f0 : ((rTup (rTup (rT2 rInt (rTup (rT2 rInt rInt)))))).is K B u0 a0 := f0
    replace f1 : ((rLst rInt)).is K B u1 a1 := f1
    replace f2 : ((rLst rInt)).is K B u2 a2 := f2
    unfold m_attainable at hm
    refine ⟨_, (pss_cons (ps_ret (pe_c c_listed hr (by omega) rfl (pa_cons (pe_c c_surely hr (by omega) rfl (pa_cons (pv 0) (pa_cons (pv 1) (pa_cons (pv 2) pa_nil)))) pa_nil))) pss_nil), ?_⟩
    rw [show start ["system", "allowed", "targets"] [u0, u1, u2] = ([some u0, some u1, some u2] : L2.St) from rfl]
    obtain ⟨t10, e11, hm⟩ := bindS hm
    obtain ⟨t12, e13, hm⟩ := bindS hm
    replace hm : some _ = some _ := hm
    obtain rfl := Option.some.inj hm
    exact q_ret w (ev_call (ea_cons (ev_call (ea_cons (ev_var rfl f0) (ea_cons (ev_var rfl f1) (ea_cons (ev_var rfl f2) ea_nil))) ⟨_, _, _, _, rfl, rfl, e11, rfl, rfl⟩) ea_nil) ⟨_, _, rfl, rfl, e13, rfl, rfl⟩) fun v9 B9 H9 x9 w9 h9 => k _ _ _ ((Ex.refl _).trans x9) w9 h9
noncomputable def m_certain (a0 : (List (List (Int × (List (Int × Int)))))) (a1 : (List Int)) (a2 : (List Int)) : Option (List Int) :=
  Option.bind (m_rest_of a0 a1 a2) fun t10 =>
  Option.bind (m_never a0 a1 a2) fun t12 =>
  Option.bind (m_backward a0 t10 t12) fun t14 =>
  Option.bind (small62 ((a0.length : Int))) fun t19 =>
  Option.bind (room ((rng 0 ((a0.length : Int)))).length) fun t52 =>
  Option.bind (compM (S := Unit) (β := Int) (fun (s21 : Unit) (x28 : Int) => (Option.bind (ixL t14 x28) fun t45 => if (!t45) = true then ( some (some x28, ())) else some (none, ()))) (()) ((rng 0 ((a0.length : Int))))) fun t54 =>
  some t54.1
def C_certain : List Arg → List Cell → Arg → List Cell → Prop := fun as L r L' => ∃ a0 a1 a2 c, as = [⟨(rTup (rTup (rT2 rInt (rTup (rT2 rInt rInt))))), a0⟩, ⟨(rLst rInt), a1⟩, ⟨(rLst rInt), a2⟩] ∧ L = [] ∧ m_certain a0 a1 a2 = some c ∧ r = ⟨(rLst rInt), c⟩ ∧ L' = []
theorem sc_certain : FnScope ["system", "allowed", "targets", "lost", "state"] ["system", "allowed", "targets"] (defScope s_certain) := ⟨rfl, rfl, rfl, by decide +kernel, rfl, by decide +kernel, by decide +kernel⟩
set_option maxHeartbeats 4000000 in
theorem ok_certain (F : FunC K "certain" s_certain f fd cc) (c_backward : Cl P w K mg base 4 "backward" (spV K T C_backward) []) (c_rest_of : Cl P w K mg base 1 "rest_of" (spV K T C_rest_of) []) (c_never : Cl P w K mg base 4 "never" (spV K T C_never) []) (z_range : mg "range" = none) (z_len : mg "len" = none) : FnOk P w K mg base CX0 5 f fd ["system", "allowed", "targets"] (spV K T C_certain) := by
  refine F.ok sc_certain (fun vs H Q E h => ?_) (fun A outer s H vs Q E hr h => ?_)
  · obtain ⟨B, M, L, as, r, L', hT, w, ha, ⟨_, _, _, _, rfl, _⟩, k⟩ := h
    exact args_len ha
  · skip
    obtain ⟨B, M, L, as, r, L', rfl, w, ha, ⟨a0, a1, a2, c, rfl, rfl, hm, rfl, rfl⟩, k⟩ := h
    obtain ⟨u0, u1, u2, rfl, f0, f1, f2⟩ := args3 ha
    replace f0 : ((rTup (rTup (rT2 rInt (rTup (rT2 rInt rInt)))))).is K B u0 a0 := f0
    replace f1 : ((rLst rInt)).is K B u1 a1 := f1
    replace f2 : ((rLst rInt)).is K B u2 a2 := f2
    unfold m_certain at hm
    refine ⟨_, (pss_cons (ps_set (i := 3) sc_certain.nd rfl (by first | exact Or.inl rfl | exact Or.inr rfl) (pe_c c_backward hr (by omega) rfl (pa_cons (pv 0) (pa_cons (pe_c c_rest_of hr (by omega) rfl (pa_cons (pv 0) (pa_cons (pv 1) (pa_cons (pv 2) pa_nil)))) (pa_cons (pe_c c_never hr (by omega) rfl (pa_cons (pv 0) (pa_cons (pv 1) (pa_cons (pv 2) pa_nil)))) pa_nil))))) (pss_cons (ps_ret (pe_lc rfl sc_certain.nd (pi_range1 rfl z_range (pa_cons (pe_callB call_len_seq rfl z_len bt_len (pa_cons (pv 0) pa_nil)) pa_nil)) (blkOk_by (own := [("state", 4)]) (show blkC ["system", "allowed", "targets", "lost", "state"] (defScope s_certain) _ _ = true by decide +kernel)) (fun _ _ _ _ _ => (pg_name (i := 4) sc_certain.nd rfl (by first | exact Or.inl rfl | exact Or.inr rfl))) (fun _ _ _ _ _ => (pts_one (pt_not (pt_val (pe_ix (show IxR _ (rIx K) from ix_seq) (pv 3) (pv 4) (fun _ _ => rfl)))))) (fun _ _ _ _ _ => (pv 4)))) pss_nil)), ?_⟩
    rw [show start ["system", "allowed", "targets", "lost", "state"] [u0, u1, u2] = ([some u0, some u1, some u2, none, none] : L2.St) from rfl]
    obtain ⟨t10, e11, hm⟩ := bindS hm
    obtain ⟨t12, e13, hm⟩ := bindS hm
    obtain ⟨t14, e15, hm⟩ := bindS hm
    refine q_asg (n := 3) w (ev_call (ea_cons (ev_var rfl f0) (ea_cons (ev_call (ea_cons (ev_var rfl f0) (ea_cons (ev_var rfl f1) (ea_cons (ev_var rfl f2) ea_nil))) ⟨_, _, _, _, rfl, rfl, e11, rfl, rfl⟩) (ea_cons (ev_call (ea_cons (ev_var rfl f0) (ea_cons (ev_var rfl f1) (ea_cons (ev_var rfl f2) ea_nil))) ⟨_, _, _, _, rfl, rfl, e13, rfl, rfl⟩) ea_nil))) ⟨_, _, _, _, rfl, rfl, e15, rfl, rfl⟩) fun v17 B16 H16 x16 (w16 : Own K B16 M [] H16) h18 => ?_
    obtain ⟨t19, e20, hm⟩ := bindS hm
    obtain ⟨t52, e53, hm⟩ := bindS hm
    obtain ⟨t54, e55, hm⟩ := bindS hm
    replace hm : some _ = some _ := hm
    obtain rfl := Option.some.inj hm
    exact q_ret w16 (ev_frz (el_lc (S := Unit) (ys := t54.1) (s1 := t54.2) (s0 := ()) (σ' := [some u0, some u1, some u2, some v17, none]) rInt (ei_rng1 (ea_cons (ev_len (ev_seqT (ev_var rfl (((rTup (rTup (rT2 rInt (rTup (rT2 rInt rInt)))))).mono x16 f0)))) ea_nil) e20) _ (fun (s21 : Unit) => []) rfl e55 e53 rfl (by rintro s21 x28 o33 s34 v26 D31 a32 B22 H23 hb30 x24 w25 h27 PY35 PN36 qY37 qN38; replace w25 : Own K B22 M [⟨D31, (cLst rInt), a32⟩] H23 := w25; refine g_name ?_; refine ⟨rfl, ?_⟩; obtain ⟨t45, e46, hb30⟩ := bindS hb30; exact (et_not (et_B (ev_ix (ev_seqL (ev_var rfl (((rLst rBool)).mono x24 h18))) (ev_varI rfl h27) e46))) B22 H23 (Ex.refl _) w25 _ fun B47 H48 x49 (w50 : Own K B47 M [⟨D31, (cLst rInt), a32⟩] H48) => lc_if (fun hq51 => by rw [if_pos hq51] at hb30; obtain ⟨rfl, rfl⟩ := Prod.mk.inj (Option.some.inj hb30); exact (ev_varI rfl h27) B47 H48 (Ex.refl _) w50 _ fun v39 B40 H41 x42 w43 h44 => qY37 v39 B40 H41 _ rfl (x49.trans x42) w43 h44) (fun hq51 => by rw [if_neg (by rw [hq51]; exact Bool.false_ne_true)] at hb30; obtain ⟨rfl, rfl⟩ := Prod.mk.inj (Option.some.inj hb30); exact qN38 B47 H48 rfl x49 w50)))) fun v9 B9 H9 x9 w9 h9 => k _ _ _ (x16.trans x9) w9 h9
noncomputable def m_l_tape (a0 : (List Int)) : Option (List Int) :=
  Option.bind (foldO (S := (List Int)) (α := Int) (fun (s12 : (List Int)) (x13 : Int) => (
    Option.bind (mulI ((2 : Int)) x13) fun t35 =>
    Option.bind (if (decide (t35 < (0 : Int))) = true then
      some (((-(1 : Int)) - t35))
    else
      some t35
    ) fun (s41 : Int) =>
    Option.bind (powI ((10 : Int)) ((18 : Int))) fun t52 =>
    Option.bind (if (decide (s41 ≥ t52)) = true then
      Option.bind (foldO (S := (Int × (List Int))) (α := Int) (fun (s58 : (Int × (List Int))) (x59 : Int) => (
        Option.bind (if (decide (s58.1 > (0 : Int))) = true then
          Option.bind (modI s58.1 ((1000 : Int))) fun t84 =>
          Option.bind (room s58.2.length) fun t86 =>
          Option.bind (divI s58.1 ((1000 : Int))) fun t89 =>
          some ((t89, (s58.2 ++ [t84])))
        else
          some ((s58.1, s58.2))
        ) fun (s81 : (Int × (List Int))) =>
        some ((s81.1, s81.2))
      )) ((s41, s12)) ((rng 0 ((40 : Int))))) fun s99 =>
      some ((s99.1, s99.2))
    else
      Option.bind (foldO (S := (List Int)) (α := Int) (fun (s110 : (List Int)) (x111 : Int) => (
        Option.bind (mulI s41 ((48271 : Int))) fun t131 =>
        Option.bind (mulI x111 ((40503 : Int))) fun t133 =>
        Option.bind (modI (((t131 + t133) + (11 : Int))) ((2147483629 : Int))) fun t135 =>
        Option.bind (mulI t135 ((69621 : Int))) fun t140 =>
        Option.bind (divI t135 ((65536 : Int))) fun t142 =>
        Option.bind (modI ((t140 + t142)) ((2147483629 : Int))) fun t144 =>
        Option.bind (room s110.length) fun t146 =>
        some ((s110 ++ [t144]))
      )) s12 ((rng 0 ((3 : Int))))) fun s149 =>
      some ((s41, s149))
    ) fun (s55 : (Int × (List Int))) =>
    some s55.2
  )) (([] : List Int)) a0) fun s164 =>
  some s164
def C__law_tape : List Arg → List Cell → Arg → List Cell → Prop := fun as L r L' => ∃ a0 c, as = [⟨(rScr rInt), a0⟩] ∧ L = [] ∧ m_l_tape a0 = some c ∧ r = ⟨(rLst rInt), c⟩ ∧ L' = []
theorem sc__law_tape : FnScope ["_law_script", "_law_tape_here", "_law_cell", "_law_number", "_law_k", "_law_first"] ["_law_script"] (defScope s__law_tape) := ⟨rfl, rfl, rfl, by decide +kernel, rfl, by decide +kernel, by decide +kernel⟩
set_option maxHeartbeats 4000000 in
theorem ok__law_tape (F : FunC K "_law_tape" s__law_tape f fd cc) (z_int : mg "int" = none) (z_range : mg "range" = none) : FnOk P w K mg base CX0 1 f fd ["_law_script"] (spV K T C__law_tape) := by
  refine F.ok sc__law_tape (fun vs H Q E h => ?_) (fun A outer s H vs Q E hr h => ?_)
  · obtain ⟨B, M, L, as, r, L', hT, w, ha, ⟨_, _, rfl, _⟩, k⟩ := h
    exact args_len ha
  · skip
    obtain ⟨B, M, L, as, r, L', rfl, w, ha, ⟨a0, c, rfl, rfl, hm, rfl, rfl⟩, k⟩ := h
    obtain ⟨u0, rfl, f0⟩ := args1 ha
    replace f0 : ((rScr rInt)).is K B u0 a0 := f0
    unfold m_l_tape at hm
    refine ⟨_, (pss_cons (ps_set (i := 1) sc__law_tape.nd rfl (by first | exact Or.inl rfl | exact Or.inr rfl) (pe_lst pa_nil)) (pss_cons (ps_for PassesOwn.never rfl (pi_list (pv 0)) (pg_name (i := 2) sc__law_tape.nd rfl (by first | exact Or.inl rfl | exact Or.inr rfl)) (pss_cons (ps_set (i := 3) sc__law_tape.nd rfl (by first | exact Or.inl rfl | exact Or.inr rfl) (pe_op op_mulX pe_int (pe_callTy call_int1 rfl z_int bt_int (pa_cons (pv 2) pa_nil)))) (Evl.pss_cut (ps_if (pt_cmpR op_lt (pv 3) pe_int (nomark _)) (pss_cons (ps_set (i := 3) sc__law_tape.nd rfl (by first | exact Or.inl rfl | exact Or.inr rfl) (pe_op op_sub (pe_un un_neg pe_int) (pv 3))) pss_nil) pss_nil) (Evl.pss_cut (ps_if (pt_cmpR op_ge (pv 3) (pe_op op_pow pe_int pe_int) (nomark _)) (pss_cons (ps_for PassesOwn.never rfl (pi_range1 rfl z_range (pa_cons pe_int pa_nil)) (pg_name (i := 4) sc__law_tape.nd rfl (by first | exact Or.inl rfl | exact Or.inr rfl)) (Evl.pss_cut (ps_if (pt_cmpR op_gt (pv 3) pe_int (nomark _)) (pss_cons (ps_expr (pe_bm PySem.F.plainAttrs_list PySem.F.slot_list_append PySem.F.type_list_append mt_append (pv 1) (pa_cons (pe_op op_mod (pe_callTy call_int1 rfl z_int bt_int (pa_cons (pv 3) pa_nil)) pe_int) pa_nil))) (pss_cons (ps_set (i := 3) sc__law_tape.nd rfl (by first | exact Or.inl rfl | exact Or.inr rfl) (pe_op op_fdivW (pv 3) pe_int)) pss_nil)) pss_nil) pss_nil)) pss_nil) (pss_cons (ps_for PassesOwn.never rfl (pi_range1 rfl z_range (pa_cons pe_int pa_nil)) (pg_name (i := 4) sc__law_tape.nd rfl (by first | exact Or.inl rfl | exact Or.inr rfl)) (pss_cons (ps_set (i := 5) sc__law_tape.nd rfl (by first | exact Or.inl rfl | exact Or.inr rfl) (pe_op op_mod (pe_callTy call_int1 rfl z_int bt_int (pa_cons (pe_op op_add (pe_op op_add (pe_op op_mulX (pv 3) pe_int) (pe_op op_mulX (pv 4) pe_int)) pe_int) pa_nil)) pe_int)) (pss_cons (ps_expr (pe_bm PySem.F.plainAttrs_list PySem.F.slot_list_append PySem.F.type_list_append mt_append (pv 1) (pa_cons (pe_op op_mod (pe_callTy call_int1 rfl z_int bt_int (pa_cons (pe_op op_add (pe_op op_mulX (pv 5) pe_int) (pe_op op_fdivW (pv 5) pe_int)) pa_nil)) pe_int) pa_nil))) pss_nil))) pss_nil)) pss_nil)))) (pss_cons (ps_ret (pv 1)) pss_nil))), ?_⟩
    rw [show start ["_law_script", "_law_tape_here", "_law_cell", "_law_number", "_law_k", "_law_first"] [u0] = ([some u0, none, none, none, none, none] : L2.St) from rfl]
    refine q_asgL (n := 1) w (el_lst (r := rInt) ([] : List Int) ea_nil) fun p11 B10 H10 x10 (w10 : Own K B10 M [⟨p11, (cLst rInt), ([] : List Int)⟩] H10) => ?_
    obtain ⟨s164, e16, hm⟩ := bindS hm
    refine q_fold w10 (ei_scr (ev_var rfl (((rScr rInt)).mono x10 f0))) _ (fun s12 B17 σ30 => ∃ o31 o32 o33 o34, σ30 = [some u0, some (.ref p11), o31, o32, o33, o34]) (fun s12 => [⟨p11, (cLst rInt), s12⟩]) (([] : List Int)) e16 (fun B9 x9 => ⟨_, _, _, _, rfl⟩) rfl ?_ ?_
    · skip
      rintro s12 x13 s174 v23 B17 B18 H19 σ30 hb14 x20 ⟨o31, o32, o33, o34, rfl⟩ x21 w22 h24 N25 K26 hN27
      replace w22 : Own K B18 M [⟨p11, (cLst rInt), s12⟩] H19 := w22
      refine g_name ?_
      obtain ⟨t35, e36, hb14⟩ := bindS hb14
      refine q_asg (n := 3) w22 (ev_mul (ev_int (i := 2)) (ev_intI (ev_varI rfl h24)) e36) fun v38 B37 H37 x37 (w37 : Own K B37 M [⟨p11, (cLst rInt), s12⟩] H37) h39 => ?_
      obtain ⟨s41, e42, hb14⟩ := bindS hb14
      refine q_cut (fun σ51 H48 => ∃ v49 B48, Ex B37 B48 ∧ Own K B48 M [⟨p11, (cLst rInt), s12⟩] H48 ∧ σ51 = [some u0, some (.ref p11), some v23, some v49, o33, o34] ∧ (rInt).is K B48 v49 s41) ?_ ?_
      · skip
        refine q_ifc w37 (et_test (ev_lt (ev_varI rfl h39) (ev_int (i := 0)))) (fun hb40 B43 H43 x43 (w43 : Own K B43 M [⟨p11, (cLst rInt), s12⟩] H43) => ?_) (fun hb40 B47 H47 x47 (w47 : Own K B47 M [⟨p11, (cLst rInt), s12⟩] H47) => ?_)
        · skip
          rw [if_pos hb40] at e42
          refine q_asg (n := 3) w43 (ev_sub (ev_neg (ev_int (i := 1))) (ev_varI rfl h39)) fun v45 B44 H44 x44 (w44 : Own K B44 M [⟨p11, (cLst rInt), s12⟩] H44) h46 => ?_
          replace e42 : some _ = some _ := e42
          cases e42
          exact ⟨v45, _, (x43.trans x44), w44, rfl, h46⟩
        rw [if_neg (by rw [hb40]; exact Bool.false_ne_true)] at e42
        replace e42 : some _ = some _ := e42
        cases e42
        exact ⟨v38, _, x47, w47, rfl, ((rInt).mono x47 h39)⟩
      rintro σ51' H48 ⟨v49, B48, x48, w48, rfl, h50⟩
      obtain ⟨t52, e53, hb14⟩ := bindS hb14
      obtain ⟨s55, e56, hb14⟩ := bindS hb14
      refine q_cut (fun σ163 H158 => ∃ v159 o161 o162 B158, Ex B48 B158 ∧ Own K B158 M [⟨p11, (cLst rInt), s55.2⟩] H158 ∧ σ163 = [some u0, some (.ref p11), some v23, some v159, o161, o162] ∧ (rInt).is K B158 v159 s55.1) ?_ ?_
      · skip
        refine q_ifc w48 (et_test (ev_ge (ev_varI rfl h50) (ev_pow (ev_int (i := 10)) (ev_int (i := 18)) e53))) (fun hb54 B57 H57 x57 (w57 : Own K B57 M [⟨p11, (cLst rInt), s12⟩] H57) => ?_) (fun hb54 B109 H109 x109 (w109 : Own K B109 M [⟨p11, (cLst rInt), s12⟩] H109) => ?_)
        · skip
          rw [if_pos hb54] at e56
          obtain ⟨s99, e62, e56⟩ := bindS e56
          refine q_fold w57 (ei_rng1 (ea_cons (ev_int (i := 40)) ea_nil) (by decide)) _ (fun s58 B63 σ76 => ∃ v77 o79, σ76 = [some u0, some (.ref p11), some v23, some v77, o79, o34] ∧ (rInt).is K B63 v77 s58.1) (fun s58 => [⟨p11, (cLst rInt), s58.2⟩]) ((s41, s12)) e62 (fun B9 x9 => ⟨v49, _, rfl, ((rInt).mono x9 ((rInt).mono x57 h50))⟩) rfl ?_ ?_
          · skip
            rintro s58 x59 s108 v69 B63 B64 H65 σ76 hb60 x66 ⟨v77, o79, rfl, h78⟩ x67 w68 h70 N71 K72 hN73
            replace w68 : Own K B64 M [⟨p11, (cLst rInt), s58.2⟩] H65 := w68
            refine g_name ?_
            obtain ⟨s81, e82, hb60⟩ := bindS hb60
            refine q_cut (fun σ98 H95 => ∃ v96 B95, Ex B64 B95 ∧ Own K B95 M [⟨p11, (cLst rInt), s81.2⟩] H95 ∧ σ98 = [some u0, some (.ref p11), some v23, some v96, some v69, o34] ∧ (rInt).is K B95 v96 s81.1) ?_ ?_
            · skip
              refine q_ifc w68 (et_test (ev_gt (ev_varI rfl h78) (ev_int (i := 0)))) (fun hb80 B83 H83 x83 (w83 : Own K B83 M [⟨p11, (cLst rInt), s58.2⟩] H83) => ?_) (fun hb80 B94 H94 x94 (w94 : Own K B94 M [⟨p11, (cLst rInt), s58.2⟩] H94) => ?_)
              · skip
                rw [if_pos hb80] at e82
                obtain ⟨t84, e85, e82⟩ := bindS e82
                obtain ⟨t86, e87, e82⟩ := bindS e82
                refine q_app (n := 0) (m := 1) w83 rfl (ev_mod (ev_intI (ev_varI rfl h78)) (ev_int (i := 1000)) e85) rfl ⟨0, _, rfl⟩ e87 fun B88 H88 x88 (w88 : Own K B88 M [⟨p11, (cLst rInt), (s58.2 ++ [t84])⟩] H88) => ?_
                obtain ⟨t89, e90, e82⟩ := bindS e82
                refine q_asg (n := 3) w88 (ev_div (ev_varI rfl h78) (ev_int (i := 1000)) e90) fun v92 B91 H91 x91 (w91 : Own K B91 M [⟨p11, (cLst rInt), (s58.2 ++ [t84])⟩] H91) h93 => ?_
                replace e82 : some _ = some _ := e82
                cases e82
                exact ⟨v92, _, ((x83.trans x88).trans x91), w91, rfl, h93⟩
              rw [if_neg (by rw [hb80]; exact Bool.false_ne_true)] at e82
              replace e82 : some _ = some _ := e82
              cases e82
              exact ⟨v77, _, x94, w94, rfl, ((rInt).mono (x67.trans x94) h78)⟩
            rintro σ98' H95 ⟨v96, B95, x95, w95, rfl, h97⟩
            replace hb60 : some _ = some _ := hb60
            cases hb60
            exact hN73 _ _ _ x95 w95 ⟨v96, _, rfl, h97⟩
          rintro B100 H101 σ104 x102 w103 ⟨v105, o107, rfl, h106⟩
          replace w103 : Own K B100 M [⟨p11, (cLst rInt), s99.2⟩] H101 := w103
          replace e56 : some _ = some _ := e56
          cases e56
          exact ⟨v105, _, _, _, (x57.trans x102), w103, rfl, h106⟩
        rw [if_neg (by rw [hb54]; exact Bool.false_ne_true)] at e56
        obtain ⟨s149, e114, e56⟩ := bindS e56
        refine q_fold w109 (ei_rng1 (ea_cons (ev_int (i := 3)) ea_nil) (by decide)) _ (fun s110 B115 σ128 => ∃ o129 o130, σ128 = [some u0, some (.ref p11), some v23, some v49, o129, o130]) (fun s110 => [⟨p11, (cLst rInt), s110⟩]) s12 e114 (fun B9 x9 => ⟨_, _, rfl⟩) rfl ?_ ?_
        · skip
          rintro s110 x111 s157 v121 B115 B116 H117 σ128 hb112 x118 ⟨o129, o130, rfl⟩ x119 w120 h122 N123 K124 hN125
          replace w120 : Own K B116 M [⟨p11, (cLst rInt), s110⟩] H117 := w120
          refine g_name ?_
          obtain ⟨t131, e132, hb112⟩ := bindS hb112
          obtain ⟨t133, e134, hb112⟩ := bindS hb112
          obtain ⟨t135, e136, hb112⟩ := bindS hb112
          refine q_asg (n := 5) w120 (ev_mod (ev_intI (ev_add (ev_add (ev_mul (ev_varI rfl h50) (ev_int (i := 48271)) e132) (ev_mul (ev_varI rfl h122) (ev_int (i := 40503)) e134)) (ev_int (i := 11)))) (ev_int (i := 2147483629)) e136) fun v138 B137 H137 x137 (w137 : Own K B137 M [⟨p11, (cLst rInt), s110⟩] H137) h139 => ?_
          obtain ⟨t140, e141, hb112⟩ := bindS hb112
          obtain ⟨t142, e143, hb112⟩ := bindS hb112
          obtain ⟨t144, e145, hb112⟩ := bindS hb112
          obtain ⟨t146, e147, hb112⟩ := bindS hb112
          refine q_app (n := 0) (m := 1) w137 rfl (ev_mod (ev_intI (ev_add (ev_mul (ev_varI rfl h139) (ev_int (i := 69621)) e141) (ev_div (ev_varI rfl h139) (ev_int (i := 65536)) e143))) (ev_int (i := 2147483629)) e145) rfl ⟨0, _, rfl⟩ e147 fun B148 H148 x148 (w148 : Own K B148 M [⟨p11, (cLst rInt), (s110 ++ [t144])⟩] H148) => ?_
          replace hb112 : some _ = some _ := hb112
          cases hb112
          exact hN125 _ _ _ (x137.trans x148) w148 ⟨_, _, rfl⟩
        rintro B150 H151 σ154 x152 w153 ⟨o155, o156, rfl⟩
        replace w153 : Own K B150 M [⟨p11, (cLst rInt), s149⟩] H151 := w153
        replace e56 : some _ = some _ := e56
        cases e56
        exact ⟨v49, _, _, _, (x109.trans x152), w153, rfl, ((rInt).mono (x109.trans x152) h50)⟩
      rintro σ163' H158 ⟨v159, o161, o162, B158, x158, w158, rfl, h160⟩
      replace hb14 : some _ = some _ := hb14
      cases hb14
      exact hN27 _ _ _ ((x37.trans x48).trans x158) w158 ⟨_, _, _, _, rfl⟩
    rintro B165 H166 σ169 x167 w168 ⟨o170, o171, o172, o173, rfl⟩
    replace w168 : Own K B165 M [⟨p11, (cLst rInt), s164⟩] H166 := w168
    replace hm : some _ = some _ := hm
    obtain rfl := Option.some.inj hm
    exact q_retC (n := 0) (m := 1) w168 rfl rfl fun v9 B9 x9 w9 h9 => k _ _ _ ((x10.trans x167).trans x9) w9 h9
noncomputable def m_l_draw (a0 : (List Int)) (a1 : Int) (a2 : Int) : Option Int :=
  if (decide (a1 < (a0.length : Int))) = true then
    Option.bind (ixL a0 a1) fun t12 =>
    Option.bind (modI t12 a2) fun t14 =>
    some t14
  else
    Option.bind (if (decide ((a0.length : Int) > (0 : Int))) = true then
      Option.bind (modI a1 ((a0.length : Int))) fun t24 =>
      Option.bind (ixL a0 t24) fun t26 =>
      some t26
    else
      some ((1 : Int))
    ) fun (s21 : Int) =>
    Option.bind (mulI ((s21 + a1)) ((a1 + (3 : Int)))) fun t36 =>
    Option.bind (mulI t36 ((7919 : Int))) fun t38 =>
    Option.bind (mulI a1 ((104729 : Int))) fun t40 =>
    Option.bind (modI ((t38 + t40)) ((65521 : Int))) fun t42 =>
    Option.bind (modI t42 a2) fun t44 =>
    some t44
def C__law_draw : List Arg → List Cell → Arg → List Cell → Prop := fun as L r L' => ∃ a0 a1 a2 c, as = [⟨(rLst rInt), a0⟩, ⟨rInt, a1⟩, ⟨rInt, a2⟩] ∧ L = [] ∧ m_l_draw a0 a1 a2 = some c ∧ r = ⟨rInt, c⟩ ∧ L' = []
theorem sc__law_draw : FnScope ["_law_tape_here", "_law_at", "_law_many", "_law_number"] ["_law_tape_here", "_law_at", "_law_many"] (defScope s__law_draw) := ⟨rfl, rfl, rfl, by decide +kernel, rfl, by decide +kernel, by decide +kernel⟩
set_option maxHeartbeats 4000000 in
theorem ok__law_draw (F : FunC K "_law_draw" s__law_draw f fd cc) (z_len : mg "len" = none) (z_int : mg "int" = none) : FnOk P w K mg base CX0 1 f fd ["_law_tape_here", "_law_at", "_law_many"] (spV K T C__law_draw) := by
  refine F.ok sc__law_draw (fun vs H Q E h => ?_) (fun A outer s H vs Q E hr h => ?_)
  · obtain ⟨B, M, L, as, r, L', hT, w, ha, ⟨_, _, _, _, rfl, _⟩, k⟩ := h
    exact args_len ha
  · skip
    obtain ⟨B, M, L, as, r, L', rfl, w, ha, ⟨a0, a1, a2, c, rfl, rfl, hm, rfl, rfl⟩, k⟩ := h
    obtain ⟨u0, u1, u2, rfl, f0, f1, f2⟩ := args3 ha
    replace f0 : ((rLst rInt)).is K B u0 a0 := f0
    replace f1 : (rInt).is K B u1 a1 := f1
    replace f2 : (rInt).is K B u2 a2 := f2
    unfold m_l_draw at hm
    refine ⟨_, (pss_cons (ps_if (pt_cmpR op_lt (pv 1) (pe_callB call_len_seq rfl z_len bt_len (pa_cons (pv 0) pa_nil)) (nomark _)) (pss_cons (ps_ret (pe_op op_mod (pe_callTy call_int1 rfl z_int bt_int (pa_cons (pe_ix ix_seq (pv 0) (pv 1) (fun _ _ => rfl)) pa_nil)) (pv 2))) pss_nil) pss_nil) (pss_cons (ps_set (i := 3) sc__law_draw.nd rfl (by first | exact Or.inl rfl | exact Or.inr rfl) pe_int) (Evl.pss_cut (ps_if (pt_cmpR op_gt (pe_callB call_len_seq rfl z_len bt_len (pa_cons (pv 0) pa_nil)) pe_int (nomark _)) (pss_cons (ps_set (i := 3) sc__law_draw.nd rfl (by first | exact Or.inl rfl | exact Or.inr rfl) (pe_ix ix_seq (pv 0) (pe_op op_mod (pe_callTy call_int1 rfl z_int bt_int (pa_cons (pv 1) pa_nil)) (pe_callB call_len_seq rfl z_len bt_len (pa_cons (pv 0) pa_nil))) (fun _ _ => rfl))) pss_nil) pss_nil) (pss_cons (ps_ret (pe_op op_mod (pe_op op_mod (pe_callTy call_int1 rfl z_int bt_int (pa_cons (pe_op op_add (pe_op op_mulX (pe_op op_mulX (pe_op op_add (pv 3) (pv 1)) (pe_op op_add (pv 1) pe_int)) pe_int) (pe_op op_mulX (pv 1) pe_int)) pa_nil)) pe_int) (pv 2))) pss_nil)))), ?_⟩
    rw [show start ["_law_tape_here", "_law_at", "_law_many", "_law_number"] [u0, u1, u2] = ([some u0, some u1, some u2, none] : L2.St) from rfl]
    refine q_if w (et_test (ev_lt (ev_varI rfl f1) (ev_len (ev_seqL (ev_var rfl f0))))) (fun hb10 B11 H11 x11 (w11 : Own K B11 M [] H11) => ?_) (fun hb10 B16 H16 x16 (w16 : Own K B16 M [] H16) => ?_)
    · skip
      rw [if_pos hb10] at hm
      obtain ⟨t12, e13, hm⟩ := bindS hm
      obtain ⟨t14, e15, hm⟩ := bindS hm
      replace hm : some _ = some _ := hm
      obtain rfl := Option.some.inj hm
      exact q_ret w11 (ev_mod (ev_intI (ev_ix (ev_seqL (ev_var rfl (((rLst rInt)).mono x11 f0))) (ev_varI rfl f1) e13)) (ev_varI rfl f2) e15) fun v9 B9 H9 x9 w9 h9 => k _ _ _ (x11.trans x9) w9 h9
    rw [if_neg (by rw [hb10]; exact Bool.false_ne_true)] at hm
    refine q_asg (n := 3) w16 (ev_int (i := 1)) fun v18 B17 H17 x17 (w17 : Own K B17 M [] H17) h19 => ?_
    obtain ⟨s21, e22, hm⟩ := bindS hm
    refine q_cut (fun σ35 H32 => ∃ v33 B32, Ex B17 B32 ∧ Own K B32 M [] H32 ∧ σ35 = [some u0, some u1, some u2, some v33] ∧ (rInt).is K B32 v33 s21) ?_ ?_
    · skip
      refine q_ifc w17 (et_test (ev_gt (ev_len (ev_seqL (ev_var rfl (((rLst rInt)).mono (x16.trans x17) f0)))) (ev_int (i := 0)))) (fun hb20 B23 H23 x23 (w23 : Own K B23 M [] H23) => ?_) (fun hb20 B31 H31 x31 (w31 : Own K B31 M [] H31) => ?_)
      · skip
        rw [if_pos hb20] at e22
        obtain ⟨t24, e25, e22⟩ := bindS e22
        obtain ⟨t26, e27, e22⟩ := bindS e22
        refine q_asg (n := 3) w23 (ev_ix (ev_seqL (ev_var rfl (((rLst rInt)).mono ((x16.trans x17).trans x23) f0))) (ev_mod (ev_intI (ev_varI rfl f1)) (ev_len (ev_seqL (ev_var rfl (((rLst rInt)).mono ((x16.trans x17).trans x23) f0)))) e25) e27) fun v29 B28 H28 x28 (w28 : Own K B28 M [] H28) h30 => ?_
        replace e22 : some _ = some _ := e22
        cases e22
        exact ⟨v29, _, (x23.trans x28), w28, rfl, h30⟩
      rw [if_neg (by rw [hb20]; exact Bool.false_ne_true)] at e22
      replace e22 : some _ = some _ := e22
      cases e22
      exact ⟨v18, _, x31, w31, rfl, ((rInt).mono x31 h19)⟩
    rintro σ35' H32 ⟨v33, B32, x32, w32, rfl, h34⟩
    obtain ⟨t36, e37, hm⟩ := bindS hm
    obtain ⟨t38, e39, hm⟩ := bindS hm
    obtain ⟨t40, e41, hm⟩ := bindS hm
    obtain ⟨t42, e43, hm⟩ := bindS hm
    obtain ⟨t44, e45, hm⟩ := bindS hm
    replace hm : some _ = some _ := hm
    obtain rfl := Option.some.inj hm
    exact q_ret w32 (ev_mod (ev_mod (ev_intI (ev_add (ev_mul (ev_mul (ev_add (ev_varI rfl h34) (ev_varI rfl f1)) (ev_add (ev_varI rfl f1) (ev_int (i := 3))) e37) (ev_int (i := 7919)) e39) (ev_mul (ev_varI rfl f1) (ev_int (i := 104729)) e41))) (ev_int (i := 65521)) e43) (ev_varI rfl f2) e45) fun v9 B9 H9 x9 w9 h9 => k _ _ _ (((x16.trans x17).trans x32).trans x9) w9 h9
noncomputable def m_l_take (a0 : ((List Int) × Int)) (a1 : Int) : Option (Int × ((List Int) × Int)) :=
  Option.bind (m_l_draw (((a0.1, (a0.2 + (1 : Int)))).1) (((a0.1, (a0.2 + (1 : Int)))).2) a1) fun t11 =>
  some (t11, (a0.1, (a0.2 + (1 : Int))))
def C__law_take : List Arg → List Cell → Arg → List Cell → Prop := fun as L r L' => ∃ a0 a1 p0 c, as = [⟨rRef, p0⟩, ⟨rInt, a1⟩] ∧ L = [⟨p0, (cL2 (rLst rInt) rInt), a0⟩] ∧ m_l_take a0 a1 = some c ∧ r = ⟨rInt, c.1⟩ ∧ L' = [⟨p0, (cL2 (rLst rInt) rInt), c.2⟩]
theorem sc__law_take : FnScope ["_law_state", "_law_many"] ["_law_state", "_law_many"] (defScope s__law_take) := ⟨rfl, rfl, rfl, by decide +kernel, rfl, by decide +kernel, by decide +kernel⟩
set_option maxHeartbeats 4000000 in
theorem ok__law_take (F : FunC K "_law_take" s__law_take f fd cc) (c__law_draw : Cl P w K mg base 1 "_law_draw" (spV K T C__law_draw) []) : FnOk P w K mg base CX0 2 f fd ["_law_state", "_law_many"] (spV K T C__law_take) := by
  refine F.ok sc__law_take (fun vs H Q E h => ?_) (fun A outer s H vs Q E hr h => ?_)
  · obtain ⟨B, M, L, as, r, L', hT, w, ha, ⟨_, _, _, _, rfl, _⟩, k⟩ := h
    exact args_len ha
  · skip
    obtain ⟨B, M, L, as, r, L', rfl, w, ha, ⟨a0, a1, p0, c, rfl, rfl, hm, rfl, rfl⟩, k⟩ := h
    obtain ⟨u0, u1, rfl, f0, f1⟩ := args2 ha
    replace f0 : u0 = V.ref p0 := f0
    subst f0
    replace f1 : (rInt).is K B u1 a1 := f1
    unfold m_l_take at hm
    refine ⟨_, (pss_cons (ps_asg (pe_op op_add (pe_ix ix_seq (pv 0) pe_int (fun _ _ => rfl)) pe_int) (pg_sub (pv 0) pe_int set_list)) (pss_cons (ps_ret (pe_c c__law_draw hr (by omega) rfl (pa_cons (pe_ix ix_seq (pv 0) pe_int (fun _ _ => rfl)) (pa_cons (pe_ix ix_seq (pv 0) pe_int (fun _ _ => rfl)) (pa_cons (pv 1) pa_nil))))) pss_nil)), ?_⟩
    rw [show start ["_law_state", "_law_many"] [.ref p0, u1] = ([some (.ref p0), some u1] : L2.St) from rfl]
    refine q_set1 (n := 0) w (ev_add (ev_l2snd (n := 0) rfl rfl) (ev_int (i := 1))) rfl rfl fun B10 H10 x10 (w10 : Own K B10 M [⟨p0, (cL2 (rLst rInt) rInt), (a0.1, (a0.2 + (1 : Int)))⟩] H10) => ?_
    obtain ⟨t11, e12, hm⟩ := bindS hm
    replace hm : some _ = some _ := hm
    obtain rfl := Option.some.inj hm
    exact q_ret w10 (ev_call (ea_cons (ev_l2fst (n := 0) rfl rfl) (ea_cons (ev_l2snd (n := 0) rfl rfl) (ea_cons (ev_varI rfl f1) ea_nil))) ⟨_, _, _, _, rfl, rfl, e12, rfl, rfl⟩) fun v9 B9 H9 x9 w9 h9 => k _ _ _ (x10.trans x9) w9 h9
noncomputable def m_l_ends (a0 : ((List Int) × Int)) (a1 : Int) : Option ((List (Int × Int)) × ((List Int) × Int)) :=
  Option.bind (m_l_take a0 a1) fun t12 =>
  Option.bind (small62 a1) fun t17 =>
  Option.bind (foldO (S := ((List (Int × Int)) × ((List Int) × Int))) (α := Int) (fun (s19 : ((List (Int × Int)) × ((List Int) × Int))) (x20 : Int) => (
    Option.bind ((if (decide (x20 = t12.1)) = true then (some (true, s19.2)) else (Option.bind (m_l_take s19.2 ((3 : Int))) fun t39 => some ((decide (t39.1 = (0 : Int))), t39.2)))) fun t41 =>
    Option.bind (if t41.1 = true then
      Option.bind (m_l_take t41.2 ((6 : Int))) fun t48 =>
      Option.bind (ixL ([(1 : Int), (1 : Int), (2 : Int), (3 : Int), (10 : Int), (1000 : Int)]) t48.1) fun t50 =>
      Option.bind (room s19.1.length) fun t52 =>
      some (((s19.1 ++ [(x20, t50)]), t48.2))
    else
      some ((s19.1, t41.2))
    ) fun (s45 : ((List (Int × Int)) × ((List Int) × Int))) =>
    some ((s45.1, s45.2))
  )) ((([] : List (Int × Int)), t12.2)) ((rng 0 a1))) fun s58 =>
  some (s58.1, s58.2)
def C__law_ends : List Arg → List Cell → Arg → List Cell → Prop := fun as L r L' => ∃ a0 a1 p0 c, as = [⟨rRef, p0⟩, ⟨rInt, a1⟩] ∧ L = [⟨p0, (cL2 (rLst rInt) rInt), a0⟩] ∧ m_l_ends a0 a1 = some c ∧ r = ⟨(rTup (rT2 rInt rInt)), c.1⟩ ∧ L' = [⟨p0, (cL2 (rLst rInt) rInt), c.2⟩]
theorem sc__law_ends : FnScope ["_law_state", "_law_many", "_law_ends_here", "_law_first", "_law_goal"] ["_law_state", "_law_many"] (defScope s__law_ends) := ⟨rfl, rfl, rfl, by decide +kernel, rfl, by decide +kernel, by decide +kernel⟩
set_option maxHeartbeats 4000000 in
theorem ok__law_ends (F : FunC K "_law_ends" s__law_ends f fd cc) (c__law_take : Cl P w K mg base 2 "_law_take" (spV K T C__law_take) []) (z_range : mg "range" = none) (z_tuple : mg "tuple" = none) : FnOk P w K mg base CX0 3 f fd ["_law_state", "_law_many"] (spV K T C__law_ends) := by
  refine F.ok sc__law_ends (fun vs H Q E h => ?_) (fun A outer s H vs Q E hr h => ?_)
  · obtain ⟨B, M, L, as, r, L', hT, w, ha, ⟨_, _, _, _, rfl, _⟩, k⟩ := h
    exact args_len ha
  · skip
    obtain ⟨B, M, L, as, r, L', rfl, w, ha, ⟨a0, a1, p0, c, rfl, rfl, hm, rfl, rfl⟩, k⟩ := h
    obtain ⟨u0, u1, rfl, f0, f1⟩ := args2 ha
    replace f0 : u0 = V.ref p0 := f0
    subst f0
    replace f1 : (rInt).is K B u1 a1 := f1
    unfold m_l_ends at hm
    refine ⟨_, (pss_cons (ps_set (i := 2) sc__law_ends.nd rfl (by first | exact Or.inl rfl | exact Or.inr rfl) (pe_lst pa_nil)) (pss_cons (ps_set (i := 3) sc__law_ends.nd rfl (by first | exact Or.inl rfl | exact Or.inr rfl) (pe_c c__law_take hr (by omega) rfl (pa_cons (pv 0) (pa_cons (pv 1) pa_nil)))) (pss_cons (ps_for PassesOwn.never rfl (pi_range1 rfl z_range (pa_cons (pv 1) pa_nil)) (pg_name (i := 4) sc__law_ends.nd rfl (by first | exact Or.inl rfl | exact Or.inr rfl)) (Evl.pss_cut (ps_if (PW.pt (pw_or (pt_cmpR op_eq (pv 4) (pv 3) (nomark _)) (pw_or1 (pt_cmpR op_eq (pe_c c__law_take hr (by omega) rfl (pa_cons (pv 0) (pa_cons pe_int pa_nil))) pe_int (nomark _))))) (pss_cons (ps_expr (pe_bm PySem.F.plainAttrs_list PySem.F.slot_list_append PySem.F.type_list_append mt_append (pv 2) (pa_cons (pe_tup (pa_cons (pv 4) (pa_cons (pe_ix ix_seq (pe_lst (pa_cons pe_int (pa_cons pe_int (pa_cons pe_int (pa_cons pe_int (pa_cons pe_int (pa_cons pe_int pa_nil))))))) (pe_c c__law_take hr (by omega) rfl (pa_cons (pv 0) (pa_cons pe_int pa_nil))) (fun _ _ => rfl)) pa_nil))) pa_nil))) pss_nil) pss_nil) pss_nil)) (pss_cons (ps_ret (pe_callTy call_tuple_of rfl z_tuple bt_tuple (pa_cons (pv 2) pa_nil))) pss_nil)))), ?_⟩
    rw [show start ["_law_state", "_law_many", "_law_ends_here", "_law_first", "_law_goal"] [.ref p0, u1] = ([some (.ref p0), some u1, none, none, none] : L2.St) from rfl]
    refine q_asgL (n := 2) w (el_lst (r := (rT2 rInt rInt)) ([] : List (Int × Int)) ea_nil) fun p11 B10 H10 x10 (w10 : Own K B10 M [⟨p11, (cLst (rT2 rInt rInt)), ([] : List (Int × Int))⟩, ⟨p0, (cL2 (rLst rInt) rInt), a0⟩] H10) => ?_
    obtain ⟨t12, e13, hm⟩ := bindS hm
    refine q_asg (n := 3) w10 (ev_callC 1 (x := ⟨p0, (cL2 (rLst rInt) rInt), a0⟩) (x' := ⟨p0, (cL2 (rLst rInt) rInt), t12.2⟩) (ea_cons (ev_varR rfl) (ea_cons (ev_varI rfl f1) ea_nil)) rfl ⟨_, _, _, _, rfl, rfl, e13, rfl, rfl⟩ rfl) fun v15 B14 H14 x14 (w14 : Own K B14 M [⟨p11, (cLst (rT2 rInt rInt)), ([] : List (Int × Int))⟩, ⟨p0, (cL2 (rLst rInt) rInt), t12.2⟩] H14) h16 => ?_
    obtain ⟨t17, e18, hm⟩ := bindS hm
    obtain ⟨s58, e23, hm⟩ := bindS hm
    refine q_fold w14 (ei_rng1 (ea_cons (ev_varI rfl f1) ea_nil) e18) _ (fun s19 B24 σ37 => ∃ o38, σ37 = [some (.ref p0), some u1, some (.ref p11), some v15, o38]) (fun s19 => [⟨p11, (cLst (rT2 rInt rInt)), s19.1⟩, ⟨p0, (cL2 (rLst rInt) rInt), s19.2⟩]) ((([] : List (Int × Int)), t12.2)) e23 (fun B9 x9 => ⟨_, rfl⟩) rfl ?_ ?_
    · skip
      rintro s19 x20 s65 v30 B24 B25 H26 σ37 hb21 x27 ⟨o38, rfl⟩ x28 w29 h31 N32 K33 hN34
      replace w29 : Own K B25 M [⟨p11, (cLst (rT2 rInt rInt)), s19.1⟩, ⟨p0, (cL2 (rLst rInt) rInt), s19.2⟩] H26 := w29
      refine g_name ?_
      obtain ⟨t41, e42, hb21⟩ := bindS hb21
      obtain ⟨s45, e46, hb21⟩ := bindS hb21
      refine q_cut (fun σ57 H56 => ∃ B56, Ex B25 B56 ∧ Own K B56 M [⟨p11, (cLst (rT2 rInt rInt)), s45.1⟩, ⟨p0, (cL2 (rLst rInt) rInt), s45.2⟩] H56 ∧ σ57 = [some (.ref p0), some u1, some (.ref p11), some v15, some v30]) ?_ ?_
      · skip
        refine q_ifc w29 (et_or' (d := t41.1) (et_test (ev_eqI (ev_varI rfl h31) (ev_varI rfl h16))) (fun hb43 => by rw [if_neg (by rw [hb43]; exact Bool.false_ne_true)] at e42; obtain ⟨t39, e40, e42⟩ := bindS e42; obtain rfl := Option.some.inj e42; exact (et_test (ev_eqI (ev_callC 1 (x := ⟨p0, (cL2 (rLst rInt) rInt), s19.2⟩) (x' := ⟨p0, (cL2 (rLst rInt) rInt), t39.2⟩) (ea_cons (ev_varR rfl) (ea_cons (ev_int (i := 3)) ea_nil)) rfl ⟨_, _, _, _, rfl, rfl, e40, rfl, rfl⟩ rfl) (ev_int (i := 0))))) (fun hb43 => by rw [if_pos hb43] at e42; obtain rfl := Option.some.inj e42; exact ⟨rfl, rfl⟩)) (fun hb44 B47 H47 x47 (w47 : Own K B47 M [⟨p11, (cLst (rT2 rInt rInt)), s19.1⟩, ⟨p0, (cL2 (rLst rInt) rInt), t41.2⟩] H47) => ?_) (fun hb44 B55 H55 x55 (w55 : Own K B55 M [⟨p11, (cLst (rT2 rInt rInt)), s19.1⟩, ⟨p0, (cL2 (rLst rInt) rInt), t41.2⟩] H55) => ?_)
        · skip
          rw [if_pos hb44] at e46
          obtain ⟨t48, e49, e46⟩ := bindS e46
          obtain ⟨t50, e51, e46⟩ := bindS e46
          obtain ⟨t52, e53, e46⟩ := bindS e46
          refine q_app (n := 0) (m := 2) w47 rfl (ev_T2 (ea_cons (ev_varI rfl h31) (ea_cons (ev_ix (ev_seqL (ev_frz (el_lst (r := rInt) [(1 : Int), (1 : Int), (2 : Int), (3 : Int), (10 : Int), (1000 : Int)] (ea_cons (ev_int (i := 1)) (ea_cons (ev_int (i := 1)) (ea_cons (ev_int (i := 2)) (ea_cons (ev_int (i := 3)) (ea_cons (ev_int (i := 10)) (ea_cons (ev_int (i := 1000)) ea_nil))))))))) (ev_callC 1 (x := ⟨p0, (cL2 (rLst rInt) rInt), t41.2⟩) (x' := ⟨p0, (cL2 (rLst rInt) rInt), t48.2⟩) (ea_cons (ev_varR rfl) (ea_cons (ev_int (i := 6)) ea_nil)) rfl ⟨_, _, _, _, rfl, rfl, e49, rfl, rfl⟩ rfl) e51) ea_nil))) rfl ⟨0, _, rfl⟩ e53 fun B54 H54 x54 (w54 : Own K B54 M [⟨p11, (cLst (rT2 rInt rInt)), (s19.1 ++ [(x20, t50)])⟩, ⟨p0, (cL2 (rLst rInt) rInt), t48.2⟩] H54) => ?_
          replace e46 : some _ = some _ := e46
          cases e46
          exact ⟨_, (x47.trans x54), w54, rfl⟩
        rw [if_neg (by rw [hb44]; exact Bool.false_ne_true)] at e46
        replace e46 : some _ = some _ := e46
        cases e46
        exact ⟨_, x55, w55, rfl⟩
      rintro σ57' H56 ⟨B56, x56, w56, rfl⟩
      replace hb21 : some _ = some _ := hb21
      cases hb21
      exact hN34 _ _ _ x56 w56 ⟨_, rfl⟩
    rintro B59 H60 σ63 x61 w62 ⟨o64, rfl⟩
    replace w62 : Own K B59 M [⟨p11, (cLst (rT2 rInt rInt)), s58.1⟩, ⟨p0, (cL2 (rLst rInt) rInt), s58.2⟩] H60 := w62
    replace hm : some _ = some _ := hm
    obtain rfl := Option.some.inj hm
    exact q_ret w62 (ev_tupOfC (n := 0) (ev_varR rfl) rfl) fun v9 B9 H9 x9 w9 h9 => k _ _ _ (((x10.trans x14).trans x61).trans x9) w9.tail h9
noncomputable def m_l_choices (a0 : ((List Int) × Int)) (a1 : Int) (a2 : Int) : Option ((List (Int × (List (Int × Int)))) × ((List Int) × Int)) :=
  Option.bind (m_l_take a0 a2) fun t12 =>
  Option.bind (small62 (((1 : Int) + t12.1))) fun t14 =>
  Option.bind (foldO (S := ((List (Int × (List (Int × Int)))) × ((List Int) × Int))) (α := Int) (fun (s16 : ((List (Int × (List (Int × Int)))) × ((List Int) × Int))) (x17 : Int) => (
    Option.bind (m_l_take s16.2 ((5 : Int))) fun t36 =>
    Option.bind (ixL ([(0 : Int), (1 : Int), (2 : Int), (5 : Int), (1000 : Int)]) t36.1) fun t38 =>
    Option.bind (m_l_ends t36.2 a1) fun t40 =>
    Option.bind (room s16.1.length) fun t42 =>
    some (((s16.1 ++ [(t38, t40.1)]), t40.2))
  )) ((([] : List (Int × (List (Int × Int)))), t12.2)) ((rng 0 (((1 : Int) + t12.1))))) fun s45 =>
  some (s45.1, s45.2)
def C__law_choices : List Arg → List Cell → Arg → List Cell → Prop := fun as L r L' => ∃ a0 a1 a2 p0 c, as = [⟨rRef, p0⟩, ⟨rInt, a1⟩, ⟨rInt, a2⟩] ∧ L = [⟨p0, (cL2 (rLst rInt) rInt), a0⟩] ∧ m_l_choices a0 a1 a2 = some c ∧ r = ⟨(rTup (rT2 rInt (rTup (rT2 rInt rInt)))), c.1⟩ ∧ L' = [⟨p0, (cL2 (rLst rInt) rInt), c.2⟩]
theorem sc__law_choices : FnScope ["_law_state", "_law_many", "_law_most", "_law_choices_here", "_law_k"] ["_law_state", "_law_many", "_law_most"] (defScope s__law_choices) := ⟨rfl, rfl, rfl, by decide +kernel, rfl, by decide +kernel, by decide +kernel⟩
set_option maxHeartbeats 4000000 in
theorem ok__law_choices (F : FunC K "_law_choices" s__law_choices f fd cc) (c__law_take : Cl P w K mg base 2 "_law_take" (spV K T C__law_take) []) (c__law_ends : Cl P w K mg base 3 "_law_ends" (spV K T C__law_ends) []) (z_range : mg "range" = none) (z_tuple : mg "tuple" = none) : FnOk P w K mg base CX0 4 f fd ["_law_state", "_law_many", "_law_most"] (spV K T C__law_choices) := by
  refine F.ok sc__law_choices (fun vs H Q E h => ?_) (fun A outer s H vs Q E hr h => ?_)
  · obtain ⟨B, M, L, as, r, L', hT, w, ha, ⟨_, _, _, _, _, rfl, _⟩, k⟩ := h
    exact args_len ha
  · skip
    obtain ⟨B, M, L, as, r, L', rfl, w, ha, ⟨a0, a1, a2, p0, c, rfl, rfl, hm, rfl, rfl⟩, k⟩ := h
    obtain ⟨u0, u1, u2, rfl, f0, f1, f2⟩ := args3 ha
    replace f0 : u0 = V.ref p0 := f0
    subst f0
    replace f1 : (rInt).is K B u1 a1 := f1
    replace f2 : (rInt).is K B u2 a2 := f2
    unfold m_l_choices at hm
    refine ⟨_, (pss_cons (ps_set (i := 3) sc__law_choices.nd rfl (by first | exact Or.inl rfl | exact Or.inr rfl) (pe_lst pa_nil)) (pss_cons (ps_for PassesOwn.never rfl (pi_range1 rfl z_range (pa_cons (pe_op op_add pe_int (pe_c c__law_take hr (by omega) rfl (pa_cons (pv 0) (pa_cons (pv 2) pa_nil)))) pa_nil)) (pg_name (i := 4) sc__law_choices.nd rfl (by first | exact Or.inl rfl | exact Or.inr rfl)) (pss_cons (ps_expr (pe_bm PySem.F.plainAttrs_list PySem.F.slot_list_append PySem.F.type_list_append mt_append (pv 3) (pa_cons (pe_tup (pa_cons (pe_ix ix_seq (pe_lst (pa_cons pe_int (pa_cons pe_int (pa_cons pe_int (pa_cons pe_int (pa_cons pe_int pa_nil)))))) (pe_c c__law_take hr (by omega) rfl (pa_cons (pv 0) (pa_cons pe_int pa_nil))) (fun _ _ => rfl)) (pa_cons (pe_c c__law_ends hr (by omega) rfl (pa_cons (pv 0) (pa_cons (pv 1) pa_nil))) pa_nil))) pa_nil))) pss_nil)) (pss_cons (ps_ret (pe_callTy call_tuple_of rfl z_tuple bt_tuple (pa_cons (pv 3) pa_nil))) pss_nil))), ?_⟩
    rw [show start ["_law_state", "_law_many", "_law_most", "_law_choices_here", "_law_k"] [.ref p0, u1, u2] = ([some (.ref p0), some u1, some u2, none, none] : L2.St) from rfl]
    refine q_asgL (n := 3) w (el_lst (r := (rT2 rInt (rTup (rT2 rInt rInt)))) ([] : List (Int × (List (Int × Int)))) ea_nil) fun p11 B10 H10 x10 (w10 : Own K B10 M [⟨p11, (cLst (rT2 rInt (rTup (rT2 rInt rInt)))), ([] : List (Int × (List (Int × Int))))⟩, ⟨p0, (cL2 (rLst rInt) rInt), a0⟩] H10) => ?_
    obtain ⟨t12, e13, hm⟩ := bindS hm
    obtain ⟨t14, e15, hm⟩ := bindS hm
    obtain ⟨s45, e20, hm⟩ := bindS hm
    refine q_fold w10 (ei_rng1 (ea_cons (ev_add (ev_int (i := 1)) (ev_callC 1 (x := ⟨p0, (cL2 (rLst rInt) rInt), a0⟩) (x' := ⟨p0, (cL2 (rLst rInt) rInt), t12.2⟩) (ea_cons (ev_varR rfl) (ea_cons (ev_varI rfl f2) ea_nil)) rfl ⟨_, _, _, _, rfl, rfl, e13, rfl, rfl⟩ rfl)) ea_nil) e15) _ (fun s16 B21 σ34 => ∃ o35, σ34 = [some (.ref p0), some u1, some u2, some (.ref p11), o35]) (fun s16 => [⟨p11, (cLst (rT2 rInt (rTup (rT2 rInt rInt)))), s16.1⟩, ⟨p0, (cL2 (rLst rInt) rInt), s16.2⟩]) ((([] : List (Int × (List (Int × Int)))), t12.2)) e20 (fun B9 x9 => ⟨_, rfl⟩) rfl ?_ ?_
    · skip
      rintro s16 x17 s52 v27 B21 B22 H23 σ34 hb18 x24 ⟨o35, rfl⟩ x25 w26 h28 N29 K30 hN31
      replace w26 : Own K B22 M [⟨p11, (cLst (rT2 rInt (rTup (rT2 rInt rInt)))), s16.1⟩, ⟨p0, (cL2 (rLst rInt) rInt), s16.2⟩] H23 := w26
      refine g_name ?_
      obtain ⟨t36, e37, hb18⟩ := bindS hb18
      obtain ⟨t38, e39, hb18⟩ := bindS hb18
      obtain ⟨t40, e41, hb18⟩ := bindS hb18
      obtain ⟨t42, e43, hb18⟩ := bindS hb18
      refine q_app (n := 0) (m := 3) w26 rfl (ev_T2 (ea_cons (ev_ix (ev_seqL (ev_frz (el_lst (r := rInt) [(0 : Int), (1 : Int), (2 : Int), (5 : Int), (1000 : Int)] (ea_cons (ev_int (i := 0)) (ea_cons (ev_int (i := 1)) (ea_cons (ev_int (i := 2)) (ea_cons (ev_int (i := 5)) (ea_cons (ev_int (i := 1000)) ea_nil)))))))) (ev_callC 1 (x := ⟨p0, (cL2 (rLst rInt) rInt), s16.2⟩) (x' := ⟨p0, (cL2 (rLst rInt) rInt), t36.2⟩) (ea_cons (ev_varR rfl) (ea_cons (ev_int (i := 5)) ea_nil)) rfl ⟨_, _, _, _, rfl, rfl, e37, rfl, rfl⟩ rfl) e39) (ea_cons (ev_callC 1 (x := ⟨p0, (cL2 (rLst rInt) rInt), t36.2⟩) (x' := ⟨p0, (cL2 (rLst rInt) rInt), t40.2⟩) (ea_cons (ev_varR rfl) (ea_cons (ev_varI rfl f1) ea_nil)) rfl ⟨_, _, _, _, rfl, rfl, e41, rfl, rfl⟩ rfl) ea_nil))) rfl ⟨0, _, rfl⟩ e43 fun B44 H44 x44 (w44 : Own K B44 M [⟨p11, (cLst (rT2 rInt (rTup (rT2 rInt rInt)))), (s16.1 ++ [(t38, t40.1)])⟩, ⟨p0, (cL2 (rLst rInt) rInt), t40.2⟩] H44) => ?_
      replace hb18 : some _ = some _ := hb18
      cases hb18
      exact hN31 _ _ _ x44 w44 ⟨_, rfl⟩
    rintro B46 H47 σ50 x48 w49 ⟨o51, rfl⟩
    replace w49 : Own K B46 M [⟨p11, (cLst (rT2 rInt (rTup (rT2 rInt rInt)))), s45.1⟩, ⟨p0, (cL2 (rLst rInt) rInt), s45.2⟩] H47 := w49
    replace hm : some _ = some _ := hm
    obtain rfl := Option.some.inj hm
    exact q_ret w49 (ev_tupOfC (n := 0) (ev_varR rfl) rfl) fun v9 B9 H9 x9 w9 h9 => k _ _ _ ((x10.trans x48).trans x9) w9.tail h9
noncomputable def m_l_system (a0 : ((List Int) × Int)) (a1 : Int) : Option ((List (List (Int × (List (Int × Int))))) × ((List Int) × Int)) :=
  Option.bind (m_l_take a0 a1) fun t10 =>
  Option.bind (small62 (((1 : Int) + t10.1))) fun t15 =>
  Option.bind (room ((rng 0 (((1 : Int) + t10.1)))).length) fun t43 =>
  Option.bind (compM (S := ((List Int) × Int)) (β := (List (Int × (List (Int × Int))))) (fun (s17 : ((List Int) × Int)) (x24 : Int) => (Option.bind (m_l_choices s17 (((1 : Int) + t10.1)) ((3 : Int))) fun t41 => some (some t41.1, t41.2))) t10.2 ((rng 0 (((1 : Int) + t10.1))))) fun t45 =>
  some (t45.1, t45.2)
def C__law_system : List Arg → List Cell → Arg → List Cell → Prop := fun as L r L' => ∃ a0 a1 p0 c, as = [⟨rRef, p0⟩, ⟨rInt, a1⟩] ∧ L = [⟨p0, (cL2 (rLst rInt) rInt), a0⟩] ∧ m_l_system a0 a1 = some c ∧ r = ⟨(rTup (rTup (rT2 rInt (rTup (rT2 rInt rInt))))), c.1⟩ ∧ L' = [⟨p0, (cL2 (rLst rInt) rInt), c.2⟩]
theorem sc__law_system : FnScope ["_law_state", "_law_most", "_law_many", "_law_k"] ["_law_state", "_law_most"] (defScope s__law_system) := ⟨rfl, rfl, rfl, by decide +kernel, rfl, by decide +kernel, by decide +kernel⟩
set_option maxHeartbeats 4000000 in
theorem ok__law_system (F : FunC K "_law_system" s__law_system f fd cc) (c__law_take : Cl P w K mg base 2 "_law_take" (spV K T C__law_take) []) (c__law_choices : Cl P w K mg base 4 "_law_choices" (spV K T C__law_choices) []) (z_range : mg "range" = none) (z_tuple : mg "tuple" = none) : FnOk P w K mg base CX0 5 f fd ["_law_state", "_law_most"] (spV K T C__law_system) := by
  refine F.ok sc__law_system (fun vs H Q E h => ?_) (fun A outer s H vs Q E hr h => ?_)
  · obtain ⟨B, M, L, as, r, L', hT, w, ha, ⟨_, _, _, _, rfl, _⟩, k⟩ := h
    exact args_len ha
  · skip
    obtain ⟨B, M, L, as, r, L', rfl, w, ha, ⟨a0, a1, p0, c, rfl, rfl, hm, rfl, rfl⟩, k⟩ := h
    obtain ⟨u0, u1, rfl, f0, f1⟩ := args2 ha
    replace f0 : u0 = V.ref p0 := f0
    subst f0
    replace f1 : (rInt).is K B u1 a1 := f1
    unfold m_l_system at hm
    refine ⟨_, (pss_cons (ps_set (i := 2) sc__law_system.nd rfl (by first | exact Or.inl rfl | exact Or.inr rfl) (pe_op op_add pe_int (pe_c c__law_take hr (by omega) rfl (pa_cons (pv 0) (pa_cons (pv 1) pa_nil))))) (pss_cons (ps_ret (pe_callTy call_tuple_of rfl z_tuple bt_tuple (pa_cons (pe_lc rfl sc__law_system.nd (pi_range1 rfl z_range (pa_cons (pv 2) pa_nil)) (blkOk_by (own := [("_law_k", 3)]) (show blkC ["_law_state", "_law_most", "_law_many", "_law_k"] (defScope s__law_system) _ _ = true by decide +kernel)) (fun _ _ _ _ _ => (pg_name (i := 3) sc__law_system.nd rfl (by first | exact Or.inl rfl | exact Or.inr rfl))) (fun _ _ _ _ _ => pts_nil) (fun _ _ _ _ _ => (pe_c c__law_choices hr (by omega) rfl (pa_cons (pv 0) (pa_cons (pv 2) (pa_cons pe_int pa_nil)))))) pa_nil))) pss_nil)), ?_⟩
    rw [show start ["_law_state", "_law_most", "_law_many", "_law_k"] [.ref p0, u1] = ([some (.ref p0), some u1, none, none] : L2.St) from rfl]
    obtain ⟨t10, e11, hm⟩ := bindS hm
    refine q_asg (n := 2) w (ev_add (ev_int (i := 1)) (ev_callC 0 (x := ⟨p0, (cL2 (rLst rInt) rInt), a0⟩) (x' := ⟨p0, (cL2 (rLst rInt) rInt), t10.2⟩) (ea_cons (ev_varR rfl) (ea_cons (ev_varI rfl f1) ea_nil)) rfl ⟨_, _, _, _, rfl, rfl, e11, rfl, rfl⟩ rfl)) fun v13 B12 H12 x12 (w12 : Own K B12 M [⟨p0, (cL2 (rLst rInt) rInt), t10.2⟩] H12) h14 => ?_
    obtain ⟨t15, e16, hm⟩ := bindS hm
    obtain ⟨t43, e44, hm⟩ := bindS hm
    obtain ⟨t45, e46, hm⟩ := bindS hm
    replace hm : some _ = some _ := hm
    obtain rfl := Option.some.inj hm
    exact q_ret w12 (ev_tupOfL (ev_frz (el_lc (S := ((List Int) × Int)) (ys := t45.1) (s1 := t45.2) (s0 := t10.2) (σ' := [some (.ref p0), some u1, some v13, none]) (rTup (rT2 rInt (rTup (rT2 rInt rInt)))) (ei_rng1 (ea_cons (ev_varI rfl h14) ea_nil) e16) _ (fun (s17 : ((List Int) × Int)) => [⟨p0, (cL2 (rLst rInt) rInt), s17⟩]) rfl e46 e44 rfl (by rintro s17 x24 o29 s30 v22 D27 a28 B18 H19 hb26 x20 w21 h23 PY31 PN32 qY33 qN34; replace w21 : Own K B18 M [⟨D27, (cLst (rTup (rT2 rInt (rTup (rT2 rInt rInt))))), a28⟩, ⟨p0, (cL2 (rLst rInt) rInt), s17⟩] H19 := w21; refine g_name ?_; refine ⟨rfl, ?_⟩; obtain ⟨t41, e42, hb26⟩ := bindS hb26; obtain ⟨rfl, rfl⟩ := Prod.mk.inj (Option.some.inj hb26); refine lc_yes ?_; exact (ev_callC 1 (x := ⟨p0, (cL2 (rLst rInt) rInt), s17⟩) (x' := ⟨p0, (cL2 (rLst rInt) rInt), t41.2⟩) (ea_cons (ev_varR rfl) (ea_cons (ev_varI rfl h14) (ea_cons (ev_int (i := 3)) ea_nil))) rfl ⟨_, _, _, _, _, rfl, rfl, e42, rfl, rfl⟩ rfl) B18 H19 (Ex.refl _) w21 _ fun v35 B36 H37 x38 w39 h40 => qY33 v35 B36 H37 _ rfl x38 w39 h40)))) fun v9 B9 H9 x9 w9 h9 => k _ _ _ (x12.trans x9) w9 h9
noncomputable def m_l_some (a0 : ((List Int) × Int)) (a1 : Int) (a2 : Int) : Option ((List Int) × ((List Int) × Int)) :=
  Option.bind (small62 a1) fun t10 =>
  Option.bind (room ((rng 0 a1)).length) fun t43 =>
  Option.bind (compM (S := ((List Int) × Int)) (β := Int) (fun (s12 : ((List Int) × Int)) (x19 : Int) => (Option.bind (m_l_take s12 a2) fun t36 => if (decide (t36.1 = (0 : Int))) = true then ( some (some x19, t36.2)) else some (none, t36.2))) a0 ((rng 0 a1))) fun t45 =>
  Option.bind (m_l_take t45.2 ((2 : Int))) fun t50 =>
  Option.bind (if (decide (t50.1 = (0 : Int))) = true then
    some ((t45.1.reverse, t50.2))
  else
    some ((t45.1, t50.2))
  ) fun (s53 : ((List Int) × ((List Int) × Int))) =>
  some (s53.1, s53.2)
def C__law_some : List Arg → List Cell → Arg → List Cell → Prop := fun as L r L' => ∃ a0 a1 a2 p0 c, as = [⟨rRef, p0⟩, ⟨rInt, a1⟩, ⟨rInt, a2⟩] ∧ L = [⟨p0, (cL2 (rLst rInt) rInt), a0⟩] ∧ m_l_some a0 a1 a2 = some c ∧ r = ⟨(rLst rInt), c.1⟩ ∧ L' = [⟨p0, (cL2 (rLst rInt) rInt), c.2⟩]
theorem sc__law_some : FnScope ["_law_state", "_law_many", "_law_share", "_law_found", "_law_k"] ["_law_state", "_law_many", "_law_share"] (defScope s__law_some) := ⟨rfl, rfl, rfl, by decide +kernel, rfl, by decide +kernel, by decide +kernel⟩
set_option maxHeartbeats 4000000 in
theorem ok__law_some (F : FunC K "_law_some" s__law_some f fd cc) (c__law_take : Cl P w K mg base 2 "_law_take" (spV K T C__law_take) []) (z_range : mg "range" = none) : FnOk P w K mg base CX0 3 f fd ["_law_state", "_law_many", "_law_share"] (spV K T C__law_some) := by
  refine F.ok sc__law_some (fun vs H Q E h => ?_) (fun A outer s H vs Q E hr h => ?_)
  · obtain ⟨B, M, L, as, r, L', hT, w, ha, ⟨_, _, _, _, _, rfl, _⟩, k⟩ := h
    exact args_len ha
  · skip
    obtain ⟨B, M, L, as, r, L', rfl, w, ha, ⟨a0, a1, a2, p0, c, rfl, rfl, hm, rfl, rfl⟩, k⟩ := h
    obtain ⟨u0, u1, u2, rfl, f0, f1, f2⟩ := args3 ha
    replace f0 : u0 = V.ref p0 := f0
    subst f0
    replace f1 : (rInt).is K B u1 a1 := f1
    replace f2 : (rInt).is K B u2 a2 := f2
    unfold m_l_some at hm
    refine ⟨_, (pss_cons (ps_setLc (i := 3) rfl sc__law_some.nd rfl rfl rfl (pi_range1 rfl z_range (pa_cons (pv 1) pa_nil)) (blkOk_by (own := [("_law_k", 4)]) (show blkC ["_law_state", "_law_many", "_law_share", "_law_found", "_law_k"] (defScope s__law_some) _ _ = true by decide +kernel)) (fun _ _ _ _ _ => (pg_name (i := 4) sc__law_some.nd rfl (by first | exact Or.inl rfl | exact Or.inr rfl))) (fun _ _ _ _ _ => (pts_one (pt_cmpR op_eq (pe_c c__law_take hr (by omega) rfl (pa_cons (pv 0) (pa_cons (pv 2) pa_nil))) pe_int (nomark _)))) (fun _ _ _ _ _ => (pv 4))) (Evl.pss_cut (ps_if (pt_cmpR op_eq (pe_c c__law_take hr (by omega) rfl (pa_cons (pv 0) (pa_cons pe_int pa_nil))) pe_int (nomark _)) (pss_cons (ps_set (i := 3) sc__law_some.nd rfl (by first | exact Or.inl rfl | exact Or.inr rfl) (pe_revL (pv 3))) pss_nil) pss_nil) (pss_cons (ps_ret (pv 3)) pss_nil))), ?_⟩
    rw [show start ["_law_state", "_law_many", "_law_share", "_law_found", "_law_k"] [.ref p0, u1, u2] = ([some (.ref p0), some u1, some u2, none, none] : L2.St) from rfl]
    obtain ⟨t10, e11, hm⟩ := bindS hm
    obtain ⟨t43, e44, hm⟩ := bindS hm
    obtain ⟨t45, e46, hm⟩ := bindS hm
    refine q_asg (n := 3) w (ev_frz (el_lc (S := ((List Int) × Int)) (ys := t45.1) (s1 := t45.2) (s0 := a0) (σ' := [some (.ref p0), some u1, some u2, none, none]) rInt (ei_rng1 (ea_cons (ev_varI rfl f1) ea_nil) e11) _ (fun (s12 : ((List Int) × Int)) => [⟨p0, (cL2 (rLst rInt) rInt), s12⟩]) rfl e46 e44 rfl (by rintro s12 x19 o24 s25 v17 D22 a23 B13 H14 hb21 x15 w16 h18 PY26 PN27 qY28 qN29; replace w16 : Own K B13 M [⟨D22, (cLst rInt), a23⟩, ⟨p0, (cL2 (rLst rInt) rInt), s12⟩] H14 := w16; refine g_name ?_; refine ⟨rfl, ?_⟩; obtain ⟨t36, e37, hb21⟩ := bindS hb21; exact (et_test (ev_eqI (ev_callC 1 (x := ⟨p0, (cL2 (rLst rInt) rInt), s12⟩) (x' := ⟨p0, (cL2 (rLst rInt) rInt), t36.2⟩) (ea_cons (ev_varR rfl) (ea_cons (ev_varI rfl f2) ea_nil)) rfl ⟨_, _, _, _, rfl, rfl, e37, rfl, rfl⟩ rfl) (ev_int (i := 0)))) B13 H14 (Ex.refl _) w16 _ fun B38 H39 x40 (w41 : Own K B38 M [⟨D22, (cLst rInt), a23⟩, ⟨p0, (cL2 (rLst rInt) rInt), t36.2⟩] H39) => lc_if (fun hq42 => by rw [if_pos hq42] at hb21; obtain ⟨rfl, rfl⟩ := Prod.mk.inj (Option.some.inj hb21); exact (ev_varI rfl h18) B38 H39 (Ex.refl _) w41 _ fun v30 B31 H32 x33 w34 h35 => qY28 v30 B31 H32 _ rfl (x40.trans x33) w34 h35) (fun hq42 => by rw [if_neg (by rw [hq42]; exact Bool.false_ne_true)] at hb21; obtain ⟨rfl, rfl⟩ := Prod.mk.inj (Option.some.inj hb21); exact qN29 B38 H39 rfl x40 w41)))) fun v48 B47 H47 x47 (w47 : Own K B47 M [⟨p0, (cL2 (rLst rInt) rInt), t45.2⟩] H47) h49 => ?_
    obtain ⟨t50, e51, hm⟩ := bindS hm
    obtain ⟨s53, e54, hm⟩ := bindS hm
    refine q_cut (fun σ63 H60 => ∃ v61 B60, Ex B47 B60 ∧ Own K B60 M [⟨p0, (cL2 (rLst rInt) rInt), s53.2⟩] H60 ∧ σ63 = [some (.ref p0), some u1, some u2, some v61, none] ∧ ((rLst rInt)).is K B60 v61 s53.1) ?_ ?_
    · skip
      refine q_ifc w47 (et_test (ev_eqI (ev_callC 0 (x := ⟨p0, (cL2 (rLst rInt) rInt), t45.2⟩) (x' := ⟨p0, (cL2 (rLst rInt) rInt), t50.2⟩) (ea_cons (ev_varR rfl) (ea_cons (ev_int (i := 2)) ea_nil)) rfl ⟨_, _, _, _, rfl, rfl, e51, rfl, rfl⟩ rfl) (ev_int (i := 0)))) (fun hb52 B55 H55 x55 (w55 : Own K B55 M [⟨p0, (cL2 (rLst rInt) rInt), t50.2⟩] H55) => ?_) (fun hb52 B59 H59 x59 (w59 : Own K B59 M [⟨p0, (cL2 (rLst rInt) rInt), t50.2⟩] H59) => ?_)
      · skip
        rw [if_pos hb52] at e54
        refine q_asg (n := 3) w55 (ev_frz (el_revL (ev_var rfl (((rLst rInt)).mono x55 h49)))) fun v57 B56 H56 x56 (w56 : Own K B56 M [⟨p0, (cL2 (rLst rInt) rInt), t50.2⟩] H56) h58 => ?_
        replace e54 : some _ = some _ := e54
        cases e54
        exact ⟨v57, _, (x55.trans x56), w56, rfl, h58⟩
      rw [if_neg (by rw [hb52]; exact Bool.false_ne_true)] at e54
      replace e54 : some _ = some _ := e54
      cases e54
      exact ⟨v48, _, x59, w59, rfl, (((rLst rInt)).mono x59 h49)⟩
    rintro σ63' H60 ⟨v61, B60, x60, w60, rfl, h62⟩
    replace hm : some _ = some _ := hm
    obtain rfl := Option.some.inj hm
    exact q_ret w60 (ev_var rfl h62) fun v9 B9 H9 x9 w9 h9 => k _ _ _ ((x47.trans x60).trans x9) w9 h9
noncomputable def m_l_drawn_policy (a0 : ((List Int) × Int)) (a1 : (List (List (Int × (List (Int × Int)))))) : Option ((List Int) × ((List Int) × Int)) :=
  Option.bind (room a1.length) fun t36 =>
  Option.bind (compM (S := ((List Int) × Int)) (β := Int) (fun (s10 : ((List Int) × Int)) (x17 : (List (Int × (List (Int × Int))))) => (Option.bind (m_l_take s10 ((x17.length : Int))) fun t34 => some (some t34.1, t34.2))) a0 a1) fun t38 =>
  some (t38.1, t38.2)
def C__law_drawn_policy : List Arg → List Cell → Arg → List Cell → Prop := fun as L r L' => ∃ a0 a1 p0 c, as = [⟨rRef, p0⟩, ⟨(rTup (rTup (rT2 rInt (rTup (rT2 rInt rInt))))), a1⟩] ∧ L = [⟨p0, (cL2 (rLst rInt) rInt), a0⟩] ∧ m_l_drawn_policy a0 a1 = some c ∧ r = ⟨(rTup rInt), c.1⟩ ∧ L' = [⟨p0, (cL2 (rLst rInt) rInt), c.2⟩]
theorem sc__law_drawn_policy : FnScope ["_law_state", "_law_system_here", "_law_choices_here"] ["_law_state", "_law_system_here"] (defScope s__law_drawn_policy) := ⟨rfl, rfl, rfl, by decide +kernel, rfl, by decide +kernel, by decide +kernel⟩
set_option maxHeartbeats 4000000 in
theorem ok__law_drawn_policy (F : FunC K "_law_drawn_policy" s__law_drawn_policy f fd cc) (c__law_take : Cl P w K mg base 2 "_law_take" (spV K T C__law_take) []) (z_len : mg "len" = none) (z_tuple : mg "tuple" = none) : FnOk P w K mg base CX0 3 f fd ["_law_state", "_law_system_here"] (spV K T C__law_drawn_policy) := by
  refine F.ok sc__law_drawn_policy (fun vs H Q E h => ?_) (fun A outer s H vs Q E hr h => ?_)
  · obtain ⟨B, M, L, as, r, L', hT, w, ha, ⟨_, _, _, _, rfl, _⟩, k⟩ := h
    exact args_len ha
  · skip
    obtain ⟨B, M, L, as, r, L', rfl, w, ha, ⟨a0, a1, p0, c, rfl, rfl, hm, rfl, rfl⟩, k⟩ := h
    obtain ⟨u0, u1, rfl, f0, f1⟩ := args2 ha
    replace f0 : u0 = V.ref p0 := f0
    subst f0
    replace f1 : ((rTup (rTup (rT2 rInt (rTup (rT2 rInt rInt)))))).is K B u1 a1 := f1
    unfold m_l_drawn_policy at hm
    refine ⟨_, (pss_cons (ps_ret (pe_callTy call_tuple_of rfl z_tuple bt_tuple (pa_cons (pe_lc rfl sc__law_drawn_policy.nd (pi_tup (pv 1)) (blkOk_by (own := [("_law_choices_here", 2)]) (show blkC ["_law_state", "_law_system_here", "_law_choices_here"] (defScope s__law_drawn_policy) _ _ = true by decide +kernel)) (fun _ _ _ _ _ => (pg_name (i := 2) sc__law_drawn_policy.nd rfl (by first | exact Or.inl rfl | exact Or.inr rfl))) (fun _ _ _ _ _ => pts_nil) (fun _ _ _ _ _ => (pe_c c__law_take hr (by omega) rfl (pa_cons (pv 0) (pa_cons (pe_callB (show CallR _ _ (rLen K) from call_len_seq) rfl z_len bt_len (pa_cons (pv 2) pa_nil)) pa_nil))))) pa_nil))) pss_nil), ?_⟩
    rw [show start ["_law_state", "_law_system_here", "_law_choices_here"] [.ref p0, u1] = ([some (.ref p0), some u1, none] : L2.St) from rfl]
    obtain ⟨t36, e37, hm⟩ := bindS hm
    obtain ⟨t38, e39, hm⟩ := bindS hm
    replace hm : some _ = some _ := hm
    obtain rfl := Option.some.inj hm
    exact q_ret w (ev_tupOfL (ev_frz (el_lc (S := ((List Int) × Int)) (ys := t38.1) (s1 := t38.2) (s0 := a0) (σ' := [some (.ref p0), some u1, none]) rInt (ei_tup (ev_var rfl f1)) _ (fun (s10 : ((List Int) × Int)) => [⟨p0, (cL2 (rLst rInt) rInt), s10⟩]) rfl e39 e37 rfl (by rintro s10 x17 o22 s23 v15 D20 a21 B11 H12 hb19 x13 w14 h16 PY24 PN25 qY26 qN27; replace w14 : Own K B11 M [⟨D20, (cLst rInt), a21⟩, ⟨p0, (cL2 (rLst rInt) rInt), s10⟩] H12 := w14; refine g_name ?_; refine ⟨rfl, ?_⟩; obtain ⟨t34, e35, hb19⟩ := bindS hb19; obtain ⟨rfl, rfl⟩ := Prod.mk.inj (Option.some.inj hb19); refine lc_yes ?_; exact (ev_callC 1 (x := ⟨p0, (cL2 (rLst rInt) rInt), s10⟩) (x' := ⟨p0, (cL2 (rLst rInt) rInt), t34.2⟩) (ea_cons (ev_varR rfl) (ea_cons (ev_len (ev_seqT (ev_var rfl h16))) ea_nil)) rfl ⟨_, _, _, _, rfl, rfl, e35, rfl, rfl⟩ rfl) B11 H12 (Ex.refl _) w14 _ fun v28 B29 H30 x31 w32 h33 => qY26 v28 B29 H30 _ rfl x31 w32 h33)))) fun v9 B9 H9 x9 w9 h9 => k _ _ _ ((Ex.refl _).trans x9) w9 h9
noncomputable def m_l_all (a0 : (List (List (Int × (List (Int × Int)))))) (a1 : (List Int)) (a2 : (List Int)) : Option (List (List Int)) :=
  Option.bind (m_possible a0 a1 a2) fun t10 =>
  Option.bind (m_avoidable a0 a1 a2) fun t12 =>
  Option.bind (m_attainable a0 a1 a2) fun t17 =>
  Option.bind (m_certain a0 a1 a2) fun t19 =>
  Option.bind (catT ([t10, t12]) ([t17, t19])) fun t21 =>
  some t21
def C__law_all : List Arg → List Cell → Arg → List Cell → Prop := fun as L r L' => ∃ a0 a1 a2 c, as = [⟨(rTup (rTup (rT2 rInt (rTup (rT2 rInt rInt))))), a0⟩, ⟨(rLst rInt), a1⟩, ⟨(rLst rInt), a2⟩] ∧ L = [] ∧ m_l_all a0 a1 a2 = some c ∧ r = ⟨(rLst (rLst rInt)), c⟩ ∧ L' = []
theorem sc__law_all : FnScope ["_law_system_here", "_law_allowed", "_law_targets", "_law_found"] ["_law_system_here", "_law_allowed", "_law_targets"] (defScope s__law_all) := ⟨rfl, rfl, rfl, by decide +kernel, rfl, by decide +kernel, by decide +kernel⟩
set_option maxHeartbeats 4000000 in
theorem ok__law_all (F : FunC K "_law_all" s__law_all f fd cc) (c_possible : Cl P w K mg base 5 "possible" (spV K T C_possible) []) (c_avoidable : Cl P w K mg base 5 "avoidable" (spV K T C_avoidable) []) (c_attainable : Cl P w K mg base 6 "attainable" (spV K T C_attainable) []) (c_certain : Cl P w K mg base 5 "certain" (spV K T C_certain) []) : FnOk P w K mg base CX0 7 f fd ["_law_system_here", "_law_allowed", "_law_targets"] (spV K T C__law_all) := by
  refine F.ok sc__law_all (fun vs H Q E h => ?_) (fun A outer s H vs Q E hr h => ?_)
  · obtain ⟨B, M, L, as, r, L', hT, w, ha, ⟨_, _, _, _, rfl, _⟩, k⟩ := h
    exact args_len ha
  · skip
    obtain ⟨B, M, L, as, r, L', rfl, w, ha, ⟨a0, a1, a2, c, rfl, rfl, hm, rfl, rfl⟩, k⟩ := h
    obtain ⟨u0, u1, u2, rfl, f0, f1, f2⟩ := args3 ha
    replace f0 : ((rTup (rTup (rT2 rInt (rTup (rT2 rInt rInt)))))).is K B u0 a0 := f0
    replace f1 : ((rLst rInt)).is K B u1 a1 := f1
    replace f2 : ((rLst rInt)).is K B u2 a2 := f2
    unfold m_l_all at hm
    refine ⟨_, (pss_cons (ps_set (i := 3) sc__law_all.nd rfl (by first | exact Or.inl rfl | exact Or.inr rfl) (pe_lst (pa_cons (pe_c c_possible hr (by omega) rfl (pa_cons (pv 0) (pa_cons (pv 1) (pa_cons (pv 2) pa_nil)))) (pa_cons (pe_c c_avoidable hr (by omega) rfl (pa_cons (pv 0) (pa_cons (pv 1) (pa_cons (pv 2) pa_nil)))) pa_nil)))) (pss_cons (ps_ret (pe_op op_cat (pv 3) (pe_lst (pa_cons (pe_c c_attainable hr (by omega) rfl (pa_cons (pv 0) (pa_cons (pv 1) (pa_cons (pv 2) pa_nil)))) (pa_cons (pe_c c_certain hr (by omega) rfl (pa_cons (pv 0) (pa_cons (pv 1) (pa_cons (pv 2) pa_nil)))) pa_nil))))) pss_nil)), ?_⟩
    rw [show start ["_law_system_here", "_law_allowed", "_law_targets", "_law_found"] [u0, u1, u2] = ([some u0, some u1, some u2, none] : L2.St) from rfl]
    obtain ⟨t10, e11, hm⟩ := bindS hm
    obtain ⟨t12, e13, hm⟩ := bindS hm
    refine q_asg (n := 3) w (ev_frz (el_lst (r := (rLst rInt)) [t10, t12] (ea_cons (ev_call (ea_cons (ev_var rfl f0) (ea_cons (ev_var rfl f1) (ea_cons (ev_var rfl f2) ea_nil))) ⟨_, _, _, _, rfl, rfl, e11, rfl, rfl⟩) (ea_cons (ev_call (ea_cons (ev_var rfl f0) (ea_cons (ev_var rfl f1) (ea_cons (ev_var rfl f2) ea_nil))) ⟨_, _, _, _, rfl, rfl, e13, rfl, rfl⟩) ea_nil)))) fun v15 B14 H14 x14 (w14 : Own K B14 M [] H14) h16 => ?_
    obtain ⟨t17, e18, hm⟩ := bindS hm
    obtain ⟨t19, e20, hm⟩ := bindS hm
    obtain ⟨t21, e22, hm⟩ := bindS hm
    replace hm : some _ = some _ := hm
    obtain rfl := Option.some.inj hm
    exact q_ret w14 (ev_frz (el_cat (ev_var rfl h16) (ev_frz (el_lst (r := (rLst rInt)) [t17, t19] (ea_cons (ev_call (ea_cons (ev_var rfl (((rTup (rTup (rT2 rInt (rTup (rT2 rInt rInt)))))).mono x14 f0)) (ea_cons (ev_var rfl (((rLst rInt)).mono x14 f1)) (ea_cons (ev_var rfl (((rLst rInt)).mono x14 f2)) ea_nil))) ⟨_, _, _, _, rfl, rfl, e18, rfl, rfl⟩) (ea_cons (ev_call (ea_cons (ev_var rfl (((rTup (rTup (rT2 rInt (rTup (rT2 rInt rInt)))))).mono x14 f0)) (ea_cons (ev_var rfl (((rLst rInt)).mono x14 f1)) (ea_cons (ev_var rfl (((rLst rInt)).mono x14 f2)) ea_nil))) ⟨_, _, _, _, rfl, rfl, e20, rfl, rfl⟩) ea_nil)))) e22)) fun v9 B9 H9 x9 w9 h9 => k _ _ _ (x14.trans x9) w9 h9
noncomputable def m_l_in (a0 : (List Int)) (a1 : (List Int)) : Option Bool :=
  Option.bind (room a0.length) fun t39 =>
  Option.bind (compM (S := Unit) (β := Int) (fun (s10 : Unit) (x17 : Int) => ( if (!decide (x17 ∈ a1)) = true then ( some (some x17, ())) else some (none, ()))) (()) a0) fun t41 =>
  some (decide ((t41.1.length : Int) = (0 : Int)))
def C__law_in : List Arg → List Cell → Arg → List Cell → Prop := fun as L r L' => ∃ a0 a1 c, as = [⟨(rLst rInt), a0⟩, ⟨(rLst rInt), a1⟩] ∧ L = [] ∧ m_l_in a0 a1 = some c ∧ r = ⟨rBool, c⟩ ∧ L' = []
theorem sc__law_in : FnScope ["_law_one", "_law_other", "_law_k"] ["_law_one", "_law_other"] (defScope s__law_in) := ⟨rfl, rfl, rfl, by decide +kernel, rfl, by decide +kernel, by decide +kernel⟩
set_option maxHeartbeats 4000000 in
theorem ok__law_in (F : FunC K "_law_in" s__law_in f fd cc) (z_len : mg "len" = none) : FnOk P w K mg base CX0 1 f fd ["_law_one", "_law_other"] (spV K T C__law_in) := by
  refine F.ok sc__law_in (fun vs H Q E h => ?_) (fun A outer s H vs Q E hr h => ?_)
  · obtain ⟨B, M, L, as, r, L', hT, w, ha, ⟨_, _, _, rfl, _⟩, k⟩ := h
    exact args_len ha
  · skip
    obtain ⟨B, M, L, as, r, L', rfl, w, ha, ⟨a0, a1, c, rfl, rfl, hm, rfl, rfl⟩, k⟩ := h
    obtain ⟨u0, u1, rfl, f0, f1⟩ := args2 ha
    replace f0 : ((rLst rInt)).is K B u0 a0 := f0
    replace f1 : ((rLst rInt)).is K B u1 a1 := f1
    unfold m_l_in at hm
    refine ⟨_, (pss_cons (ps_ret (pe_cmpR op_eq (pe_callB call_len_seq rfl z_len bt_len (pa_cons (pe_lc rfl sc__law_in.nd (pi_list (pv 0)) (blkOk_by (own := [("_law_k", 2)]) (show blkC ["_law_one", "_law_other", "_law_k"] (defScope s__law_in) _ _ = true by decide +kernel)) (fun _ _ _ _ _ => (pg_name (i := 2) sc__law_in.nd rfl (by first | exact Or.inl rfl | exact Or.inr rfl))) (fun _ _ _ _ _ => (pts_one (pt_cmpR (show OpR _ _ (rIn K true) from op_notIn_seq) (pv 2) (pv 1) rfl))) (fun _ _ _ _ _ => (pv 2))) pa_nil)) pe_int (nomark _))) pss_nil), ?_⟩
    rw [show start ["_law_one", "_law_other", "_law_k"] [u0, u1] = ([some u0, some u1, none] : L2.St) from rfl]
    obtain ⟨t39, e40, hm⟩ := bindS hm
    obtain ⟨t41, e42, hm⟩ := bindS hm
    replace hm : some _ = some _ := hm
    obtain rfl := Option.some.inj hm
    exact q_ret w (ev_eqI (ev_len (ev_seqL (ev_frz (el_lc (S := Unit) (ys := t41.1) (s1 := t41.2) (s0 := ()) (σ' := [some u0, some u1, none]) rInt (ei_lst (ev_var rfl f0)) _ (fun (s10 : Unit) => []) rfl e42 e40 rfl (by rintro s10 x17 o22 s23 v15 D20 a21 B11 H12 hb19 x13 w14 h16 PY24 PN25 qY26 qN27; replace w14 : Own K B11 M [⟨D20, (cLst rInt), a21⟩] H12 := w14; refine g_name ?_; refine ⟨rfl, ?_⟩; exact (et_test (ev_niI (ev_varI rfl h16) (ev_seqL (ev_var rfl (((rLst rInt)).mono x13 f1))))) B11 H12 (Ex.refl _) w14 _ fun B34 H35 x36 (w37 : Own K B34 M [⟨D20, (cLst rInt), a21⟩] H35) => lc_if (fun hq38 => by rw [if_pos hq38] at hb19; obtain ⟨rfl, rfl⟩ := Prod.mk.inj (Option.some.inj hb19); exact (ev_varI rfl h16) B34 H35 (Ex.refl _) w37 _ fun v28 B29 H30 x31 w32 h33 => qY26 v28 B29 H30 _ rfl (x36.trans x31) w32 h33) (fun hq38 => by rw [if_neg (by rw [hq38]; exact Bool.false_ne_true)] at hb19; obtain ⟨rfl, rfl⟩ := Prod.mk.inj (Option.some.inj hb19); exact qN27 B34 H35 rfl x36 w37)))))) (ev_int (i := 0))) fun v9 B9 H9 x9 w9 h9 => k _ _ _ ((Ex.refl _).trans x9) w9 h9
noncomputable def m_l_ordered (a0 : Int) (a1 : (List (List Int))) : Option Bool :=
  Option.bind (un4 a1) fun t10 =>
  Option.bind (m_l_in t10.2.2.2 t10.2.2.1) fun t23 =>
  Option.bind ((if (!t23) = true then (some (true)) else (Option.bind (m_l_in t10.2.2.1 t10.1) fun t25 => some ((!t25))))) fun t27 =>
  if t27 = true then
    some false
  else
    Option.bind (small62 a0) fun t33 =>
    Option.bind (room ((rng 0 a0)).length) fun t64 =>
    Option.bind (compM (S := Unit) (β := Int) (fun (s35 : Unit) (x42 : Int) => ( if (!decide (x42 ∈ t10.1)) = true then ( some (some x42, ())) else some (none, ()))) (()) ((rng 0 a0))) fun t66 =>
    Option.bind (m_l_in t66.1 t10.2.1) fun t68 =>
    Option.bind ((if t68 = true then (Option.bind (room t10.2.2.2.length) fun t99 => Option.bind (compM (S := Unit) (β := Int) (fun (s70 : Unit) (x77 : Int) => ( if (decide (x77 ∈ t10.2.1)) = true then ( some (some x77, ())) else some (none, ()))) (()) t10.2.2.2) fun t101 => some ((decide ((t101.1.length : Int) = (0 : Int))))) else (some (false)))) fun t103 =>
    some t103
def C__law_ordered : List Arg → List Cell → Arg → List Cell → Prop := fun as L r L' => ∃ a0 a1 c, as = [⟨rInt, a0⟩, ⟨(rLst (rLst rInt)), a1⟩] ∧ L = [] ∧ m_l_ordered a0 a1 = some c ∧ r = ⟨rBool, c⟩ ∧ L' = []
theorem sc__law_ordered : FnScope ["_law_many", "_law_sets", "_law_some_here", "_law_none", "_law_one", "_law_every", "_law_k"] ["_law_many", "_law_sets"] (defScope s__law_ordered) := ⟨rfl, rfl, rfl, by decide +kernel, rfl, by decide +kernel, by decide +kernel⟩
set_option maxHeartbeats 4000000 in
theorem ok__law_ordered (F : FunC K "_law_ordered" s__law_ordered f fd cc) (c__law_in : Cl P w K mg base 1 "_law_in" (spV K T C__law_in) []) (z_range : mg "range" = none) (z_len : mg "len" = none) : FnOk P w K mg base CX0 2 f fd ["_law_many", "_law_sets"] (spV K T C__law_ordered) := by
  refine F.ok sc__law_ordered (fun vs H Q E h => ?_) (fun A outer s H vs Q E hr h => ?_)
  · obtain ⟨B, M, L, as, r, L', hT, w, ha, ⟨_, _, _, rfl, _⟩, k⟩ := h
    exact args_len ha
  · skip
    obtain ⟨B, M, L, as, r, L', rfl, w, ha, ⟨a0, a1, c, rfl, rfl, hm, rfl, rfl⟩, k⟩ := h
    obtain ⟨u0, u1, rfl, f0, f1⟩ := args2 ha
    replace f0 : (rInt).is K B u0 a0 := f0
    replace f1 : ((rLst (rLst rInt))).is K B u1 a1 := f1
    unfold m_l_ordered at hm
    refine ⟨_, (pss_cons (ps_asg (pv 1) (pg_unl rfl (pgs_cons (pg_name (i := 2) sc__law_ordered.nd rfl (by first | exact Or.inl rfl | exact Or.inr rfl)) (pgs_cons (pg_name (i := 3) sc__law_ordered.nd rfl (by first | exact Or.inl rfl | exact Or.inr rfl)) (pgs_cons (pg_name (i := 4) sc__law_ordered.nd rfl (by first | exact Or.inl rfl | exact Or.inr rfl)) (pgs_cons (pg_name (i := 5) sc__law_ordered.nd rfl (by first | exact Or.inl rfl | exact Or.inr rfl)) pgs_nil)))))) (pss_cons (ps_if (PW.pt (pw_or (pt_not (pt_val (pe_c c__law_in hr (by omega) rfl (pa_cons (pv 5) (pa_cons (pv 4) pa_nil))))) (pw_or1 (pt_not (pt_val (pe_c c__law_in hr (by omega) rfl (pa_cons (pv 4) (pa_cons (pv 2) pa_nil)))))))) (pss_cons (ps_ret pe_bl) pss_nil) pss_nil) (pss_cons (ps_ret (pe_and (pe_c c__law_in hr (by omega) rfl (pa_cons (pe_lc rfl sc__law_ordered.nd (pi_range1 rfl z_range (pa_cons (pv 0) pa_nil)) (blkOk_by (own := [("_law_k", 6)]) (show blkC ["_law_many", "_law_sets", "_law_some_here", "_law_none", "_law_one", "_law_every", "_law_k"] (defScope s__law_ordered) _ _ = true by decide +kernel)) (fun _ _ _ _ _ => (pg_name (i := 6) sc__law_ordered.nd rfl (by first | exact Or.inl rfl | exact Or.inr rfl))) (fun _ _ _ _ _ => (pts_one (pt_cmpR (show OpR _ _ (rIn K true) from op_notIn_seq) (pv 6) (pv 2) rfl))) (fun _ _ _ _ _ => (pv 6))) (pa_cons (pv 3) pa_nil))) (pe_one (pe_cmpR op_eq (pe_callB call_len_seq rfl z_len bt_len (pa_cons (pe_lc rfl sc__law_ordered.nd (pi_list (pv 5)) (blkOk_by (own := [("_law_k", 6)]) (show blkC ["_law_many", "_law_sets", "_law_some_here", "_law_none", "_law_one", "_law_every", "_law_k"] (defScope s__law_ordered) _ _ = true by decide +kernel)) (fun _ _ _ _ _ => (pg_name (i := 6) sc__law_ordered.nd rfl (by first | exact Or.inl rfl | exact Or.inr rfl))) (fun _ _ _ _ _ => (pts_one (pt_cmpR (show OpR _ _ (rIn K false) from op_in_seq) (pv 6) (pv 3) rfl))) (fun _ _ _ _ _ => (pv 6))) pa_nil)) pe_int (nomark _))))) pss_nil))), ?_⟩
    rw [show start ["_law_many", "_law_sets", "_law_some_here", "_law_none", "_law_one", "_law_every", "_law_k"] [u0, u1] = ([some u0, some u1, none, none, none, none, none] : L2.St) from rfl]
    obtain ⟨t10, e11, hm⟩ := bindS hm
    refine q_unp w (ev_var rfl f1) fun v13 B12 H12 x12 (w12 : Own K B12 M [] H12) h14 => ?_
    refine g_U4 h14 w12 e11 fun v15 v16 v17 v18 h19 h20 h21 h22 => ?_
    refine g_cons ?_
    refine g_name ?_
    refine g_cons ?_
    refine g_name ?_
    refine g_cons ?_
    refine g_name ?_
    refine g_cons ?_
    refine g_name ?_
    refine g_nil ?_
    obtain ⟨t23, e24, hm⟩ := bindS hm
    obtain ⟨t27, e28, hm⟩ := bindS hm
    refine q_if w12 (et_or' (d := t27) (et_not (et_B (ev_call (ea_cons (ev_var rfl h22) (ea_cons (ev_var rfl h21) ea_nil)) ⟨_, _, _, rfl, rfl, e24, rfl, rfl⟩))) (fun hb29 => by rw [if_neg (by rw [hb29]; exact Bool.false_ne_true)] at e28; obtain ⟨t25, e26, e28⟩ := bindS e28; obtain rfl := Option.some.inj e28; exact (et_not (et_B (ev_call (ea_cons (ev_var rfl h21) (ea_cons (ev_var rfl h19) ea_nil)) ⟨_, _, _, rfl, rfl, e26, rfl, rfl⟩)))) (fun hb29 => by rw [if_pos hb29] at e28; obtain rfl := Option.some.inj e28; exact ⟨rfl, rfl⟩)) (fun hb30 B31 H31 x31 (w31 : Own K B31 M [] H31) => ?_) (fun hb30 B32 H32 x32 (w32 : Own K B32 M [] H32) => ?_)
    · skip
      rw [if_pos hb30] at hm
      replace hm : some _ = some _ := hm
      obtain rfl := Option.some.inj hm
      exact q_ret w31 (ev_bl (b := false)) fun v9 B9 H9 x9 w9 h9 => k _ _ _ ((x12.trans x31).trans x9) w9 h9
    rw [if_neg (by rw [hb30]; exact Bool.false_ne_true)] at hm
    obtain ⟨t33, e34, hm⟩ := bindS hm
    obtain ⟨t64, e65, hm⟩ := bindS hm
    obtain ⟨t66, e67, hm⟩ := bindS hm
    obtain ⟨t68, e69, hm⟩ := bindS hm
    obtain ⟨t103, e104, hm⟩ := bindS hm
    replace hm : some _ = some _ := hm
    obtain rfl := Option.some.inj hm
    exact q_ret w32 (ev_andV (d := t103) (ev_call (ea_cons (ev_frz (el_lc (S := Unit) (ys := t66.1) (s1 := t66.2) (s0 := ()) (σ' := [some u0, some u1, some v15, some v16, some v17, some v18, none]) rInt (ei_rng1 (ea_cons (ev_varI rfl f0) ea_nil) e34) _ (fun (s35 : Unit) => []) rfl e67 e65 rfl (by rintro s35 x42 o47 s48 v40 D45 a46 B36 H37 hb44 x38 w39 h41 PY49 PN50 qY51 qN52; replace w39 : Own K B36 M [⟨D45, (cLst rInt), a46⟩] H37 := w39; refine g_name ?_; refine ⟨rfl, ?_⟩; exact (et_test (ev_niI (ev_varI rfl h41) (ev_seqL (ev_var rfl (((rLst rInt)).mono (x32.trans x38) h19))))) B36 H37 (Ex.refl _) w39 _ fun B59 H60 x61 (w62 : Own K B59 M [⟨D45, (cLst rInt), a46⟩] H60) => lc_if (fun hq63 => by rw [if_pos hq63] at hb44; obtain ⟨rfl, rfl⟩ := Prod.mk.inj (Option.some.inj hb44); exact (ev_varI rfl h41) B59 H60 (Ex.refl _) w62 _ fun v53 B54 H55 x56 w57 h58 => qY51 v53 B54 H55 _ rfl (x61.trans x56) w57 h58) (fun hq63 => by rw [if_neg (by rw [hq63]; exact Bool.false_ne_true)] at hb44; obtain ⟨rfl, rfl⟩ := Prod.mk.inj (Option.some.inj hb44); exact qN52 B59 H60 rfl x61 w62)))) (ea_cons (ev_var rfl (((rLst rInt)).mono x32 h20)) ea_nil)) ⟨_, _, _, rfl, rfl, e69, rfl, rfl⟩) (fun hb105 => by rw [if_pos hb105] at e104; obtain ⟨t99, e100, e104⟩ := bindS e104; obtain ⟨t101, e102, e104⟩ := bindS e104; obtain rfl := Option.some.inj e104; exact (ev_eqI (ev_len (ev_seqL (ev_frz (el_lc (S := Unit) (ys := t101.1) (s1 := t101.2) (s0 := ()) (σ' := [some u0, some u1, some v15, some v16, some v17, some v18, none]) rInt (ei_lst (ev_var rfl (((rLst rInt)).mono x32 h22))) _ (fun (s70 : Unit) => []) rfl e102 e100 rfl (by rintro s70 x77 o82 s83 v75 D80 a81 B71 H72 hb79 x73 w74 h76 PY84 PN85 qY86 qN87; replace w74 : Own K B71 M [⟨D80, (cLst rInt), a81⟩] H72 := w74; refine g_name ?_; refine ⟨rfl, ?_⟩; exact (et_test (ev_inI (ev_varI rfl h76) (ev_seqL (ev_var rfl (((rLst rInt)).mono (x32.trans x73) h20))))) B71 H72 (Ex.refl _) w74 _ fun B94 H95 x96 (w97 : Own K B94 M [⟨D80, (cLst rInt), a81⟩] H95) => lc_if (fun hq98 => by rw [if_pos hq98] at hb79; obtain ⟨rfl, rfl⟩ := Prod.mk.inj (Option.some.inj hb79); exact (ev_varI rfl h76) B94 H95 (Ex.refl _) w97 _ fun v88 B89 H90 x91 w92 h93 => qY86 v88 B89 H90 _ rfl (x96.trans x91) w92 h93) (fun hq98 => by rw [if_neg (by rw [hq98]; exact Bool.false_ne_true)] at hb79; obtain ⟨rfl, rfl⟩ := Prod.mk.inj (Option.some.inj hb79); exact qN87 B94 H95 rfl x96 w97)))))) (ev_int (i := 0)))) (fun hb105 => by rw [if_neg (by rw [hb105]; exact Bool.false_ne_true)] at e104; obtain rfl := Option.some.inj e104; exact ⟨rfl, rfl⟩)) fun v9 B9 H9 x9 w9 h9 => k _ _ _ ((x12.trans x32).trans x9) w9 h9
noncomputable def m_l_grows (a0 : (List (List Int))) (a1 : (List (List Int))) : Option Bool :=
  Option.bind (ixL a0 ((0 : Int))) fun t10 =>
  Option.bind (ixL a1 ((0 : Int))) fun t12 =>
  Option.bind (m_l_in t10 t12) fun t14 =>
  Option.bind ((if (!t14) = true then (some (true)) else (Option.bind (ixL a1 ((1 : Int))) fun t16 => Option.bind (ixL a0 ((1 : Int))) fun t18 => Option.bind (m_l_in t16 t18) fun t20 => some ((!t20))))) fun t22 =>
  if t22 = true then
    some false
  else
    Option.bind (ixL a0 ((2 : Int))) fun t28 =>
    Option.bind (ixL a1 ((2 : Int))) fun t30 =>
    Option.bind (m_l_in t28 t30) fun t32 =>
    Option.bind ((if t32 = true then (Option.bind (ixL a0 ((3 : Int))) fun t34 => Option.bind (ixL a1 ((3 : Int))) fun t36 => Option.bind (m_l_in t34 t36) fun t38 => some (t38)) else (some (false)))) fun t40 =>
    some t40
def C__law_grows : List Arg → List Cell → Arg → List Cell → Prop := fun as L r L' => ∃ a0 a1 c, as = [⟨(rLst (rLst rInt)), a0⟩, ⟨(rLst (rLst rInt)), a1⟩] ∧ L = [] ∧ m_l_grows a0 a1 = some c ∧ r = ⟨rBool, c⟩ ∧ L' = []
theorem sc__law_grows : FnScope ["_law_less", "_law_more"] ["_law_less", "_law_more"] (defScope s__law_grows) := ⟨rfl, rfl, rfl, by decide +kernel, rfl, by decide +kernel, by decide +kernel⟩
set_option maxHeartbeats 4000000 in
theorem ok__law_grows (F : FunC K "_law_grows" s__law_grows f fd cc) (c__law_in : Cl P w K mg base 1 "_law_in" (spV K T C__law_in) []) : FnOk P w K mg base CX0 2 f fd ["_law_less", "_law_more"] (spV K T C__law_grows) := by
  refine F.ok sc__law_grows (fun vs H Q E h => ?_) (fun A outer s H vs Q E hr h => ?_)
  · obtain ⟨B, M, L, as, r, L', hT, w, ha, ⟨_, _, _, rfl, _⟩, k⟩ := h
    exact args_len ha
  · skip
    obtain ⟨B, M, L, as, r, L', rfl, w, ha, ⟨a0, a1, c, rfl, rfl, hm, rfl, rfl⟩, k⟩ := h
    obtain ⟨u0, u1, rfl, f0, f1⟩ := args2 ha
    replace f0 : ((rLst (rLst rInt))).is K B u0 a0 := f0
    replace f1 : ((rLst (rLst rInt))).is K B u1 a1 := f1
    unfold m_l_grows at hm
    refine ⟨_, (pss_cons (ps_if (PW.pt (pw_or (pt_not (pt_val (pe_c c__law_in hr (by omega) rfl (pa_cons (pe_ix ix_seq (pv 0) pe_int (fun _ _ => rfl)) (pa_cons (pe_ix ix_seq (pv 1) pe_int (fun _ _ => rfl)) pa_nil))))) (pw_or1 (pt_not (pt_val (pe_c c__law_in hr (by omega) rfl (pa_cons (pe_ix ix_seq (pv 1) pe_int (fun _ _ => rfl)) (pa_cons (pe_ix ix_seq (pv 0) pe_int (fun _ _ => rfl)) pa_nil)))))))) (pss_cons (ps_ret pe_bl) pss_nil) pss_nil) (pss_cons (ps_ret (pe_and (pe_c c__law_in hr (by omega) rfl (pa_cons (pe_ix ix_seq (pv 0) pe_int (fun _ _ => rfl)) (pa_cons (pe_ix ix_seq (pv 1) pe_int (fun _ _ => rfl)) pa_nil))) (pe_one (pe_c c__law_in hr (by omega) rfl (pa_cons (pe_ix ix_seq (pv 0) pe_int (fun _ _ => rfl)) (pa_cons (pe_ix ix_seq (pv 1) pe_int (fun _ _ => rfl)) pa_nil)))))) pss_nil)), ?_⟩
    rw [show start ["_law_less", "_law_more"] [u0, u1] = ([some u0, some u1] : L2.St) from rfl]
    obtain ⟨t10, e11, hm⟩ := bindS hm
    obtain ⟨t12, e13, hm⟩ := bindS hm
    obtain ⟨t14, e15, hm⟩ := bindS hm
    obtain ⟨t22, e23, hm⟩ := bindS hm
    refine q_if w (et_or' (d := t22) (et_not (et_B (ev_call (ea_cons (ev_ix (ev_seqL (ev_var rfl f0)) (ev_int (i := 0)) e11) (ea_cons (ev_ix (ev_seqL (ev_var rfl f1)) (ev_int (i := 0)) e13) ea_nil)) ⟨_, _, _, rfl, rfl, e15, rfl, rfl⟩))) (fun hb24 => by rw [if_neg (by rw [hb24]; exact Bool.false_ne_true)] at e23; obtain ⟨t16, e17, e23⟩ := bindS e23; obtain ⟨t18, e19, e23⟩ := bindS e23; obtain ⟨t20, e21, e23⟩ := bindS e23; obtain rfl := Option.some.inj e23; exact (et_not (et_B (ev_call (ea_cons (ev_ix (ev_seqL (ev_var rfl f1)) (ev_int (i := 1)) e17) (ea_cons (ev_ix (ev_seqL (ev_var rfl f0)) (ev_int (i := 1)) e19) ea_nil)) ⟨_, _, _, rfl, rfl, e21, rfl, rfl⟩)))) (fun hb24 => by rw [if_pos hb24] at e23; obtain rfl := Option.some.inj e23; exact ⟨rfl, rfl⟩)) (fun hb25 B26 H26 x26 (w26 : Own K B26 M [] H26) => ?_) (fun hb25 B27 H27 x27 (w27 : Own K B27 M [] H27) => ?_)
    · skip
      rw [if_pos hb25] at hm
      replace hm : some _ = some _ := hm
      obtain rfl := Option.some.inj hm
      exact q_ret w26 (ev_bl (b := false)) fun v9 B9 H9 x9 w9 h9 => k _ _ _ (x26.trans x9) w9 h9
    rw [if_neg (by rw [hb25]; exact Bool.false_ne_true)] at hm
    obtain ⟨t28, e29, hm⟩ := bindS hm
    obtain ⟨t30, e31, hm⟩ := bindS hm
    obtain ⟨t32, e33, hm⟩ := bindS hm
    obtain ⟨t40, e41, hm⟩ := bindS hm
    replace hm : some _ = some _ := hm
    obtain rfl := Option.some.inj hm
    exact q_ret w27 (ev_andV (d := t40) (ev_call (ea_cons (ev_ix (ev_seqL (ev_var rfl (((rLst (rLst rInt))).mono x27 f0))) (ev_int (i := 2)) e29) (ea_cons (ev_ix (ev_seqL (ev_var rfl (((rLst (rLst rInt))).mono x27 f1))) (ev_int (i := 2)) e31) ea_nil)) ⟨_, _, _, rfl, rfl, e33, rfl, rfl⟩) (fun hb42 => by rw [if_pos hb42] at e41; obtain ⟨t34, e35, e41⟩ := bindS e41; obtain ⟨t36, e37, e41⟩ := bindS e41; obtain ⟨t38, e39, e41⟩ := bindS e41; obtain rfl := Option.some.inj e41; exact (ev_call (ea_cons (ev_ix (ev_seqL (ev_var rfl (((rLst (rLst rInt))).mono x27 f0))) (ev_int (i := 3)) e35) (ea_cons (ev_ix (ev_seqL (ev_var rfl (((rLst (rLst rInt))).mono x27 f1))) (ev_int (i := 3)) e37) ea_nil)) ⟨_, _, _, rfl, rfl, e39, rfl, rfl⟩)) (fun hb42 => by rw [if_neg (by rw [hb42]; exact Bool.false_ne_true)] at e41; obtain rfl := Option.some.inj e41; exact ⟨rfl, rfl⟩)) fun v9 B9 H9 x9 w9 h9 => k _ _ _ (x27.trans x9) w9 h9
noncomputable def m_l_large (a0 : ((List Int) × Int)) (a1 : Int) : Option ((List (List (Int × (List (Int × Int))))) × ((List Int) × Int)) :=
  Option.bind (small62 a1) fun t12 =>
  Option.bind (foldO (S := ((List (List (Int × (List (Int × Int))))) × ((List Int) × Int))) (α := Int) (fun (s14 : ((List (List (Int × (List (Int × Int))))) × ((List Int) × Int))) (x15 : Int) => (
    Option.bind (m_l_take s14.2 ((3 : Int))) fun t40 =>
    Option.bind (ixL ([(1 : Int), (2 : Int), (6 : Int)]) t40.1) fun t42 =>
    Option.bind (small62 t42) fun t44 =>
    Option.bind (foldO (S := ((List (Int × (List (Int × Int)))) × ((List Int) × Int))) (α := Int) (fun (s46 : ((List (Int × (List (Int × Int)))) × ((List Int) × Int))) (x47 : Int) => (
      Option.bind (m_l_take s46.2 ((6 : Int))) fun t70 =>
      Option.bind (small62 (((1 : Int) + t70.1))) fun t72 =>
      Option.bind (foldO (S := ((List (Int × Int)) × ((List Int) × Int))) (α := Int) (fun (s74 : ((List (Int × Int)) × ((List Int) × Int))) (x75 : Int) => (
        Option.bind (m_l_take s74.2 ((5 : Int))) fun t94 =>
        Option.bind (ixL ([(1 : Int), (1 : Int), (2 : Int), (5 : Int), (1000 : Int)]) t94.1) fun t96 =>
        Option.bind (m_l_take t94.2 a1) fun t98 =>
        Option.bind (room s74.1.length) fun t100 =>
        some (((putI s74.1 t98.1 t96), t98.2))
      )) (([], t70.2)) ((rng 0 (((1 : Int) + t70.1))))) fun s103 =>
      Option.bind (m_l_take s103.2 ((1001 : Int))) fun t110 =>
      Option.bind (room s46.1.length) fun t112 =>
      some (((s46.1 ++ [(t110.1, (sortI s103.1))]), t110.2))
    )) ((([] : List (Int × (List (Int × Int)))), t40.2)) ((rng 0 t42))) fun s116 =>
    Option.bind (room s14.1.length) fun t125 =>
    some (((s14.1 ++ [s116.1]), s116.2))
  )) ((([] : List (List (Int × (List (Int × Int))))), a0)) ((rng 0 a1))) fun s129 =>
  some (s129.1, s129.2)
def C__law_large : List Arg → List Cell → Arg → List Cell → Prop := fun as L r L' => ∃ a0 a1 p0 c, as = [⟨rRef, p0⟩, ⟨rInt, a1⟩] ∧ L = [⟨p0, (cL2 (rLst rInt) rInt), a0⟩] ∧ m_l_large a0 a1 = some c ∧ r = ⟨(rTup (rTup (rT2 rInt (rTup (rT2 rInt rInt))))), c.1⟩ ∧ L' = [⟨p0, (cL2 (rLst rInt) rInt), c.2⟩]
theorem sc__law_large : FnScope ["_law_state", "_law_many", "_law_system_here", "_law_k", "_law_choices_here", "_law_number", "_law_ends_here", "_law_j"] ["_law_state", "_law_many"] (defScope s__law_large) := ⟨rfl, rfl, rfl, by decide +kernel, rfl, by decide +kernel, by decide +kernel⟩
set_option maxHeartbeats 4000000 in
theorem ok__law_large (F : FunC K "_law_large" s__law_large f fd cc) (c__law_take : Cl P w K mg base 2 "_law_take" (spV K T C__law_take) []) (z_range : mg "range" = none) (z_sorted : mg "sorted" = none) (z_tuple : mg "tuple" = none) : FnOk P w K mg base CX0 3 f fd ["_law_state", "_law_many"] (spV K T C__law_large) := by
  refine F.ok sc__law_large (fun vs H Q E h => ?_) (fun A outer s H vs Q E hr h => ?_)
  · obtain ⟨B, M, L, as, r, L', hT, w, ha, ⟨_, _, _, _, rfl, _⟩, k⟩ := h
    exact args_len ha
  · skip
    obtain ⟨B, M, L, as, r, L', rfl, w, ha, ⟨a0, a1, p0, c, rfl, rfl, hm, rfl, rfl⟩, k⟩ := h
    obtain ⟨u0, u1, rfl, f0, f1⟩ := args2 ha
    replace f0 : u0 = V.ref p0 := f0
    subst f0
    replace f1 : (rInt).is K B u1 a1 := f1
    unfold m_l_large at hm
    refine ⟨_, (pss_cons (ps_set (i := 2) sc__law_large.nd rfl (by first | exact Or.inl rfl | exact Or.inr rfl) (pe_lst pa_nil)) (pss_cons (ps_for PassesOwn.never rfl (pi_range1 rfl z_range (pa_cons (pv 1) pa_nil)) (pg_name (i := 3) sc__law_large.nd rfl (by first | exact Or.inl rfl | exact Or.inr rfl)) (pss_cons (ps_set (i := 4) sc__law_large.nd rfl (by first | exact Or.inl rfl | exact Or.inr rfl) (pe_lst pa_nil)) (pss_cons (ps_for PassesOwn.never rfl (pi_range1 rfl z_range (pa_cons (pe_ix ix_seq (pe_lst (pa_cons pe_int (pa_cons pe_int (pa_cons pe_int pa_nil)))) (pe_c c__law_take hr (by omega) rfl (pa_cons (pv 0) (pa_cons pe_int pa_nil))) (fun _ _ => rfl)) pa_nil)) (pg_name (i := 5) sc__law_large.nd rfl (by first | exact Or.inl rfl | exact Or.inr rfl)) (pss_cons (ps_set (i := 6) sc__law_large.nd rfl (by first | exact Or.inl rfl | exact Or.inr rfl) pe_dnewK) (pss_cons (ps_for PassesOwn.never rfl (pi_range1 rfl z_range (pa_cons (pe_op op_add pe_int (pe_c c__law_take hr (by omega) rfl (pa_cons (pv 0) (pa_cons pe_int pa_nil)))) pa_nil)) (pg_name (i := 7) sc__law_large.nd rfl (by first | exact Or.inl rfl | exact Or.inr rfl)) (pss_cons (ps_asg (pe_ix ix_seq (pe_lst (pa_cons pe_int (pa_cons pe_int (pa_cons pe_int (pa_cons pe_int (pa_cons pe_int pa_nil)))))) (pe_c c__law_take hr (by omega) rfl (pa_cons (pv 0) (pa_cons pe_int pa_nil))) (fun _ _ => rfl)) (pg_sub (pv 6) (pe_c c__law_take hr (by omega) rfl (pa_cons (pv 0) (pa_cons (pv 1) pa_nil))) (set_dict (by have := room_hu hr; exact Nat.lt_of_le_of_lt (Nat.add_le_add_left (by decide) _) this)))) pss_nil)) (pss_cons (ps_expr (pe_bm PySem.F.plainAttrs_list PySem.F.slot_list_append PySem.F.type_list_append mt_append (pv 4) (pa_cons (pe_tup (pa_cons (pe_c c__law_take hr (by omega) rfl (pa_cons (pv 0) (pa_cons pe_int pa_nil))) (pa_cons (pe_callTy call_tuple_of rfl z_tuple bt_tuple (pa_cons (L3G.pe_sortI rfl (pv 6) rfl z_sorted bt_sorted) pa_nil)) pa_nil))) pa_nil))) pss_nil)))) (pss_cons (ps_expr (pe_bm PySem.F.plainAttrs_list PySem.F.slot_list_append PySem.F.type_list_append mt_append (pv 2) (pa_cons (pe_callTy call_tuple_of rfl z_tuple bt_tuple (pa_cons (pv 4) pa_nil)) pa_nil))) pss_nil)))) (pss_cons (ps_ret (pe_callTy call_tuple_of rfl z_tuple bt_tuple (pa_cons (pv 2) pa_nil))) pss_nil))), ?_⟩
    rw [show start ["_law_state", "_law_many", "_law_system_here", "_law_k", "_law_choices_here", "_law_number", "_law_ends_here", "_law_j"] [.ref p0, u1] = ([some (.ref p0), some u1, none, none, none, none, none, none] : L2.St) from rfl]
    refine q_asgL (n := 2) w (el_lst (r := (rTup (rT2 rInt (rTup (rT2 rInt rInt))))) ([] : List (List (Int × (List (Int × Int))))) ea_nil) fun p11 B10 H10 x10 (w10 : Own K B10 M [⟨p11, (cLst (rTup (rT2 rInt (rTup (rT2 rInt rInt))))), ([] : List (List (Int × (List (Int × Int)))))⟩, ⟨p0, (cL2 (rLst rInt) rInt), a0⟩] H10) => ?_
    obtain ⟨t12, e13, hm⟩ := bindS hm
    obtain ⟨s129, e18, hm⟩ := bindS hm
    refine q_fold w10 (ei_rng1 (ea_cons (ev_varI rfl f1) ea_nil) e13) _ (fun s14 B19 σ32 => ∃ o33 o34 o35 o36 o37, σ32 = [some (.ref p0), some u1, some (.ref p11), o33, o34, o35, o36, o37]) (fun s14 => [⟨p11, (cLst (rTup (rT2 rInt (rTup (rT2 rInt rInt))))), s14.1⟩, ⟨p0, (cL2 (rLst rInt) rInt), s14.2⟩]) ((([] : List (List (Int × (List (Int × Int))))), a0)) e18 (fun B9 x9 => ⟨_, _, _, _, _, rfl⟩) rfl ?_ ?_
    · skip
      rintro s14 x15 s140 v25 B19 B20 H21 σ32 hb16 x22 ⟨o33, o34, o35, o36, o37, rfl⟩ x23 w24 h26 N27 K28 hN29
      replace w24 : Own K B20 M [⟨p11, (cLst (rTup (rT2 rInt (rTup (rT2 rInt rInt))))), s14.1⟩, ⟨p0, (cL2 (rLst rInt) rInt), s14.2⟩] H21 := w24
      refine g_name ?_
      refine q_asgL (n := 4) w24 (el_lst (r := (rT2 rInt (rTup (rT2 rInt rInt)))) ([] : List (Int × (List (Int × Int)))) ea_nil) fun p39 B38 H38 x38 (w38 : Own K B38 M [⟨p39, (cLst (rT2 rInt (rTup (rT2 rInt rInt)))), ([] : List (Int × (List (Int × Int))))⟩, ⟨p11, (cLst (rTup (rT2 rInt (rTup (rT2 rInt rInt))))), s14.1⟩, ⟨p0, (cL2 (rLst rInt) rInt), s14.2⟩] H38) => ?_
      obtain ⟨t40, e41, hb16⟩ := bindS hb16
      obtain ⟨t42, e43, hb16⟩ := bindS hb16
      obtain ⟨t44, e45, hb16⟩ := bindS hb16
      obtain ⟨s116, e50, hb16⟩ := bindS hb16
      refine q_fold w38 (ei_rng1 (ea_cons (ev_ix (ev_seqL (ev_frz (el_lst (r := rInt) [(1 : Int), (2 : Int), (6 : Int)] (ea_cons (ev_int (i := 1)) (ea_cons (ev_int (i := 2)) (ea_cons (ev_int (i := 6)) ea_nil)))))) (ev_callC 2 (x := ⟨p0, (cL2 (rLst rInt) rInt), s14.2⟩) (x' := ⟨p0, (cL2 (rLst rInt) rInt), t40.2⟩) (ea_cons (ev_varR rfl) (ea_cons (ev_int (i := 3)) ea_nil)) rfl ⟨_, _, _, _, rfl, rfl, e41, rfl, rfl⟩ rfl) e43) ea_nil) e45) _ (fun s46 B51 σ64 => ∃ o65 o66 o67, σ64 = [some (.ref p0), some u1, some (.ref p11), some v25, some (.ref p39), o65, o66, o67]) (fun s46 => [⟨p39, (cLst (rT2 rInt (rTup (rT2 rInt rInt)))), s46.1⟩, ⟨p11, (cLst (rTup (rT2 rInt (rTup (rT2 rInt rInt))))), s14.1⟩, ⟨p0, (cL2 (rLst rInt) rInt), s46.2⟩]) ((([] : List (Int × (List (Int × Int)))), t40.2)) e50 (fun B9 x9 => ⟨_, _, _, rfl⟩) rfl ?_ ?_
      · skip
        rintro s46 x47 s128 v57 B51 B52 H53 σ64 hb48 x54 ⟨o65, o66, o67, rfl⟩ x55 w56 h58 N59 K60 hN61
        replace w56 : Own K B52 M [⟨p39, (cLst (rT2 rInt (rTup (rT2 rInt rInt)))), s46.1⟩, ⟨p11, (cLst (rTup (rT2 rInt (rTup (rT2 rInt rInt))))), s14.1⟩, ⟨p0, (cL2 (rLst rInt) rInt), s46.2⟩] H53 := w56
        refine g_name ?_
        refine q_asgD (n := 6) w56 fun p69 H68 (w68 : Own K B52 M [⟨p69, cDk, []⟩, ⟨p39, (cLst (rT2 rInt (rTup (rT2 rInt rInt)))), s46.1⟩, ⟨p11, (cLst (rTup (rT2 rInt (rTup (rT2 rInt rInt))))), s14.1⟩, ⟨p0, (cL2 (rLst rInt) rInt), s46.2⟩] H68) => ?_
        obtain ⟨t70, e71, hb48⟩ := bindS hb48
        obtain ⟨t72, e73, hb48⟩ := bindS hb48
        obtain ⟨s103, e78, hb48⟩ := bindS hb48
        refine q_fold w68 (ei_rng1 (ea_cons (ev_add (ev_int (i := 1)) (ev_callC 3 (x := ⟨p0, (cL2 (rLst rInt) rInt), s46.2⟩) (x' := ⟨p0, (cL2 (rLst rInt) rInt), t70.2⟩) (ea_cons (ev_varR rfl) (ea_cons (ev_int (i := 6)) ea_nil)) rfl ⟨_, _, _, _, rfl, rfl, e71, rfl, rfl⟩ rfl)) ea_nil) e73) _ (fun s74 B79 σ92 => ∃ o93, σ92 = [some (.ref p0), some u1, some (.ref p11), some v25, some (.ref p39), some v57, some (.ref p69), o93]) (fun s74 => [⟨p69, cDk, s74.1⟩, ⟨p39, (cLst (rT2 rInt (rTup (rT2 rInt rInt)))), s46.1⟩, ⟨p11, (cLst (rTup (rT2 rInt (rTup (rT2 rInt rInt))))), s14.1⟩, ⟨p0, (cL2 (rLst rInt) rInt), s74.2⟩]) (([], t70.2)) e78 (fun B9 x9 => ⟨_, rfl⟩) rfl ?_ ?_
        · skip
          rintro s74 x75 s115 v85 B79 B80 H81 σ92 hb76 x82 ⟨o93, rfl⟩ x83 w84 h86 N87 K88 hN89
          replace w84 : Own K B80 M [⟨p69, cDk, s74.1⟩, ⟨p39, (cLst (rT2 rInt (rTup (rT2 rInt rInt)))), s46.1⟩, ⟨p11, (cLst (rTup (rT2 rInt (rTup (rT2 rInt rInt))))), s14.1⟩, ⟨p0, (cL2 (rLst rInt) rInt), s74.2⟩] H81 := w84
          refine g_name ?_
          obtain ⟨t94, e95, hb76⟩ := bindS hb76
          obtain ⟨t96, e97, hb76⟩ := bindS hb76
          obtain ⟨t98, e99, hb76⟩ := bindS hb76
          obtain ⟨t100, e101, hb76⟩ := bindS hb76
          refine q_setD (n := 0) w84 (ev_ix (ev_seqL (ev_frz (el_lst (r := rInt) [(1 : Int), (1 : Int), (2 : Int), (5 : Int), (1000 : Int)] (ea_cons (ev_int (i := 1)) (ea_cons (ev_int (i := 1)) (ea_cons (ev_int (i := 2)) (ea_cons (ev_int (i := 5)) (ea_cons (ev_int (i := 1000)) ea_nil)))))))) (ev_callC 3 (x := ⟨p0, (cL2 (rLst rInt) rInt), s74.2⟩) (x' := ⟨p0, (cL2 (rLst rInt) rInt), t94.2⟩) (ea_cons (ev_varR rfl) (ea_cons (ev_int (i := 5)) ea_nil)) rfl ⟨_, _, _, _, rfl, rfl, e95, rfl, rfl⟩ rfl) e97) rfl (ev_callC 3 (x := ⟨p0, (cL2 (rLst rInt) rInt), t94.2⟩) (x' := ⟨p0, (cL2 (rLst rInt) rInt), t98.2⟩) (ea_cons (ev_varR rfl) (ea_cons (ev_varI rfl f1) ea_nil)) rfl ⟨_, _, _, _, rfl, rfl, e99, rfl, rfl⟩ rfl) rfl e101 fun B102 H102 x102 (w102 : Own K B102 M [⟨p69, cDk, (putI s74.1 t98.1 t96)⟩, ⟨p39, (cLst (rT2 rInt (rTup (rT2 rInt rInt)))), s46.1⟩, ⟨p11, (cLst (rTup (rT2 rInt (rTup (rT2 rInt rInt))))), s14.1⟩, ⟨p0, (cL2 (rLst rInt) rInt), t98.2⟩] H102) => ?_
          replace hb76 : some _ = some _ := hb76
          cases hb76
          exact hN89 _ _ _ x102 w102 ⟨_, rfl⟩
        rintro B104 H105 σ108 x106 w107 ⟨o109, rfl⟩
        replace w107 : Own K B104 M [⟨p69, cDk, s103.1⟩, ⟨p39, (cLst (rT2 rInt (rTup (rT2 rInt rInt)))), s46.1⟩, ⟨p11, (cLst (rTup (rT2 rInt (rTup (rT2 rInt rInt))))), s14.1⟩, ⟨p0, (cL2 (rLst rInt) rInt), s103.2⟩] H105 := w107
        obtain ⟨t110, e111, hb48⟩ := bindS hb48
        obtain ⟨t112, e113, hb48⟩ := bindS hb48
        refine q_app (n := 1) (m := 4) w107 rfl (ev_T2 (ea_cons (ev_callC 3 (x := ⟨p0, (cL2 (rLst rInt) rInt), s103.2⟩) (x' := ⟨p0, (cL2 (rLst rInt) rInt), t110.2⟩) (ea_cons (ev_varR rfl) (ea_cons (ev_int (i := 1001)) ea_nil)) rfl ⟨_, _, _, _, rfl, rfl, e111, rfl, rfl⟩ rfl) (ea_cons (ev_tupOfL (ev_frz (el_sortI (n := 0) rfl rfl))) ea_nil))) rfl ⟨1, _, rfl⟩ e113 fun B114 H114 x114 (w114 : Own K B114 M [⟨p69, cDk, s103.1⟩, ⟨p39, (cLst (rT2 rInt (rTup (rT2 rInt rInt)))), (s46.1 ++ [(t110.1, (sortI s103.1))])⟩, ⟨p11, (cLst (rTup (rT2 rInt (rTup (rT2 rInt rInt))))), s14.1⟩, ⟨p0, (cL2 (rLst rInt) rInt), t110.2⟩] H114) => ?_
        replace hb48 : some _ = some _ := hb48
        cases hb48
        exact hN61 _ _ _ (x106.trans x114) w114.tail ⟨_, _, _, rfl⟩
      rintro B117 H118 σ121 x119 w120 ⟨o122, o123, o124, rfl⟩
      replace w120 : Own K B117 M [⟨p39, (cLst (rT2 rInt (rTup (rT2 rInt rInt)))), s116.1⟩, ⟨p11, (cLst (rTup (rT2 rInt (rTup (rT2 rInt rInt))))), s14.1⟩, ⟨p0, (cL2 (rLst rInt) rInt), s116.2⟩] H118 := w120
      obtain ⟨t125, e126, hb16⟩ := bindS hb16
      refine q_app (n := 1) (m := 2) w120 rfl (ev_tupOfC (n := 0) (ev_varR rfl) rfl) rfl ⟨1, _, rfl⟩ e126 fun B127 H127 x127 (w127 : Own K B127 M [⟨p39, (cLst (rT2 rInt (rTup (rT2 rInt rInt)))), s116.1⟩, ⟨p11, (cLst (rTup (rT2 rInt (rTup (rT2 rInt rInt))))), (s14.1 ++ [s116.1])⟩, ⟨p0, (cL2 (rLst rInt) rInt), s116.2⟩] H127) => ?_
      replace hb16 : some _ = some _ := hb16
      cases hb16
      exact hN29 _ _ _ ((x38.trans x119).trans x127) w127.tail ⟨_, _, _, _, _, rfl⟩
    rintro B130 H131 σ134 x132 w133 ⟨o135, o136, o137, o138, o139, rfl⟩
    replace w133 : Own K B130 M [⟨p11, (cLst (rTup (rT2 rInt (rTup (rT2 rInt rInt))))), s129.1⟩, ⟨p0, (cL2 (rLst rInt) rInt), s129.2⟩] H131 := w133
    replace hm : some _ = some _ := hm
    obtain rfl := Option.some.inj hm
    exact q_ret w133 (ev_tupOfC (n := 0) (ev_varR rfl) rfl) fun v9 B9 H9 x9 w9 h9 => k _ _ _ ((x10.trans x132).trans x9) w9.tail h9
noncomputable def m_law (a0 : (List Int)) : Option Bool :=
  Option.bind (m_l_tape a0) fun t10 =>
  Option.bind (loopR (S := ((List Int) × Int)) (R := Bool) (α := Int) (fun (s14 : ((List Int) × Int)) (x15 : Int) => (
    Option.bind (m_l_system s14 ((7 : Int))) fun t45 =>
    Option.bind (m_l_take t45.2 ((8 : Int))) fun t50 =>
    Option.bind (if (decide (t50.1 = (0 : Int))) = true then
      Option.bind (m_l_take t50.2 ((13 : Int))) fun t56 =>
      Option.bind (m_l_large t56.2 (((8 : Int) + t56.1))) fun t58 =>
      some ((t58.1, t58.2))
    else
      some ((t45.1, t50.2))
    ) fun (s53 : ((List (List (Int × (List (Int × Int))))) × ((List Int) × Int))) =>
    Option.bind (m_l_some s53.2 ((s53.1.length : Int)) ((2 : Int))) fun t71 =>
    Option.bind (m_l_some t71.2 ((s53.1.length : Int)) ((4 : Int))) fun t76 =>
    Option.bind (m_l_take t76.2 ((2 : Int))) fun t81 =>
    Option.bind (if (decide (t81.1 = (0 : Int))) = true then
      Option.bind (rgO 0 ((s53.1.length : Int))) fun t87 =>
      some ((t87, t81.2))
    else
      some ((t71.1, t81.2))
    ) fun (s84 : ((List Int) × ((List Int) × Int))) =>
    Option.bind (m_l_all s53.1 s84.1 t76.1) fun t97 =>
    Option.bind (m_l_ordered ((s53.1.length : Int)) t97) fun t102 =>
    if (!t102) = true then
      some (Stp.rt false)
    else
      Option.bind (m_l_take s84.2 ((s53.1.length : Int))) fun t107 =>
      Option.bind (room t76.1.length) fun t141 =>
      Option.bind (compM (S := Unit) (β := Int) (fun (s112 : Unit) (x119 : Int) => ( if (!decide (x119 = t107.1)) = true then ( some (some x119, ())) else some (none, ()))) (()) t76.1) fun t143 =>
      Option.bind (catT t143.1 ([t107.1])) fun t145 =>
      Option.bind (m_l_all s53.1 s84.1 t145) fun t147 =>
      Option.bind (m_l_grows t97 t147) fun t149 =>
      if (!t149) = true then
        some (Stp.rt false)
      else
        Option.bind (room s84.1.length) fun t183 =>
        Option.bind (compM (S := Unit) (β := Int) (fun (s154 : Unit) (x161 : Int) => ( if (!decide (x161 = t107.1)) = true then ( some (some x161, ())) else some (none, ()))) (()) s84.1) fun t185 =>
        Option.bind (catT t185.1 ([t107.1])) fun t187 =>
        Option.bind (m_l_all s53.1 t187 t76.1) fun t189 =>
        Option.bind (m_l_grows t97 t189) fun t191 =>
        if (!t191) = true then
          some (Stp.rt false)
        else
          Option.bind (ixL s53.1 t107.1) fun t196 =>
          Option.bind (catT ((cutL s53.1 none (some t107.1))) ([(cutL t196 none (some ((1 : Int))))])) fun t198 =>
          Option.bind (catT t198 ((cutL s53.1 (some ((t107.1 + (1 : Int)))) none))) fun t200 =>
          Option.bind (m_l_all t200 s84.1 t76.1) fun t205 =>
          Option.bind (loopR (S := Unit) (R := Bool) (α := Int) (fun (s210 : Unit) (x211 : Int) => (
            Option.bind (ixL t205 x211) fun t230 =>
            Option.bind (ixL t97 x211) fun t232 =>
            Option.bind (m_l_in t230 t232) fun t234 =>
            if (!t234) = true then
              some (Stp.rt false)
            else
              some (Stp.nx (()))
          )) (()) ((rng 0 ((3 : Int))))) fun o213 =>
          match o213 with
          | .inl s239 =>
            Option.bind (ixL t97 ((3 : Int))) fun t246 =>
            Option.bind (ixL t205 ((3 : Int))) fun t248 =>
            Option.bind (m_l_in t246 t248) fun t250 =>
            if (!t250) = true then
              some (Stp.rt false)
            else
              Option.bind (m_l_drawn_policy t107.2 s53.1) fun t255 =>
              Option.bind (small62 ((s53.1.length : Int))) fun t260 =>
              Option.bind (room ((rng 0 ((s53.1.length : Int)))).length) fun t292 =>
              Option.bind (compM (S := Unit) (β := (List (Int × (List (Int × Int))))) (fun (s262 : Unit) (x269 : Int) => (Option.bind (ixL s53.1 x269) fun t286 => Option.bind (ixL t255.1 x269) fun t288 => Option.bind (ixL t286 t288) fun t290 => some (some ([t290]), ()))) (()) ((rng 0 ((s53.1.length : Int))))) fun t294 =>
              Option.bind (m_l_all t294.1 s84.1 t76.1) fun t299 =>
              Option.bind (ixL t299 ((2 : Int))) fun t304 =>
              Option.bind (ixL t299 ((3 : Int))) fun t306 =>
              Option.bind ((if (!decide (t304 = t306)) = true then (some (true)) else (Option.bind (ixL t299 ((0 : Int))) fun t308 => Option.bind (ixL t299 ((1 : Int))) fun t310 => Option.bind (catT t308 t310) fun t312 => Option.bind (rgO 0 ((s53.1.length : Int))) fun t314 => some ((!decide ((sortL t312) = t314)))))) fun t316 =>
              if t316 = true then
                some (Stp.rt false)
              else
                some (Stp.nx t255.2)
          | .inr q9 => some (Stp.rt q9)
  )) ((t10, (0 : Int))) ((rng 0 ((2 : Int))))) fun o17 =>
  match o17 with
  | .inl s323 =>
    some true
  | .inr q9 => some q9
def C_law : List Arg → List Cell → Arg → List Cell → Prop := fun as L r L' => ∃ a0 c, as = [⟨(rScr rInt), a0⟩] ∧ L = [] ∧ m_law a0 = some c ∧ r = ⟨rBool, c⟩ ∧ L' = []
theorem sc_law : FnScope ["_law_script", "_law_state", "_law_turn", "_law_system_here", "_law_many", "_law_allowed", "_law_targets", "_law_sets", "_law_more", "_law_fewer", "_law_other", "_law_k", "_law_policy", "_law_chain"] ["_law_script"] (defScope s_law) := ⟨rfl, rfl, rfl, by decide +kernel, rfl, by decide +kernel, by decide +kernel⟩
set_option maxHeartbeats 4000000 in
theorem ok_law (F : FunC K "law" s_law f fd cc) (c__law_tape : Cl P w K mg base 1 "_law_tape" (spV K T C__law_tape) []) (c__law_system : Cl P w K mg base 5 "_law_system" (spV K T C__law_system) []) (c__law_take : Cl P w K mg base 2 "_law_take" (spV K T C__law_take) []) (c__law_large : Cl P w K mg base 3 "_law_large" (spV K T C__law_large) []) (c__law_some : Cl P w K mg base 3 "_law_some" (spV K T C__law_some) []) (c__law_all : Cl P w K mg base 7 "_law_all" (spV K T C__law_all) []) (c__law_ordered : Cl P w K mg base 2 "_law_ordered" (spV K T C__law_ordered) []) (c__law_grows : Cl P w K mg base 2 "_law_grows" (spV K T C__law_grows) []) (c__law_in : Cl P w K mg base 1 "_law_in" (spV K T C__law_in) []) (c__law_drawn_policy : Cl P w K mg base 3 "_law_drawn_policy" (spV K T C__law_drawn_policy) []) (z_range : mg "range" = none) (z_len : mg "len" = none) (z_list : mg "list" = none) (z_tuple : mg "tuple" = none) (z_sorted : mg "sorted" = none) : FnOk P w K mg base CX0 8 f fd ["_law_script"] (spV K T C_law) := by
  refine F.ok sc_law (fun vs H Q E h => ?_) (fun A outer s H vs Q E hr h => ?_)
  · obtain ⟨B, M, L, as, r, L', hT, w, ha, ⟨_, _, rfl, _⟩, k⟩ := h
    exact args_len ha
  · skip
    obtain ⟨B, M, L, as, r, L', rfl, w, ha, ⟨a0, c, rfl, rfl, hm, rfl, rfl⟩, k⟩ := h
    obtain ⟨u0, rfl, f0⟩ := args1 ha
    replace f0 : ((rScr rInt)).is K B u0 a0 := f0
    have hu := room_hu hr
    unfold m_law at hm
    refine ⟨_, (pss_cons (ps_set (i := 1) sc_law.nd rfl (by first | exact Or.inl rfl | exact Or.inr rfl) (pe_lst (pa_cons (pe_c c__law_tape hr (by omega) rfl (pa_cons (pv 0) pa_nil)) (pa_cons pe_int pa_nil)))) (pss_cons (ps_for PassesOwn.never rfl (pi_range1 rfl z_range (pa_cons pe_int pa_nil)) (pg_name (i := 2) sc_law.nd rfl (by first | exact Or.inl rfl | exact Or.inr rfl)) (pss_cons (ps_set (i := 3) sc_law.nd rfl (by first | exact Or.inl rfl | exact Or.inr rfl) (pe_c c__law_system hr (by omega) rfl (pa_cons (pv 1) (pa_cons pe_int pa_nil)))) (Evl.pss_cut (ps_if (pt_cmpR op_eq (pe_c c__law_take hr (by omega) rfl (pa_cons (pv 1) (pa_cons pe_int pa_nil))) pe_int (nomark _)) (pss_cons (ps_set (i := 3) sc_law.nd rfl (by first | exact Or.inl rfl | exact Or.inr rfl) (pe_c c__law_large hr (by omega) rfl (pa_cons (pv 1) (pa_cons (pe_op op_add pe_int (pe_c c__law_take hr (by omega) rfl (pa_cons (pv 1) (pa_cons pe_int pa_nil)))) pa_nil)))) pss_nil) pss_nil) (pss_cons (ps_set (i := 4) sc_law.nd rfl (by first | exact Or.inl rfl | exact Or.inr rfl) (pe_callB call_len_seq rfl z_len bt_len (pa_cons (pv 3) pa_nil))) (pss_cons (ps_set (i := 5) sc_law.nd rfl (by first | exact Or.inl rfl | exact Or.inr rfl) (pe_c c__law_some hr (by omega) rfl (pa_cons (pv 1) (pa_cons (pv 4) (pa_cons pe_int pa_nil))))) (pss_cons (ps_set (i := 6) sc_law.nd rfl (by first | exact Or.inl rfl | exact Or.inr rfl) (pe_c c__law_some hr (by omega) rfl (pa_cons (pv 1) (pa_cons (pv 4) (pa_cons pe_int pa_nil))))) (Evl.pss_cut (ps_if (pt_cmpR op_eq (pe_c c__law_take hr (by omega) rfl (pa_cons (pv 1) (pa_cons pe_int pa_nil))) pe_int (nomark _)) (pss_cons (ps_set (i := 5) sc_law.nd rfl (by first | exact Or.inl rfl | exact Or.inr rfl) (pe_listRg rfl rfl z_list (prg_1 rfl z_range (pv 4)))) pss_nil) pss_nil) (pss_cons (ps_set (i := 7) sc_law.nd rfl (by first | exact Or.inl rfl | exact Or.inr rfl) (pe_c c__law_all hr (by omega) rfl (pa_cons (pv 3) (pa_cons (pv 5) (pa_cons (pv 6) pa_nil))))) (pss_cons (ps_if (pt_not (pt_val (pe_c c__law_ordered hr (by omega) rfl (pa_cons (pv 4) (pa_cons (pv 7) pa_nil))))) (pss_cons (ps_ret pe_bl) pss_nil) pss_nil) (pss_cons (ps_set (i := 8) sc_law.nd rfl (by first | exact Or.inl rfl | exact Or.inr rfl) (pe_c c__law_take hr (by omega) rfl (pa_cons (pv 1) (pa_cons (pv 4) pa_nil)))) (pss_cons (ps_if (pt_not (pt_val (pe_c c__law_grows hr (by omega) rfl (pa_cons (pv 7) (pa_cons (pe_c c__law_all hr (by omega) rfl (pa_cons (pv 3) (pa_cons (pv 5) (pa_cons (pe_op op_cat (pe_lc rfl sc_law.nd (pi_list (pv 6)) (blkOk_by (own := [("_law_k", 11)]) (show blkC ["_law_script", "_law_state", "_law_turn", "_law_system_here", "_law_many", "_law_allowed", "_law_targets", "_law_sets", "_law_more", "_law_fewer", "_law_other", "_law_k", "_law_policy", "_law_chain"] (defScope s_law) _ _ = true by decide +kernel)) (fun _ _ _ _ _ => (pg_name (i := 11) sc_law.nd rfl (by first | exact Or.inl rfl | exact Or.inr rfl))) (fun _ _ _ _ _ => (pts_one (pt_cmpR op_ne (pv 11) (pv 8) (nomark _)))) (fun _ _ _ _ _ => (pv 11))) (pe_lst (pa_cons (pv 8) pa_nil))) pa_nil)))) pa_nil))))) (pss_cons (ps_ret pe_bl) pss_nil) pss_nil) (pss_cons (ps_if (pt_not (pt_val (pe_c c__law_grows hr (by omega) rfl (pa_cons (pv 7) (pa_cons (pe_c c__law_all hr (by omega) rfl (pa_cons (pv 3) (pa_cons (pe_op op_cat (pe_lc rfl sc_law.nd (pi_list (pv 5)) (blkOk_by (own := [("_law_k", 11)]) (show blkC ["_law_script", "_law_state", "_law_turn", "_law_system_here", "_law_many", "_law_allowed", "_law_targets", "_law_sets", "_law_more", "_law_fewer", "_law_other", "_law_k", "_law_policy", "_law_chain"] (defScope s_law) _ _ = true by decide +kernel)) (fun _ _ _ _ _ => (pg_name (i := 11) sc_law.nd rfl (by first | exact Or.inl rfl | exact Or.inr rfl))) (fun _ _ _ _ _ => (pts_one (pt_cmpR op_ne (pv 11) (pv 8) (nomark _)))) (fun _ _ _ _ _ => (pv 11))) (pe_lst (pa_cons (pv 8) pa_nil))) (pa_cons (pv 6) pa_nil)))) pa_nil))))) (pss_cons (ps_ret pe_bl) pss_nil) pss_nil) (pss_cons (ps_set (i := 9) sc_law.nd rfl (by first | exact Or.inl rfl | exact Or.inr rfl) (pe_op op_catA (pe_op op_catA (pe_slice sl_tupA (pv 3) po_none (po_some (pv 8))) (pe_tup (pa_cons (pe_slice sl_tupA (pe_ix ix_seq (pv 3) (pv 8) (fun _ _ => rfl)) po_none (po_some pe_int)) pa_nil))) (pe_slice sl_tupA (pv 3) (po_some (pe_op op_add (pv 8) pe_int)) po_none))) (pss_cons (ps_set (i := 10) sc_law.nd rfl (by first | exact Or.inl rfl | exact Or.inr rfl) (pe_c c__law_all hr (by omega) rfl (pa_cons (pv 9) (pa_cons (pv 5) (pa_cons (pv 6) pa_nil))))) (pss_cons (ps_for PassesOwn.never rfl (pi_range1 rfl z_range (pa_cons pe_int pa_nil)) (pg_name (i := 11) sc_law.nd rfl (by first | exact Or.inl rfl | exact Or.inr rfl)) (pss_cons (ps_if (pt_not (pt_val (pe_c c__law_in hr (by omega) rfl (pa_cons (pe_ix ix_seq (pv 10) (pv 11) (fun _ _ => rfl)) (pa_cons (pe_ix ix_seq (pv 7) (pv 11) (fun _ _ => rfl)) pa_nil))))) (pss_cons (ps_ret pe_bl) pss_nil) pss_nil) pss_nil)) (pss_cons (ps_if (pt_not (pt_val (pe_c c__law_in hr (by omega) rfl (pa_cons (pe_ix ix_seq (pv 7) pe_int (fun _ _ => rfl)) (pa_cons (pe_ix ix_seq (pv 10) pe_int (fun _ _ => rfl)) pa_nil))))) (pss_cons (ps_ret pe_bl) pss_nil) pss_nil) (pss_cons (ps_set (i := 12) sc_law.nd rfl (by first | exact Or.inl rfl | exact Or.inr rfl) (pe_c c__law_drawn_policy hr (by omega) rfl (pa_cons (pv 1) (pa_cons (pv 3) pa_nil)))) (pss_cons (ps_set (i := 13) sc_law.nd rfl (by first | exact Or.inl rfl | exact Or.inr rfl) (pe_callTy call_tuple_of rfl z_tuple bt_tuple (pa_cons (pe_lc rfl sc_law.nd (pi_range1 rfl z_range (pa_cons (pv 4) pa_nil)) (blkOk_by (own := [("_law_k", 11)]) (show blkC ["_law_script", "_law_state", "_law_turn", "_law_system_here", "_law_many", "_law_allowed", "_law_targets", "_law_sets", "_law_more", "_law_fewer", "_law_other", "_law_k", "_law_policy", "_law_chain"] (defScope s_law) _ _ = true by decide +kernel)) (fun _ _ _ _ _ => (pg_name (i := 11) sc_law.nd rfl (by first | exact Or.inl rfl | exact Or.inr rfl))) (fun _ _ _ _ _ => pts_nil) (fun _ _ _ _ _ => (pe_tup (pa_cons (pe_ix (show IxR _ (rIx K) from ix_seq) (pe_ix (show IxR _ (rIx K) from ix_seq) (pv 3) (pv 11) (fun _ _ => rfl)) (pe_ix (show IxR _ (rIx K) from ix_seq) (pv 12) (pv 11) (fun _ _ => rfl)) (fun _ _ => rfl)) pa_nil)))) pa_nil))) (pss_cons (ps_set (i := 7) sc_law.nd rfl (by first | exact Or.inl rfl | exact Or.inr rfl) (pe_c c__law_all hr (by omega) rfl (pa_cons (pv 13) (pa_cons (pv 5) (pa_cons (pv 6) pa_nil))))) (pss_cons (ps_if (PW.pt (pw_or (pt_cmpR (op_neD hu) (pe_ix ix_seq (pv 7) pe_int (fun _ _ => rfl)) (pe_ix ix_seq (pv 7) pe_int (fun _ _ => rfl)) (nomark _)) (pw_or1 (pt_cmpR (op_neD hu) (pe_callB cr_sortedI rfl z_sorted bt_sorted (pa_cons (pe_op op_cat (pe_ix ix_seq (pv 7) pe_int (fun _ _ => rfl)) (pe_ix ix_seq (pv 7) pe_int (fun _ _ => rfl))) pa_nil)) (pe_listRg rfl rfl z_list (prg_1 rfl z_range (pv 4))) (nomark _))))) (pss_cons (ps_ret pe_bl) pss_nil) pss_nil) pss_nil)))))))))))))))))))) (pss_cons (ps_ret pe_bl) pss_nil))), ?_⟩
    rw [show start ["_law_script", "_law_state", "_law_turn", "_law_system_here", "_law_many", "_law_allowed", "_law_targets", "_law_sets", "_law_more", "_law_fewer", "_law_other", "_law_k", "_law_policy", "_law_chain"] [u0] = ([some u0, none, none, none, none, none, none, none, none, none, none, none, none, none] : L2.St) from rfl]
    obtain ⟨t10, e11, hm⟩ := bindS hm
    refine q_asgL2 (n := 1) (r := (rLst rInt)) (s := rInt) w (ea_cons (ev_call (ea_cons (ev_var rfl f0) ea_nil) ⟨_, _, rfl, rfl, e11, rfl, rfl⟩) (ea_cons (ev_int (i := 0)) ea_nil)) fun p13 B12 H12 x12 (w12 : Own K B12 M [⟨p13, (cL2 (rLst rInt) rInt), (t10, (0 : Int))⟩] H12) => ?_
    obtain ⟨o17, e18, hm⟩ := bindS hm
    refine q_forR w12 (ei_rng1 (ea_cons (ev_int (i := 2)) ea_nil) (by decide)) _ (fun s14 B19 σ32 => ∃ o33 o34 o35 o36 o37 o38 o39 o40 o41 o42 o43 o44, σ32 = [some u0, some (.ref p13), o33, o34, o35, o36, o37, o38, o39, o40, o41, o42, o43, o44]) (fun s14 => [⟨p13, (cL2 (rLst rInt) rInt), s14⟩]) ((t10, (0 : Int))) e18 (fun B9 x9 => ⟨_, _, _, _, _, _, _, _, _, _, _, _, rfl⟩) rfl ?_ ?_
    · skip
      rintro s14 x15 s341 v25 B19 B20 H21 σ32 hb16 x22 ⟨o33, o34, o35, o36, o37, o38, o39, o40, o41, o42, o43, o44, rfl⟩ x23 w24 h26 ho31 N27 K28 hN29 hB30
      replace w24 : Own K B20 M [⟨p13, (cL2 (rLst rInt) rInt), s14⟩] H21 := w24
      refine g_name ?_
      obtain ⟨t45, e46, hb16⟩ := bindS hb16
      refine q_asg (n := 3) w24 (ev_callC 0 (x := ⟨p13, (cL2 (rLst rInt) rInt), s14⟩) (x' := ⟨p13, (cL2 (rLst rInt) rInt), t45.2⟩) (ea_cons (ev_varR rfl) (ea_cons (ev_int (i := 7)) ea_nil)) rfl ⟨_, _, _, _, rfl, rfl, e46, rfl, rfl⟩ rfl) fun v48 B47 H47 x47 (w47 : Own K B47 M [⟨p13, (cL2 (rLst rInt) rInt), t45.2⟩] H47) h49 => ?_
      obtain ⟨t50, e51, hb16⟩ := bindS hb16
      obtain ⟨s53, e54, hb16⟩ := bindS hb16
      refine q_cut (fun σ67 H64 => ∃ v65 B64, Ex B47 B64 ∧ Own K B64 M [⟨p13, (cL2 (rLst rInt) rInt), s53.2⟩] H64 ∧ σ67 = [some u0, some (.ref p13), some v25, some v65, o35, o36, o37, o38, o39, o40, o41, o42, o43, o44] ∧ ((rTup (rTup (rT2 rInt (rTup (rT2 rInt rInt)))))).is K B64 v65 s53.1) ?_ ?_
      · skip
        refine q_ifc w47 (et_test (ev_eqI (ev_callC 0 (x := ⟨p13, (cL2 (rLst rInt) rInt), t45.2⟩) (x' := ⟨p13, (cL2 (rLst rInt) rInt), t50.2⟩) (ea_cons (ev_varR rfl) (ea_cons (ev_int (i := 8)) ea_nil)) rfl ⟨_, _, _, _, rfl, rfl, e51, rfl, rfl⟩ rfl) (ev_int (i := 0)))) (fun hb52 B55 H55 x55 (w55 : Own K B55 M [⟨p13, (cL2 (rLst rInt) rInt), t50.2⟩] H55) => ?_) (fun hb52 B63 H63 x63 (w63 : Own K B63 M [⟨p13, (cL2 (rLst rInt) rInt), t50.2⟩] H63) => ?_)
        · skip
          rw [if_pos hb52] at e54
          obtain ⟨t56, e57, e54⟩ := bindS e54
          obtain ⟨t58, e59, e54⟩ := bindS e54
          refine q_asg (n := 3) w55 (ev_callC 0 (x := ⟨p13, (cL2 (rLst rInt) rInt), t56.2⟩) (x' := ⟨p13, (cL2 (rLst rInt) rInt), t58.2⟩) (ea_cons (ev_varR rfl) (ea_cons (ev_add (ev_int (i := 8)) (ev_callC 0 (x := ⟨p13, (cL2 (rLst rInt) rInt), t50.2⟩) (x' := ⟨p13, (cL2 (rLst rInt) rInt), t56.2⟩) (ea_cons (ev_varR rfl) (ea_cons (ev_int (i := 13)) ea_nil)) rfl ⟨_, _, _, _, rfl, rfl, e57, rfl, rfl⟩ rfl)) ea_nil)) rfl ⟨_, _, _, _, rfl, rfl, e59, rfl, rfl⟩ rfl) fun v61 B60 H60 x60 (w60 : Own K B60 M [⟨p13, (cL2 (rLst rInt) rInt), t58.2⟩] H60) h62 => ?_
          replace e54 : some _ = some _ := e54
          cases e54
          exact ⟨v61, _, (x55.trans x60), w60, rfl, h62⟩
        rw [if_neg (by rw [hb52]; exact Bool.false_ne_true)] at e54
        replace e54 : some _ = some _ := e54
        cases e54
        exact ⟨v48, _, x63, w63, rfl, (((rTup (rTup (rT2 rInt (rTup (rT2 rInt rInt)))))).mono x63 h49)⟩
      rintro σ67' H64 ⟨v65, B64, x64, w64, rfl, h66⟩
      refine q_asg (n := 4) w64 (ev_len (ev_seqT (ev_var rfl h66))) fun v69 B68 H68 x68 (w68 : Own K B68 M [⟨p13, (cL2 (rLst rInt) rInt), s53.2⟩] H68) h70 => ?_
      obtain ⟨t71, e72, hb16⟩ := bindS hb16
      refine q_asg (n := 5) w68 (ev_callC 0 (x := ⟨p13, (cL2 (rLst rInt) rInt), s53.2⟩) (x' := ⟨p13, (cL2 (rLst rInt) rInt), t71.2⟩) (ea_cons (ev_varR rfl) (ea_cons (ev_varI rfl h70) (ea_cons (ev_int (i := 2)) ea_nil))) rfl ⟨_, _, _, _, _, rfl, rfl, e72, rfl, rfl⟩ rfl) fun v74 B73 H73 x73 (w73 : Own K B73 M [⟨p13, (cL2 (rLst rInt) rInt), t71.2⟩] H73) h75 => ?_
      obtain ⟨t76, e77, hb16⟩ := bindS hb16
      refine q_asg (n := 6) w73 (ev_callC 0 (x := ⟨p13, (cL2 (rLst rInt) rInt), t71.2⟩) (x' := ⟨p13, (cL2 (rLst rInt) rInt), t76.2⟩) (ea_cons (ev_varR rfl) (ea_cons (ev_varI rfl h70) (ea_cons (ev_int (i := 4)) ea_nil))) rfl ⟨_, _, _, _, _, rfl, rfl, e77, rfl, rfl⟩ rfl) fun v79 B78 H78 x78 (w78 : Own K B78 M [⟨p13, (cL2 (rLst rInt) rInt), t76.2⟩] H78) h80 => ?_
      obtain ⟨t81, e82, hb16⟩ := bindS hb16
      obtain ⟨s84, e85, hb16⟩ := bindS hb16
      refine q_cut (fun σ96 H93 => ∃ v94 B93, Ex B78 B93 ∧ Own K B93 M [⟨p13, (cL2 (rLst rInt) rInt), s84.2⟩] H93 ∧ σ96 = [some u0, some (.ref p13), some v25, some v65, some v69, some v94, some v79, o38, o39, o40, o41, o42, o43, o44] ∧ ((rLst rInt)).is K B93 v94 s84.1) ?_ ?_
      · skip
        refine q_ifc w78 (et_test (ev_eqI (ev_callC 0 (x := ⟨p13, (cL2 (rLst rInt) rInt), t76.2⟩) (x' := ⟨p13, (cL2 (rLst rInt) rInt), t81.2⟩) (ea_cons (ev_varR rfl) (ea_cons (ev_int (i := 2)) ea_nil)) rfl ⟨_, _, _, _, rfl, rfl, e82, rfl, rfl⟩ rfl) (ev_int (i := 0)))) (fun hb83 B86 H86 x86 (w86 : Own K B86 M [⟨p13, (cL2 (rLst rInt) rInt), t81.2⟩] H86) => ?_) (fun hb83 B92 H92 x92 (w92 : Own K B92 M [⟨p13, (cL2 (rLst rInt) rInt), t81.2⟩] H92) => ?_)
        · skip
          rw [if_pos hb83] at e85
          obtain ⟨t87, e88, e85⟩ := bindS e85
          refine q_asg (n := 5) w86 (ev_frz (el_listRg1 (ev_varI rfl h70) e88)) fun v90 B89 H89 x89 (w89 : Own K B89 M [⟨p13, (cL2 (rLst rInt) rInt), t81.2⟩] H89) h91 => ?_
          replace e85 : some _ = some _ := e85
          cases e85
          exact ⟨v90, _, (x86.trans x89), w89, rfl, h91⟩
        rw [if_neg (by rw [hb83]; exact Bool.false_ne_true)] at e85
        replace e85 : some _ = some _ := e85
        cases e85
        exact ⟨v74, _, x92, w92, rfl, (((rLst rInt)).mono (x78.trans x92) h75)⟩
      rintro σ96' H93 ⟨v94, B93, x93, w93, rfl, h95⟩
      obtain ⟨t97, e98, hb16⟩ := bindS hb16
      refine q_asg (n := 7) w93 (ev_call (ea_cons (ev_var rfl (((rTup (rTup (rT2 rInt (rTup (rT2 rInt rInt)))))).mono (((x68.trans x73).trans x78).trans x93) h66)) (ea_cons (ev_var rfl h95) (ea_cons (ev_var rfl (((rLst rInt)).mono x93 h80)) ea_nil))) ⟨_, _, _, _, rfl, rfl, e98, rfl, rfl⟩) fun v100 B99 H99 x99 (w99 : Own K B99 M [⟨p13, (cL2 (rLst rInt) rInt), s84.2⟩] H99) h101 => ?_
      obtain ⟨t102, e103, hb16⟩ := bindS hb16
      refine q_if w99 (et_not (et_B (ev_call (ea_cons (ev_varI rfl h70) (ea_cons (ev_var rfl h101) ea_nil)) ⟨_, _, _, rfl, rfl, e103, rfl, rfl⟩))) (fun hb104 B105 H105 x105 (w105 : Own K B105 M [⟨p13, (cL2 (rLst rInt) rInt), s84.2⟩] H105) => ?_) (fun hb104 B106 H106 x106 (w106 : Own K B106 M [⟨p13, (cL2 (rLst rInt) rInt), s84.2⟩] H106) => ?_)
      · skip
        rw [if_pos hb104] at hb16
        replace hb16 : some _ = some _ := hb16
        obtain rfl := Option.some.inj hb16
        obtain rfl := ho31 _ rfl
        replace hm : some _ = some _ := hm
        obtain rfl := Option.some.inj hm
        exact q_ret w105 (ev_bl (b := false)) fun v9 B9 H9 x9 w9 h9 => k _ _ _ (((((((((((x12.trans x22).trans x23).trans x47).trans x64).trans x68).trans x73).trans x78).trans x93).trans x99).trans x105).trans x9) w9.tail h9
      rw [if_neg (by rw [hb104]; exact Bool.false_ne_true)] at hb16
      obtain ⟨t107, e108, hb16⟩ := bindS hb16
      refine q_asg (n := 8) w106 (ev_callC 0 (x := ⟨p13, (cL2 (rLst rInt) rInt), s84.2⟩) (x' := ⟨p13, (cL2 (rLst rInt) rInt), t107.2⟩) (ea_cons (ev_varR rfl) (ea_cons (ev_varI rfl h70) ea_nil)) rfl ⟨_, _, _, _, rfl, rfl, e108, rfl, rfl⟩ rfl) fun v110 B109 H109 x109 (w109 : Own K B109 M [⟨p13, (cL2 (rLst rInt) rInt), t107.2⟩] H109) h111 => ?_
      obtain ⟨t141, e142, hb16⟩ := bindS hb16
      obtain ⟨t143, e144, hb16⟩ := bindS hb16
      obtain ⟨t145, e146, hb16⟩ := bindS hb16
      obtain ⟨t147, e148, hb16⟩ := bindS hb16
      obtain ⟨t149, e150, hb16⟩ := bindS hb16
      refine q_if w109 (et_not (et_B (ev_call (ea_cons (ev_var rfl (((rLst (rLst rInt))).mono (x106.trans x109) h101)) (ea_cons (ev_call (ea_cons (ev_var rfl (((rTup (rTup (rT2 rInt (rTup (rT2 rInt rInt)))))).mono ((((((x68.trans x73).trans x78).trans x93).trans x99).trans x106).trans x109) h66)) (ea_cons (ev_var rfl (((rLst rInt)).mono ((x99.trans x106).trans x109) h95)) (ea_cons (ev_frz (el_cat (ev_frz (el_lc (S := Unit) (ys := t143.1) (s1 := t143.2) (s0 := ()) (σ' := [some u0, some (.ref p13), some v25, some v65, some v69, some v94, some v79, some v100, some v110, o40, o41, none, o43, o44]) rInt (ei_lst (ev_var rfl (((rLst rInt)).mono (((x93.trans x99).trans x106).trans x109) h80))) _ (fun (s112 : Unit) => [⟨p13, (cL2 (rLst rInt) rInt), t107.2⟩]) rfl e144 e142 rfl (by rintro s112 x119 o124 s125 v117 D122 a123 B113 H114 hb121 x115 w116 h118 PY126 PN127 qY128 qN129; replace w116 : Own K B113 M [⟨D122, (cLst rInt), a123⟩, ⟨p13, (cL2 (rLst rInt) rInt), t107.2⟩] H114 := w116; refine g_name ?_; refine ⟨rfl, ?_⟩; exact (et_test (ev_neI (ev_varI rfl h118) (ev_varI rfl h111))) B113 H114 (Ex.refl _) w116 _ fun B136 H137 x138 (w139 : Own K B136 M [⟨D122, (cLst rInt), a123⟩, ⟨p13, (cL2 (rLst rInt) rInt), t107.2⟩] H137) => lc_if (fun hq140 => by rw [if_pos hq140] at hb121; obtain ⟨rfl, rfl⟩ := Prod.mk.inj (Option.some.inj hb121); exact (ev_varI rfl h118) B136 H137 (Ex.refl _) w139 _ fun v130 B131 H132 x133 w134 h135 => qY128 v130 B131 H132 _ rfl (x138.trans x133) w134 h135) (fun hq140 => by rw [if_neg (by rw [hq140]; exact Bool.false_ne_true)] at hb121; obtain ⟨rfl, rfl⟩ := Prod.mk.inj (Option.some.inj hb121); exact qN129 B136 H137 rfl x138 w139)))) (ev_frz (el_lst (r := rInt) [t107.1] (ea_cons (ev_varI rfl h111) ea_nil))) e146)) ea_nil))) ⟨_, _, _, _, rfl, rfl, e148, rfl, rfl⟩) ea_nil)) ⟨_, _, _, rfl, rfl, e150, rfl, rfl⟩))) (fun hb151 B152 H152 x152 (w152 : Own K B152 M [⟨p13, (cL2 (rLst rInt) rInt), t107.2⟩] H152) => ?_) (fun hb151 B153 H153 x153 (w153 : Own K B153 M [⟨p13, (cL2 (rLst rInt) rInt), t107.2⟩] H153) => ?_)
      · skip
        rw [if_pos hb151] at hb16
        replace hb16 : some _ = some _ := hb16
        obtain rfl := Option.some.inj hb16
        obtain rfl := ho31 _ rfl
        replace hm : some _ = some _ := hm
        obtain rfl := Option.some.inj hm
        exact q_ret w152 (ev_bl (b := false)) fun v9 B9 H9 x9 w9 h9 => k _ _ _ (((((((((((((x12.trans x22).trans x23).trans x47).trans x64).trans x68).trans x73).trans x78).trans x93).trans x99).trans x106).trans x109).trans x152).trans x9) w9.tail h9
      rw [if_neg (by rw [hb151]; exact Bool.false_ne_true)] at hb16
      obtain ⟨t183, e184, hb16⟩ := bindS hb16
      obtain ⟨t185, e186, hb16⟩ := bindS hb16
      obtain ⟨t187, e188, hb16⟩ := bindS hb16
      obtain ⟨t189, e190, hb16⟩ := bindS hb16
      obtain ⟨t191, e192, hb16⟩ := bindS hb16
      refine q_if w153 (et_not (et_B (ev_call (ea_cons (ev_var rfl (((rLst (rLst rInt))).mono ((x106.trans x109).trans x153) h101)) (ea_cons (ev_call (ea_cons (ev_var rfl (((rTup (rTup (rT2 rInt (rTup (rT2 rInt rInt)))))).mono (((((((x68.trans x73).trans x78).trans x93).trans x99).trans x106).trans x109).trans x153) h66)) (ea_cons (ev_frz (el_cat (ev_frz (el_lc (S := Unit) (ys := t185.1) (s1 := t185.2) (s0 := ()) (σ' := [some u0, some (.ref p13), some v25, some v65, some v69, some v94, some v79, some v100, some v110, o40, o41, none, o43, o44]) rInt (ei_lst (ev_var rfl (((rLst rInt)).mono (((x99.trans x106).trans x109).trans x153) h95))) _ (fun (s154 : Unit) => [⟨p13, (cL2 (rLst rInt) rInt), t107.2⟩]) rfl e186 e184 rfl (by rintro s154 x161 o166 s167 v159 D164 a165 B155 H156 hb163 x157 w158 h160 PY168 PN169 qY170 qN171; replace w158 : Own K B155 M [⟨D164, (cLst rInt), a165⟩, ⟨p13, (cL2 (rLst rInt) rInt), t107.2⟩] H156 := w158; refine g_name ?_; refine ⟨rfl, ?_⟩; exact (et_test (ev_neI (ev_varI rfl h160) (ev_varI rfl h111))) B155 H156 (Ex.refl _) w158 _ fun B178 H179 x180 (w181 : Own K B178 M [⟨D164, (cLst rInt), a165⟩, ⟨p13, (cL2 (rLst rInt) rInt), t107.2⟩] H179) => lc_if (fun hq182 => by rw [if_pos hq182] at hb163; obtain ⟨rfl, rfl⟩ := Prod.mk.inj (Option.some.inj hb163); exact (ev_varI rfl h160) B178 H179 (Ex.refl _) w181 _ fun v172 B173 H174 x175 w176 h177 => qY170 v172 B173 H174 _ rfl (x180.trans x175) w176 h177) (fun hq182 => by rw [if_neg (by rw [hq182]; exact Bool.false_ne_true)] at hb163; obtain ⟨rfl, rfl⟩ := Prod.mk.inj (Option.some.inj hb163); exact qN171 B178 H179 rfl x180 w181)))) (ev_frz (el_lst (r := rInt) [t107.1] (ea_cons (ev_varI rfl h111) ea_nil))) e188)) (ea_cons (ev_var rfl (((rLst rInt)).mono ((((x93.trans x99).trans x106).trans x109).trans x153) h80)) ea_nil))) ⟨_, _, _, _, rfl, rfl, e190, rfl, rfl⟩) ea_nil)) ⟨_, _, _, rfl, rfl, e192, rfl, rfl⟩))) (fun hb193 B194 H194 x194 (w194 : Own K B194 M [⟨p13, (cL2 (rLst rInt) rInt), t107.2⟩] H194) => ?_) (fun hb193 B195 H195 x195 (w195 : Own K B195 M [⟨p13, (cL2 (rLst rInt) rInt), t107.2⟩] H195) => ?_)
      · skip
        rw [if_pos hb193] at hb16
        replace hb16 : some _ = some _ := hb16
        obtain rfl := Option.some.inj hb16
        obtain rfl := ho31 _ rfl
        replace hm : some _ = some _ := hm
        obtain rfl := Option.some.inj hm
        exact q_ret w194 (ev_bl (b := false)) fun v9 B9 H9 x9 w9 h9 => k _ _ _ ((((((((((((((x12.trans x22).trans x23).trans x47).trans x64).trans x68).trans x73).trans x78).trans x93).trans x99).trans x106).trans x109).trans x153).trans x194).trans x9) w9.tail h9
      rw [if_neg (by rw [hb193]; exact Bool.false_ne_true)] at hb16
      obtain ⟨t196, e197, hb16⟩ := bindS hb16
      obtain ⟨t198, e199, hb16⟩ := bindS hb16
      obtain ⟨t200, e201, hb16⟩ := bindS hb16
      refine q_asg (n := 9) w195 (ev_catT (ev_catT (ev_slT (ev_var rfl (((rTup (rTup (rT2 rInt (rTup (rT2 rInt rInt)))))).mono ((((((((x68.trans x73).trans x78).trans x93).trans x99).trans x106).trans x109).trans x153).trans x195) h66)) eo_none (eo_some (ev_varI rfl h111))) (ev_tup (r := (rTup (rT2 rInt (rTup (rT2 rInt rInt))))) [(cutL t196 none (some ((1 : Int))))] (ea_cons (ev_slT (ev_ix (ev_seqT (ev_var rfl (((rTup (rTup (rT2 rInt (rTup (rT2 rInt rInt)))))).mono ((((((((x68.trans x73).trans x78).trans x93).trans x99).trans x106).trans x109).trans x153).trans x195) h66))) (ev_varI rfl h111) e197) eo_none (eo_some (ev_int (i := 1)))) ea_nil)) e199) (ev_slT (ev_var rfl (((rTup (rTup (rT2 rInt (rTup (rT2 rInt rInt)))))).mono ((((((((x68.trans x73).trans x78).trans x93).trans x99).trans x106).trans x109).trans x153).trans x195) h66)) (eo_some (ev_add (ev_varI rfl h111) (ev_int (i := 1)))) eo_none) e201) fun v203 B202 H202 x202 (w202 : Own K B202 M [⟨p13, (cL2 (rLst rInt) rInt), t107.2⟩] H202) h204 => ?_
      obtain ⟨t205, e206, hb16⟩ := bindS hb16
      refine q_asg (n := 10) w202 (ev_call (ea_cons (ev_var rfl h204) (ea_cons (ev_var rfl (((rLst rInt)).mono (((((x99.trans x106).trans x109).trans x153).trans x195).trans x202) h95)) (ea_cons (ev_var rfl (((rLst rInt)).mono ((((((x93.trans x99).trans x106).trans x109).trans x153).trans x195).trans x202) h80)) ea_nil))) ⟨_, _, _, _, rfl, rfl, e206, rfl, rfl⟩) fun v208 B207 H207 x207 (w207 : Own K B207 M [⟨p13, (cL2 (rLst rInt) rInt), t107.2⟩] H207) h209 => ?_
      obtain ⟨o213, e214, hb16⟩ := bindS hb16
      refine q_forR w207 (ei_rng1 (ea_cons (ev_int (i := 3)) ea_nil) (by decide)) _ (fun s210 B215 σ228 => ∃ o229, σ228 = [some u0, some (.ref p13), some v25, some v65, some v69, some v94, some v79, some v100, some v110, some v203, some v208, o229, o43, o44]) (fun s210 => [⟨p13, (cL2 (rLst rInt) rInt), t107.2⟩]) (()) e214 (fun B9 x9 => ⟨_, rfl⟩) rfl ?_ ?_
      · skip
        rintro s210 x211 s322 v221 B215 B216 H217 σ228 hb212 x218 ⟨o229, rfl⟩ x219 w220 h222 ho227 N223 K224 hN225 hB226
        replace w220 : Own K B216 M [⟨p13, (cL2 (rLst rInt) rInt), t107.2⟩] H217 := w220
        refine g_name ?_
        obtain ⟨t230, e231, hb212⟩ := bindS hb212
        obtain ⟨t232, e233, hb212⟩ := bindS hb212
        obtain ⟨t234, e235, hb212⟩ := bindS hb212
        refine q_if w220 (et_not (et_B (ev_call (ea_cons (ev_ix (ev_seqL (ev_var rfl (((rLst (rLst rInt))).mono (x218.trans x219) h209))) (ev_varI rfl h222) e231) (ea_cons (ev_ix (ev_seqL (ev_var rfl (((rLst (rLst rInt))).mono (((((((x106.trans x109).trans x153).trans x195).trans x202).trans x207).trans x218).trans x219) h101))) (ev_varI rfl h222) e233) ea_nil)) ⟨_, _, _, rfl, rfl, e235, rfl, rfl⟩))) (fun hb236 B237 H237 x237 (w237 : Own K B237 M [⟨p13, (cL2 (rLst rInt) rInt), t107.2⟩] H237) => ?_) (fun hb236 B238 H238 x238 (w238 : Own K B238 M [⟨p13, (cL2 (rLst rInt) rInt), t107.2⟩] H238) => ?_)
        · skip
          rw [if_pos hb236] at hb212
          replace hb212 : some _ = some _ := hb212
          obtain rfl := Option.some.inj hb212
          obtain rfl := ho227 _ rfl
          replace hb16 : some _ = some _ := hb16
          obtain rfl := Option.some.inj hb16
          obtain rfl := ho31 _ rfl
          replace hm : some _ = some _ := hm
          obtain rfl := Option.some.inj hm
          exact q_ret w237 (ev_bl (b := false)) fun v9 B9 H9 x9 w9 h9 => k _ _ _ (((((((((((((((((((x12.trans x22).trans x23).trans x47).trans x64).trans x68).trans x73).trans x78).trans x93).trans x99).trans x106).trans x109).trans x153).trans x195).trans x202).trans x207).trans x218).trans x219).trans x237).trans x9) w9.tail h9
        rw [if_neg (by rw [hb236]; exact Bool.false_ne_true)] at hb212
        replace hb212 : some _ = some _ := hb212
        cases hb212
        exact hN225 _ _ _ _ rfl x238 w238 ⟨_, rfl⟩
      rintro s239 B240 H241 σ244 rfl x242 w243 ⟨o245, rfl⟩
      dsimp only at hb16
      replace w243 : Own K B240 M [⟨p13, (cL2 (rLst rInt) rInt), t107.2⟩] H241 := w243
      obtain ⟨t246, e247, hb16⟩ := bindS hb16
      obtain ⟨t248, e249, hb16⟩ := bindS hb16
      obtain ⟨t250, e251, hb16⟩ := bindS hb16
      refine q_if w243 (et_not (et_B (ev_call (ea_cons (ev_ix (ev_seqL (ev_var rfl (((rLst (rLst rInt))).mono ((((((x106.trans x109).trans x153).trans x195).trans x202).trans x207).trans x242) h101))) (ev_int (i := 3)) e247) (ea_cons (ev_ix (ev_seqL (ev_var rfl (((rLst (rLst rInt))).mono x242 h209))) (ev_int (i := 3)) e249) ea_nil)) ⟨_, _, _, rfl, rfl, e251, rfl, rfl⟩))) (fun hb252 B253 H253 x253 (w253 : Own K B253 M [⟨p13, (cL2 (rLst rInt) rInt), t107.2⟩] H253) => ?_) (fun hb252 B254 H254 x254 (w254 : Own K B254 M [⟨p13, (cL2 (rLst rInt) rInt), t107.2⟩] H254) => ?_)
      · skip
        rw [if_pos hb252] at hb16
        replace hb16 : some _ = some _ := hb16
        obtain rfl := Option.some.inj hb16
        obtain rfl := ho31 _ rfl
        replace hm : some _ = some _ := hm
        obtain rfl := Option.some.inj hm
        exact q_ret w253 (ev_bl (b := false)) fun v9 B9 H9 x9 w9 h9 => k _ _ _ ((((((((((((((((((x12.trans x22).trans x23).trans x47).trans x64).trans x68).trans x73).trans x78).trans x93).trans x99).trans x106).trans x109).trans x153).trans x195).trans x202).trans x207).trans x242).trans x253).trans x9) w9.tail h9
      rw [if_neg (by rw [hb252]; exact Bool.false_ne_true)] at hb16
      obtain ⟨t255, e256, hb16⟩ := bindS hb16
      refine q_asg (n := 12) w254 (ev_callC 0 (x := ⟨p13, (cL2 (rLst rInt) rInt), t107.2⟩) (x' := ⟨p13, (cL2 (rLst rInt) rInt), t255.2⟩) (ea_cons (ev_varR rfl) (ea_cons (ev_var rfl (((rTup (rTup (rT2 rInt (rTup (rT2 rInt rInt)))))).mono ((((((((((((x68.trans x73).trans x78).trans x93).trans x99).trans x106).trans x109).trans x153).trans x195).trans x202).trans x207).trans x242).trans x254) h66)) ea_nil)) rfl ⟨_, _, _, _, rfl, rfl, e256, rfl, rfl⟩ rfl) fun v258 B257 H257 x257 (w257 : Own K B257 M [⟨p13, (cL2 (rLst rInt) rInt), t255.2⟩] H257) h259 => ?_
      obtain ⟨t260, e261, hb16⟩ := bindS hb16
      obtain ⟨t292, e293, hb16⟩ := bindS hb16
      obtain ⟨t294, e295, hb16⟩ := bindS hb16
      refine q_asg (n := 13) w257 (ev_tupOfL (ev_frz (el_lc (S := Unit) (ys := t294.1) (s1 := t294.2) (s0 := ()) (σ' := [some u0, some (.ref p13), some v25, some v65, some v69, some v94, some v79, some v100, some v110, some v203, some v208, none, some v258, o44]) (rTup (rT2 rInt (rTup (rT2 rInt rInt)))) (ei_rng1 (ea_cons (ev_varI rfl h70) ea_nil) e261) _ (fun (s262 : Unit) => [⟨p13, (cL2 (rLst rInt) rInt), t255.2⟩]) rfl e295 e293 rfl (by rintro s262 x269 o274 s275 v267 D272 a273 B263 H264 hb271 x265 w266 h268 PY276 PN277 qY278 qN279; replace w266 : Own K B263 M [⟨D272, (cLst (rTup (rT2 rInt (rTup (rT2 rInt rInt))))), a273⟩, ⟨p13, (cL2 (rLst rInt) rInt), t255.2⟩] H264 := w266; refine g_name ?_; refine ⟨rfl, ?_⟩; obtain ⟨t286, e287, hb271⟩ := bindS hb271; obtain ⟨t288, e289, hb271⟩ := bindS hb271; obtain ⟨t290, e291, hb271⟩ := bindS hb271; obtain ⟨rfl, rfl⟩ := Prod.mk.inj (Option.some.inj hb271); refine lc_yes ?_; exact (ev_tup (r := (rT2 rInt (rTup (rT2 rInt rInt)))) [t290] (ea_cons (ev_ix (ev_seqT (ev_ix (ev_seqT (ev_var rfl (((rTup (rTup (rT2 rInt (rTup (rT2 rInt rInt)))))).mono ((((((((((((((x68.trans x73).trans x78).trans x93).trans x99).trans x106).trans x109).trans x153).trans x195).trans x202).trans x207).trans x242).trans x254).trans x257).trans x265) h66))) (ev_varI rfl h268) e287)) (ev_ix (ev_seqT (ev_var rfl (((rTup rInt)).mono x265 h259))) (ev_varI rfl h268) e289) e291) ea_nil)) B263 H264 (Ex.refl _) w266 _ fun v280 B281 H282 x283 w284 h285 => qY278 v280 B281 H282 _ rfl x283 w284 h285)))) fun v297 B296 H296 x296 (w296 : Own K B296 M [⟨p13, (cL2 (rLst rInt) rInt), t255.2⟩] H296) h298 => ?_
      obtain ⟨t299, e300, hb16⟩ := bindS hb16
      refine q_asg (n := 7) w296 (ev_call (ea_cons (ev_var rfl h298) (ea_cons (ev_var rfl (((rLst rInt)).mono ((((((((((x99.trans x106).trans x109).trans x153).trans x195).trans x202).trans x207).trans x242).trans x254).trans x257).trans x296) h95)) (ea_cons (ev_var rfl (((rLst rInt)).mono (((((((((((x93.trans x99).trans x106).trans x109).trans x153).trans x195).trans x202).trans x207).trans x242).trans x254).trans x257).trans x296) h80)) ea_nil))) ⟨_, _, _, _, rfl, rfl, e300, rfl, rfl⟩) fun v302 B301 H301 x301 (w301 : Own K B301 M [⟨p13, (cL2 (rLst rInt) rInt), t255.2⟩] H301) h303 => ?_
      obtain ⟨t304, e305, hb16⟩ := bindS hb16
      obtain ⟨t306, e307, hb16⟩ := bindS hb16
      obtain ⟨t316, e317, hb16⟩ := bindS hb16
      refine q_if w301 (et_or' (d := t316) (et_test (ev_neT (dr_lst dr_int) (by decide) (ev_ix (ev_seqL (ev_var rfl h303)) (ev_int (i := 2)) e305) (ev_ix (ev_seqL (ev_var rfl h303)) (ev_int (i := 3)) e307))) (fun hb318 => by rw [if_neg (by rw [hb318]; exact Bool.false_ne_true)] at e317; obtain ⟨t308, e309, e317⟩ := bindS e317; obtain ⟨t310, e311, e317⟩ := bindS e317; obtain ⟨t312, e313, e317⟩ := bindS e317; obtain ⟨t314, e315, e317⟩ := bindS e317; obtain rfl := Option.some.inj e317; exact (et_test (ev_neT (dr_lst dr_int) (by decide) (ev_frz (el_sorted (ev_scr (ev_frz (el_cat (ev_ix (ev_seqL (ev_var rfl h303)) (ev_int (i := 0)) e309) (ev_ix (ev_seqL (ev_var rfl h303)) (ev_int (i := 1)) e311) e313))))) (ev_frz (el_listRg1 (ev_varI rfl h70) e315))))) (fun hb318 => by rw [if_pos hb318] at e317; obtain rfl := Option.some.inj e317; exact ⟨rfl, rfl⟩)) (fun hb319 B320 H320 x320 (w320 : Own K B320 M [⟨p13, (cL2 (rLst rInt) rInt), t255.2⟩] H320) => ?_) (fun hb319 B321 H321 x321 (w321 : Own K B321 M [⟨p13, (cL2 (rLst rInt) rInt), t255.2⟩] H321) => ?_)
      · skip
        rw [if_pos hb319] at hb16
        replace hb16 : some _ = some _ := hb16
        obtain rfl := Option.some.inj hb16
        obtain rfl := ho31 _ rfl
        replace hm : some _ = some _ := hm
        obtain rfl := Option.some.inj hm
        exact q_ret w320 (ev_bl (b := false)) fun v9 B9 H9 x9 w9 h9 => k _ _ _ ((((((((((((((((((((((x12.trans x22).trans x23).trans x47).trans x64).trans x68).trans x73).trans x78).trans x93).trans x99).trans x106).trans x109).trans x153).trans x195).trans x202).trans x207).trans x242).trans x254).trans x257).trans x296).trans x301).trans x320).trans x9) w9.tail h9
      rw [if_neg (by rw [hb319]; exact Bool.false_ne_true)] at hb16
      replace hb16 : some _ = some _ := hb16
      cases hb16
      exact hN29 _ _ _ _ rfl ((((((((((((((((((x47.trans x64).trans x68).trans x73).trans x78).trans x93).trans x99).trans x106).trans x109).trans x153).trans x195).trans x202).trans x207).trans x242).trans x254).trans x257).trans x296).trans x301).trans x321) w321 ⟨_, _, _, _, _, _, _, _, _, _, _, _, rfl⟩
    rintro s323 B324 H325 σ328 rfl x326 w327 ⟨o329, o330, o331, o332, o333, o334, o335, o336, o337, o338, o339, o340, rfl⟩
    dsimp only at hm
    replace w327 : Own K B324 M [⟨p13, (cL2 (rLst rInt) rInt), s323⟩] H325 := w327
    replace hm : some _ = some _ := hm
    obtain rfl := Option.some.inj hm
    exact q_ret w327 (ev_bl (b := true)) fun v9 B9 H9 x9 w9 h9 => k _ _ _ ((x12.trans x326).trans x9) w9.tail h9
end
end L3

namespace L3
open PySem L2
/-! ### the prelude of the laws: tape, draw, take, equal -/
def TapeOk (t : List Int) : Prop := t.length ≤ 4000 ∧ ∀ x ∈ t, 0 ≤ x ∧ x < 2 ^ 31
theorem all_app {t : List Int} {x : Int} (h : ∀ y ∈ t, 0 ≤ y ∧ y < (2 : Int) ^ 31) (hx : 0 ≤ x ∧ x < (2 : Int) ^ 31) : ∀ y ∈ t ++ [x], 0 ≤ y ∧ y < (2 : Int) ^ 31 := fun y hy => by
  rcases List.mem_append.mp hy with hy | hy
  · exact h y hy
  · rw [List.mem_singleton.mp hy]; exact hx
theorem tape_ok {ns : List Int} (h : ns.length ≤ 63) : Yes (m_l_tape ns) TapeOk := by
  unfold m_l_tape
  refine y_bind (Q := TapeOk) ?_ fun t h => y_some h
  refine (y_foldI _ (fun i t => t.length ≤ 40 * i ∧ ∀ x ∈ t, 0 ≤ x ∧ x < (2 : Int) ^ 31) ⟨by simp, by simp⟩ ?_).mono fun t ht => ⟨by have := ht.1; omega, ht.2⟩
  rintro i x s hx ⟨h1, h2⟩
  have hi : i < ns.length := (List.getElem?_eq_some_iff.mp hx).1
  refine y_eq (mulI_l (by decide) (by decide)) ?_
  refine y_bind (Q := fun n => 0 ≤ n) (y_if (fun c => y_some ?_) (fun c => y_some ?_)) fun n hn => ?_
  · have := of_decide_eq_true c; omega
  · have : ¬ (2 * x < 0) := fun z => c (decide_eq_true z)
    omega
  refine y_eq (a := 1000000000000000000) (by decide +kernel) ?_
  refine y_bind (Q := fun (p : Int × List Int) => p.2.length ≤ 40 * (i + 1) ∧ ∀ x ∈ p.2, 0 ≤ x ∧ x < (2 : Int) ^ 31) (y_if (fun c => ?_) (fun c => ?_)) fun p hp => y_some hp
  · refine y_bind (Q := fun (p : Int × List Int) => p.2.length ≤ 40 * (i + 1) ∧ ∀ x ∈ p.2, 0 ≤ x ∧ x < (2 : Int) ^ 31) ?_ fun p hp => y_some hp
    refine (y_foldI _ (fun j (p : Int × List Int) => 0 ≤ p.1 ∧ p.2.length ≤ 40 * i + j ∧ ∀ x ∈ p.2, 0 ≤ x ∧ x < (2 : Int) ^ 31) ⟨hn, h1, h2⟩ ?_).mono fun p hp => ⟨by have := hp.2.1; rw [rng_len] at this; simp at this; omega, hp.2.2⟩
    rintro j y ⟨m, t⟩ hy ⟨g1, g2, g3⟩
    have hj := (rng_at hy).2
    have hj : j < 40 := by omega
    refine y_bind (Q := fun (p : Int × List Int) => 0 ≤ p.1 ∧ p.2.length ≤ 40 * i + (j + 1) ∧ ∀ x ∈ p.2, 0 ≤ x ∧ x < (2 : Int) ^ 31) (y_if (fun c => ?_) (fun c => ?_)) fun p hp => y_some hp
    · refine y_eq (modI_s (by decide)) (y_eq (room_s (by show t.length ≤ _; show _ ≤ 1000000; have : t.length ≤ 40 * i + j := g2; omega)) (y_eq (divI_s (by decide) (by decide)) (y_some ⟨?_, ?_, ?_⟩)))
      · show 0 ≤ m / 1000
        have : 0 ≤ m := g1
        omega
      · show (t ++ [_]).length ≤ _
        have : t.length ≤ 40 * i + j := g2
        simp
        omega
      · refine all_app g3 ?_
        show 0 ≤ m % 1000 ∧ m % 1000 < _
        omega
    · exact y_some ⟨g1, by have : t.length ≤ 40 * i + j := g2; show t.length ≤ _; omega, g3⟩
  · refine y_bind (Q := fun (t : List Int) => t.length ≤ 40 * (i + 1) ∧ ∀ x ∈ t, 0 ≤ x ∧ x < (2 : Int) ^ 31) ?_ fun p hp => y_some hp
    refine (y_foldI _ (fun j (t : List Int) => t.length ≤ 40 * i + j ∧ ∀ x ∈ t, 0 ≤ x ∧ x < (2 : Int) ^ 31) ⟨h1, h2⟩ ?_).mono fun p hp => ⟨by have := hp.1; rw [rng_len] at this; simp at this; omega, hp.2⟩
    rintro j y t hy ⟨g2, g3⟩
    have hj := (rng_at hy).2
    have hj : j < 3 := by omega
    refine y_eq (mulI_r (by decide) (by decide)) (y_eq (mulI_r (by decide) (by decide)) (y_eq (modI_s (by decide)) (y_eq (mulI_r (by decide) (by decide)) (y_eq (divI_s (by decide) (by decide)) (y_eq (modI_s (by decide)) (y_eq (room_s (by omega)) (y_some ⟨?_, ?_⟩)))))))
    · rw [List.length_append, List.length_singleton]; omega
    · refine all_app g3 ?_
      omega
theorem draw_ok {t : List Int} {at' many : Int} (ht : TapeOk t) (h0 : 0 ≤ at') (h1 : at' < 2 ^ 62) (hm : 0 < many) : Yes (m_l_draw t at' many) fun r => 0 ≤ r ∧ r < many := by
  unfold m_l_draw
  refine y_if (fun c => ?_) (fun c => ?_)
  · have c := of_decide_eq_true c
    obtain ⟨n, rfl⟩ := Int.eq_ofNat_of_zero_le h0
    have hn : n < t.length := by omega
    refine y_eq (ixL_s (List.getElem?_eq_getElem hn) rfl) (y_eq (modI_s hm) (y_some ⟨Int.emod_nonneg _ (by omega), Int.emod_lt_of_pos _ hm⟩))
  · refine y_bind (Q := fun _ => True) (y_if (fun c => ?_) fun c => y_some trivial) fun n _ => ?_
    · have c := of_decide_eq_true c
      obtain ⟨n, hn⟩ := Int.eq_ofNat_of_zero_le (Int.emod_nonneg at' (show (t.length : Int) ≠ 0 by omega))
      have hl := Int.emod_lt_of_pos at' c
      refine y_eq (modI_s c) (y_eq (ixL_s (n := n) (List.getElem?_eq_getElem (by omega)) hn) (y_some trivial))
    · refine y_eq (mulI_r (by omega) (by omega)) (y_eq (mulI_r (by decide) (by decide)) (y_eq (mulI_r (by decide) (by decide)) (y_eq (modI_s (by decide)) (y_eq (modI_s hm) (y_some ⟨Int.emod_nonneg _ (by omega), Int.emod_lt_of_pos _ hm⟩)))))
/-- the tape and how far it is read -/
def StOk (s : List Int × Int) (n : Int) : Prop := TapeOk s.1 ∧ 0 ≤ s.2 ∧ s.2 ≤ n
theorem take_ok {s : List Int × Int} {n many : Int} (hs : StOk s n) (hn : n < 2 ^ 61) (hm : 0 < many) : Yes (m_l_take s many) fun r => (0 ≤ r.1 ∧ r.1 < many) ∧ StOk r.2 (n + 1) := by
  unfold m_l_take
  obtain ⟨h1, h2, h3⟩ := hs
  refine y_bind (draw_ok h1 (by show 0 ≤ s.2 + 1; omega) (by show s.2 + 1 < _; omega) hm) fun r hr => y_some ⟨hr, h1, by show 0 ≤ s.2 + 1; omega, by show s.2 + 1 ≤ _; omega⟩
/-- == of a kind -/
theorem eqvD_ok {a b : PyData} (ha : SeqAt.shaped a = true) (hb : SeqAt.shaped b = true) : eqvD a b = some (PyData.eqv a b) := if_pos ⟨ha, hb⟩
end L3

namespace L3
open PySem L2
theorem y_p {α : Type} {P : α → Prop} {b : Bool} {x y : Option α} (h : b = true) (k : Yes x P) : Yes (if b = true then x else y) P := by rw [if_pos h]; exact k
theorem y_n {α : Type} {P : α → Prop} {b : Bool} {x y : Option α} (h : b = false) (k : Yes y P) : Yes (if b = true then x else y) P := by rw [if_neg (by rw [h]; exact Bool.false_ne_true)]; exact k
end L3

namespace L3
open PySem L2
/-! ### drawn systems -/
theorem StOk.le {s : List Int × Int} {a b : Int} (h : StOk s a) (hab : a ≤ b) : StOk s b := ⟨h.1, h.2.1, Int.le_trans h.2.2 hab⟩
abbrev TE' := List (Int × Int)
abbrev TC' := Int × List (Int × Int)
abbrev TS' := List (List (Int × List (Int × Int)))
def VE (many : Nat) (e : List (Int × Int)) : Prop := e ≠ [] ∧ e.length ≤ many ∧ (∀ q ∈ e, 0 ≤ q.1 ∧ q.1 < (many : Int) ∧ 1 ≤ q.2 ∧ q.2 ≤ 1000) ∧ e.Pairwise fun a b => a.1 < b.1
def VC (many : Nat) (c : Int × List (Int × Int)) : Prop := 0 ≤ c.1 ∧ c.1 ≤ 1000 ∧ VE many c.2
def VCS (many most : Nat) (cs : List (Int × List (Int × Int))) : Prop := 1 ≤ cs.length ∧ cs.length ≤ most ∧ ∀ c ∈ cs, VC many c
def VS (most : Nat) (s : List (List (Int × List (Int × Int)))) : Prop := 1 ≤ s.length ∧ ∀ cs ∈ s, VCS s.length most cs
theorem ixL_lit {α : Type} {xs : List α} {i : Int} {P : α → Prop} (h0 : 0 ≤ i) (h1 : i < xs.length) (h : ∀ x ∈ xs, P x) : Yes (ixL xs i) P := by
  obtain ⟨n, hn⟩ := Int.eq_ofNat_of_zero_le h0
  have hl : n < xs.length := by omega
  exact ⟨xs[n], ixL_s (List.getElem?_eq_getElem hl) hn, h _ (List.getElem_mem hl)⟩
theorem ends_ok {st : List Int × Int} {n many : Int} (hs : StOk st n) (hn : n < 2 ^ 50) (hm : 1 ≤ many) (hm2 : many ≤ 100) : Yes (m_l_ends st many) fun r => VE many.toNat r.1 ∧ StOk r.2 (n + 1 + 2 * many) := by
  unfold m_l_ends
  refine y_bind (take_ok hs (by omega) (by omega)) fun t3 h3 => ?_
  refine y_eq (small62_s (by omega) (by omega)) ?_
  obtain ⟨⟨h31, h32⟩, h33⟩ := h3
  refine y_bind (Q := fun (p : List (Int × Int) × (List Int × Int)) => VE many.toNat p.1 ∧ StOk p.2 (n + 1 + 2 * many)) ?_ fun p hp => y_some hp
  refine (y_foldI _ (fun i (p : List (Int × Int) × (List Int × Int)) => p.1.length ≤ i ∧ (∀ q ∈ p.1, 0 ≤ q.1 ∧ q.1 < (i : Int) ∧ 1 ≤ q.2 ∧ q.2 ≤ 1000) ∧ (p.1.Pairwise fun a b => a.1 < b.1) ∧ (t3.1 < i → p.1 ≠ []) ∧ StOk p.2 (n + 1 + 2 * i))
    ⟨by simp, by simp, .nil, fun h => absurd h (by omega), by simpa using h33⟩ ?_).mono fun p hp => ?_
  · rintro i x ⟨e, st⟩ hx ⟨g1, g2, g3, g4, g5⟩
    obtain ⟨e1, e2⟩ := rng_at hx
    have e1 : x = (i : Int) := by omega
    subst e1
    dsimp only at g1 g2 g3 g4 g5
    refine y_bind (Q := fun (p : Bool × (List Int × Int)) => ((t3.1 = (i : Int)) → p.1 = true) ∧ StOk p.2 (n + 1 + 2 * i + 1)) (y_if (fun c => y_some ⟨fun _ => rfl, ?_⟩) (fun c => ?_)) fun p hp => ?_
    · exact g5.le (by omega)
    · exact y_bind (take_ok g5 (by omega) (by decide)) fun t30 h30 => y_some ⟨fun q => absurd (decide_eq_true q.symm) c, h30.2⟩
    · refine y_bind (Q := fun (q : List (Int × Int) × (List Int × Int)) => q.1.length ≤ i + 1 ∧ (∀ z ∈ q.1, 0 ≤ z.1 ∧ z.1 < ((i + 1 : Nat) : Int) ∧ 1 ≤ z.2 ∧ z.2 ≤ 1000) ∧ (q.1.Pairwise fun a b => a.1 < b.1) ∧ (t3.1 < ((i + 1 : Nat) : Int) → q.1 ≠ []) ∧ StOk q.2 (n + 1 + 2 * ((i + 1 : Nat) : Int))) (y_if (fun c => ?_) fun c => y_some ?_) fun q hq => y_some hq
      · refine y_bind (take_ok hp.2 (by omega) (by decide)) fun t39 h39 => ?_
        refine y_bind (ixL_lit (P := fun z => 1 ≤ z ∧ z ≤ 1000) h39.1.1 h39.1.2 (by decide)) fun t41 h41 => y_eq (room_s (by show e.length ≤ _; omega)) (y_some ⟨?_, ?_, ?_, ?_, ?_⟩)
        · show (e ++ [_]).length ≤ _
          rw [List.length_append, List.length_singleton]; omega
        · intro z hz
          rcases List.mem_append.mp hz with hz | hz
          · have := g2 z hz; omega
          · rw [List.mem_singleton.mp hz]; show 0 ≤ (i : Int) ∧ (i : Int) < _ ∧ 1 ≤ t41 ∧ t41 ≤ 1000; omega
        · show (e ++ [_]).Pairwise _
          refine List.pairwise_append.mpr ⟨g3, List.pairwise_singleton _ _, fun a ha b hb => ?_⟩
          rw [List.mem_singleton.mp hb]
          exact (g2 a ha).2.1
        · intro _ h; exact absurd h (by simp)
        · exact h39.2.le (by omega)
      · refine ⟨Nat.le_succ_of_le g1, fun z hz => by have := g2 z hz; omega, g3, fun h => ?_, ?_⟩
        · by_cases q : t3.1 = (i : Int)
          · exact absurd (hp.1 q) c
          · exact g4 (by omega)
        · exact hp.2.le (by omega)
  · obtain ⟨g1, g2, g3, g4, g5⟩ := hp
    rw [rng_len] at g1 g2 g4 g5
    have em : (((many - 0).toNat : Nat) : Int) = many := by omega
    refine ⟨⟨g4 (by omega), by omega, fun q hq => by have := g2 q hq; omega, g3⟩, ?_⟩
    rw [em] at g5
    exact g5
theorem choices_ok {st : List Int × Int} {n many most : Int} (hs : StOk st n) (hn : n < 2 ^ 49) (hm : 1 ≤ many) (hm2 : many ≤ 100) (h1 : 1 ≤ most) (h2 : most ≤ 100) : Yes (m_l_choices st many most) fun r => VCS many.toNat most.toNat r.1 ∧ StOk r.2 (n + 1 + most * 300) := by
  unfold m_l_choices
  refine y_bind (take_ok hs (by omega) (by omega)) fun t3 h3 => ?_
  obtain ⟨⟨h31, h32⟩, h33⟩ := h3
  refine y_eq (small62_s (by omega) (by omega)) ?_
  refine y_bind (Q := fun (p : List (Int × List (Int × Int)) × (List Int × Int)) => VCS many.toNat most.toNat p.1 ∧ StOk p.2 (n + 1 + most * 300)) ?_ fun p hp => y_some hp
  refine (y_foldI _ (fun i (p : List (Int × List (Int × Int)) × (List Int × Int)) => p.1.length = i ∧ (∀ c ∈ p.1, VC many.toNat c) ∧ StOk p.2 (n + 1 + 300 * i)) ⟨rfl, by simp, by simpa using h33⟩ ?_).mono fun p hp => ?_
  · rintro i x ⟨e, st⟩ hx ⟨g1, g2, g3⟩
    obtain ⟨e1, e2⟩ := rng_at hx
    dsimp only at g1 g2 g3
    refine y_bind (take_ok g3 (by omega) (by decide)) fun t27 h27 => ?_
    refine y_bind (ixL_lit (P := fun z => 0 ≤ z ∧ z ≤ 1000) h27.1.1 h27.1.2 (by decide)) fun t29 h29 => ?_
    refine y_bind (ends_ok h27.2 (by omega) hm hm2) fun t31 h31' => y_eq (room_s (by show e.length ≤ _; omega)) (y_some ⟨?_, ?_, ?_⟩)
    · show (e ++ [_]).length = _
      rw [List.length_append, List.length_singleton, g1]
    · intro z hz
      rcases List.mem_append.mp hz with hz | hz
      · exact g2 z hz
      · rw [List.mem_singleton.mp hz]; exact ⟨h29.1, h29.2, h31'.1⟩
    · exact h31'.2.le (by omega)
  · obtain ⟨g1, g2, g3⟩ := hp
    rw [rng_len] at g1 g3
    refine ⟨⟨by omega, by omega, g2⟩, ?_⟩
    exact g3.le (by omega)
/-- comprehensions: they answer -/
theorem y_comp {S α β : Type} (f : S → α → Option (Option β × S)) (I : Nat → List β → S → Prop) {xs : List α} {s : S} (h0 : I 0 [] s) (hs : ∀ (i : Nat) x ys s, xs[i]? = some x → I i ys s → Yes (f s x) fun r => I (i + 1) (ys ++ r.1.toList) r.2) : Yes (compM f s xs) fun r => I xs.length r.1 r.2 := by
  have key : ∀ (xs : List α) (k : Nat) (pre : List β) (s : S), I k pre s → (∀ (i : Nat) x ys s, xs[i]? = some x → I (k + i) ys s → Yes (f s x) fun r => I (k + i + 1) (ys ++ r.1.toList) r.2) → Yes (compM f s xs) fun r => I (k + xs.length) (pre ++ r.1) r.2 := by
    intro xs
    induction xs with
    | nil => intro k pre s h _; exact ⟨([], s), rfl, by simpa using h⟩
    | cons x xs ih =>
      intro k pre s h hs
      obtain ⟨⟨o, s'⟩, h1, h2⟩ := hs 0 x pre s rfl h
      obtain ⟨⟨ys, s2⟩, h3, h4⟩ := ih (k + 1) (pre ++ o.toList) s' h2 fun i y zs s hy hI => by
        have := hs (i + 1) y zs s (by simpa using hy) (by rw [show k + (i + 1) = k + 1 + i by omega]; exact hI)
        rw [show k + (i + 1) + 1 = k + 1 + i + 1 by omega] at this
        exact this
      refine ⟨(o.toList ++ ys, s2), ?_, ?_⟩
      · unfold compM
        rw [h1]
        dsimp only
        rw [h3]
      · rw [show k + (x :: xs).length = k + 1 + xs.length by simp; omega]
        show I _ (pre ++ (o.toList ++ ys)) s2
        rw [← List.append_assoc]
        exact h4
  have := key xs 0 [] s h0 fun i x ys s hx hI => by
    rw [Nat.zero_add] at hI ⊢
    exact hs i x ys s hx hI
  simpa using this
theorem system_ok {st : List Int × Int} {n most : Int} (hs : StOk st n) (hn : n < 2 ^ 48) (h1 : 1 ≤ most) (h2 : most ≤ 99) : Yes (m_l_system st most) fun r => (VS 3 r.1 ∧ (r.1.length : Int) ≤ most) ∧ StOk r.2 (n + 1 + most * 1000) := by
  unfold m_l_system
  refine y_bind (take_ok hs (by omega) (by omega)) fun t1 h => ?_
  obtain ⟨⟨h11, h12⟩, h13⟩ := h
  refine y_eq (small62_s (by omega) (by omega)) (y_eq (room_s (by rw [rng_len]; omega)) ?_)
  refine y_bind (Q := fun (r : List (List (Int × List (Int × Int))) × (List Int × Int)) => (VS 3 r.1 ∧ (r.1.length : Int) ≤ most) ∧ StOk r.2 (n + 1 + most * 1000)) ?_ fun r hr => y_some hr
  refine (y_comp _ (fun i ys s => ys.length = i ∧ (∀ cs ∈ ys, VCS (1 + t1.1).toNat 3 cs) ∧ StOk s (n + 1 + 1000 * i)) ⟨rfl, by simp, by simpa using h13⟩ ?_).mono fun r hr => ?_
  · rintro i x ys s hx ⟨g1, g2, g3⟩
    obtain ⟨e1, e2⟩ := rng_at hx
    refine y_bind (choices_ok g3 (by omega) (by omega) (by omega) (by decide) (by decide)) fun t32 h32 => y_some ⟨?_, ?_, ?_⟩
    · simp [g1]
    · intro cs hc
      rcases List.mem_append.mp hc with hc | hc
      · exact g2 cs hc
      · have hc : cs = t32.1 := by simpa using hc
        rw [hc]; exact h32.1
    · exact h32.2.le (by omega)
  · obtain ⟨g1, g2, g3⟩ := hr
    rw [rng_len] at g1 g3
    have el : (1 + t1.1).toNat = r.1.length := by omega
    refine ⟨⟨⟨by omega, fun cs hc => by rw [← el]; exact g2 cs hc⟩, by omega⟩, ?_⟩
    exact g3.le (by omega)
end L3

namespace L3
open PySem L2
/-! ### general -/
theorem bnd {α β : Type} {o : Option α} {f : α → Option β} {a : α} {r : Option β} (h : o = some a) (k : f a = r) : Option.bind o f = r := by rw [h]; exact k
theorem rgO_s {b : Int} (h0 : 0 ≤ b) (h : b ≤ 1000000) : rgO 0 b = some (rng 0 b) := if_pos ⟨by decide, by decide, by omega, by omega, by omega⟩
theorem repL_s {α : Type} {x : α} {n : Nat} (h : n ≤ 1000000) : repL [x] (n : Int) = some (List.replicate n [x]).flatten := by
  have e : ((n : Int)).toNat = n := by omega
  unfold repL
  rw [if_pos ⟨by omega, by omega, by rw [e, List.length_singleton, Nat.one_mul]; exact Nat.le_of_lt (Nat.lt_of_le_of_lt h (by decide))⟩, e]
theorem rep_flat {α : Type} {x : α} (n : Nat) : (List.replicate n [x]).flatten = List.replicate n x := by simp
theorem ixO_s {n i : Nat} {x : Int} (h : x = (i : Int)) (hi : i < n) : ixO n x = some i := by
  subst h
  unfold ixO ixN
  simp [hi]
theorem mapO_map {α β : Type} {f : α → Option β} {g : α → β} : ∀ {xs : List α}, (∀ x ∈ xs, f x = some (g x)) → mapO f xs = some (xs.map g)
  | [], _ => rfl
  | x :: xs, h => by
    show (match f x, mapO f xs with | some y, some ys => some (y :: ys) | _, _ => none) = _
    rw [h x List.mem_cons_self, mapO_map fun u hu => h u (List.mem_cons_of_mem _ hu)]
    rfl
theorem compM_map {α β : Type} {f : Unit → α → Option (Option β × Unit)} {g : α → β} : ∀ {xs : List α}, (∀ x ∈ xs, f () x = some (some (g x), ())) → compM f () xs = some (xs.map g, ())
  | [], _ => rfl
  | x :: xs, h => by
    unfold compM
    rw [h x List.mem_cons_self]
    dsimp only
    rw [compM_map fun u hu => h u (List.mem_cons_of_mem _ hu)]
    rfl
theorem compM_filter {α : Type} {f : Unit → α → Option (Option α × Unit)} {p : α → Bool} : ∀ {xs : List α}, (∀ x ∈ xs, f () x = if p x = true then some (some x, ()) else some (none, ())) → compM f () xs = some (xs.filter p, ())
  | [], _ => rfl
  | x :: xs, h => by
    have ih := compM_filter (f := f) (p := p) (xs := xs) fun u hu => h u (List.mem_cons_of_mem _ hu)
    unfold compM
    rw [h x List.mem_cons_self]
    cases hp : p x with
    | true => rw [if_pos rfl]; dsimp only; rw [ih, List.filter_cons, hp]; rfl
    | false => rw [if_neg (by decide)]; dsimp only; rw [ih, List.filter_cons, hp]; rfl
theorem foldO_cons {S α : Type} {f : S → α → Option S} {s s' : S} {x : α} {xs : List α} {r : Option S} (h : f s x = some s') (k : foldO f s' xs = r) : foldO f s (x :: xs) = r := by
  unfold foldO
  rw [h]
  exact k
theorem any_some {α : Type} {f : α → Option Bool} {g : α → Bool} : ∀ {xs : List α}, (∀ x ∈ xs, f x = some (g x)) → anyM f xs = some (xs.any g)
  | [], _ => rfl
  | x :: xs, h => by
    unfold anyM
    rw [h x List.mem_cons_self, List.any_cons]
    cases hx : g x with
    | true => rfl
    | false =>
      dsimp only
      rw [any_some fun u hu => h u (List.mem_cons_of_mem _ hu)]
      rfl
theorem all_some {α : Type} {f : α → Option Bool} {g : α → Bool} : ∀ {xs : List α}, (∀ x ∈ xs, f x = some (g x)) → allM f xs = some (xs.all g)
  | [], _ => rfl
  | x :: xs, h => by
    unfold allM
    rw [h x List.mem_cons_self, List.all_cons]
    cases hx : g x with
    | false => rfl
    | true =>
      dsimp only
      rw [all_some fun u hu => h u (List.mem_cons_of_mem _ hu)]
      rfl
/-- a filter with a partial test -/
theorem compM_filterB {α : Type} {f : Unit → α → Option (Option α × Unit)} {p : α → Bool} {g : α → Option Bool} (hf : ∀ x, f () x = Option.bind (g x) fun t => if t = true then some (some x, ()) else some (none, ())) {xs : List α} (h : ∀ x ∈ xs, g x = some (p x)) : compM f () xs = some (xs.filter p, ()) :=
  compM_filter fun x hx => by rw [hf, h x hx]; rfl
theorem nodup_le {many : Nat} {l : List Int} (h : l.Nodup) (hm : ∀ x ∈ l, 0 ≤ x ∧ x < (many : Int)) : l.length ≤ many := by
  have e : (l.map Int.toNat).Nodup := by
    refine List.pairwise_map.mpr ?_
    refine h.imp_of_mem fun {a b} ha hb hab => ?_
    have := hm a ha; have := hm b hb
    omega
  have s : (l.map Int.toNat) ⊆ List.range many := fun x hx => by
    obtain ⟨y, hy, rfl⟩ := List.mem_map.mp hx
    have := hm y hy
    exact List.mem_range.mpr (by omega)
  have := List.Nodup.length_le_of_subset e s
  rwa [List.length_map, List.length_range] at this
end L3

namespace L3
open PySem L2
/-! ### sets of states -/
def restOf (n : Int) (al ta : List Int) : List Int := (rng 0 n).filter fun x => decide (x ∈ al) && !decide (x ∈ ta)
theorem rest_ok {sys : List (List (Int × List (Int × Int)))} {al ta : List Int} (h : sys.length ≤ 1000) : m_rest_of sys al ta = some (restOf sys.length al ta) := by
  unfold m_rest_of
  refine bnd (small62_s (by omega) (by omega)) (bnd (room_s (by rw [rng_len]; omega)) (bnd (compM_filter fun x _ => rfl) rfl))
theorem rest_in {n : Int} {al ta : List Int} {r : Int} (h : r ∈ restOf n al ta) : (0 ≤ r ∧ r < n) ∧ r ∈ al ∧ r ∉ ta := by
  obtain ⟨h1, h2⟩ := List.mem_filter.mp h
  simp at h2
  exact ⟨rng_mem h1, h2⟩
theorem rest_len {n : Nat} {al ta : List Int} : (restOf (n : Int) al ta).length ≤ n := by
  refine Nat.le_trans (List.length_filter_le _ _) ?_
  rw [rng_len]; omega
theorem some_ok {st : List Int × Int} {n many share : Int} (hs : StOk st n) (hn : n < 2 ^ 50) (h0 : 0 ≤ many) (h1 : many ≤ 1000) (h2 : 0 < share) : Yes (m_l_some st many share) fun r => ((∀ x ∈ r.1, 0 ≤ x ∧ x < many) ∧ r.1.Nodup) ∧ StOk r.2 (n + many + 1) := by
  unfold m_l_some
  refine y_eq (small62_s (by omega) (by omega)) (y_eq (room_s (by rw [rng_len]; omega)) ?_)
  refine y_bind (Q := fun (r : List Int × (List Int × Int)) => ((∀ x ∈ r.1, 0 ≤ x ∧ x < many) ∧ r.1.Nodup) ∧ StOk r.2 (n + many)) ?_ fun r hr => ?_
  · refine (y_comp _ (fun i ys s => ((∀ x ∈ ys, 0 ≤ x ∧ x < (i : Int)) ∧ ys.Nodup) ∧ StOk s (n + i)) ⟨⟨by simp, by simp⟩, by simpa using hs⟩ ?_).mono fun r hr => ?_
    · rintro i x ys s hx ⟨⟨g1, g2⟩, g3⟩
      obtain ⟨e1, e2⟩ := rng_at hx
      refine y_bind (take_ok g3 (by omega) h2) fun t ht => ?_
      refine y_if (fun c => y_some ⟨⟨fun y hy => ?_, ?_⟩, ht.2.le (by omega)⟩) (fun c => y_some ⟨⟨fun y hy => ?_, ?_⟩, ht.2.le (by omega)⟩)
      · rcases List.mem_append.mp hy with hy | hy
        · have := g1 y hy; omega
        · have : y = x := by simpa using hy
          omega
      · refine List.nodup_append.mpr ⟨g2, by simp, fun a ha b hb => ?_⟩
        have : b = x := by simpa using hb
        have := g1 a ha
        omega
      · have hy : y ∈ ys := by simpa using hy
        have := g1 y hy; omega
      · simpa using g2
    · rw [rng_len] at hr
      obtain ⟨⟨a, b⟩, c⟩ := hr
      have e : (((many - 0).toNat : Nat) : Int) = many := by omega
      rw [e] at a c
      exact ⟨⟨a, b⟩, c⟩
  · refine y_bind (take_ok hr.2 (by omega) (by decide)) fun t ht => ?_
    refine y_bind (Q := fun (r : List Int × (List Int × Int)) => ((∀ x ∈ r.1, 0 ≤ x ∧ x < many) ∧ r.1.Nodup) ∧ StOk r.2 (n + many + 1)) (y_if (fun c => y_some ⟨⟨fun x hx => hr.1.1 x (List.mem_reverse.mp hx), (List.reverse_perm _).nodup_iff.mpr hr.1.2⟩, ht.2⟩) (fun c => y_some ⟨hr.1, ht.2⟩)) fun r hr => y_some hr
end L3

namespace L3
open PySem L2
/-! ### sets of states that grow or shrink -/
abbrev TSy := List (List (Int × List (Int × Int)))
def ixb (ks : List Bool) (x : Int) : Bool := ks.getD x.toNat false
def chs' (sys : TSy) (x : Int) : List (Int × List (Int × Int)) := sys.getD x.toNat []
def OKS (n : Nat) (sys : TSy) : Prop := sys.length = n ∧ n ≤ 1000 ∧ ∀ cs ∈ sys, cs.length ≤ 1000 ∧ ∀ c ∈ cs, c.2.length ≤ 1000 ∧ ∀ q ∈ c.2, 0 ≤ q.1 ∧ q.1 < (n : Int)
def InR (n : Nat) (x : Int) : Prop := 0 ≤ x ∧ x < (n : Int)
theorem ixb_ix {n : Nat} {ks : List Bool} {x : Int} (h : ks.length = n) (hx : InR n x) : ixL ks x = some (ixb ks x) := by
  obtain ⟨h0, h1⟩ := hx
  obtain ⟨k, rfl⟩ := Int.eq_ofNat_of_zero_le h0
  have hk : k < ks.length := by omega
  refine ixL_s (n := k) ?_ rfl
  unfold ixb
  rw [Int.toNat_natCast, List.getD_eq_getElem?_getD, List.getElem?_eq_getElem hk]
  rfl
theorem chs_ix {n : Nat} {sys : TSy} {x : Int} (h : OKS n sys) (hx : InR n x) : ixL sys x = some (chs' sys x) ∧ chs' sys x ∈ sys := by
  obtain ⟨h0, h1⟩ := hx
  obtain ⟨k, rfl⟩ := Int.eq_ofNat_of_zero_le h0
  have hk : k < sys.length := by have := h.1; omega
  have e : chs' sys (k : Int) = sys[k] := by
    unfold chs'
    rw [Int.toNat_natCast, List.getD_eq_getElem?_getD, List.getElem?_eq_getElem hk]
    rfl
  rw [e]
  exact ⟨ixL_s (List.getElem?_eq_getElem hk) rfl, List.getElem_mem hk⟩
theorem ends_r {n : Nat} {sys : TSy} {x : Int} {c : Int × List (Int × Int)} {q : Int × Int} (h : OKS n sys) (hx : InR n x) (hc : c ∈ chs' sys x) (hq : q ∈ c.2) : InR n q.1 := ((h.2.2 _ (chs_ix h hx).2).2 c hc).2 q hq
theorem ixb_set {ks : List Bool} {x y : Int} {b : Bool} (hx : 0 ≤ x) (hy : 0 ≤ y) (hl : x < (ks.length : Int)) : ixb (ks.set x.toNat b) y = if y = x then b else ixb ks y := by
  obtain ⟨i, rfl⟩ := Int.eq_ofNat_of_zero_le hx
  obtain ⟨j, rfl⟩ := Int.eq_ofNat_of_zero_le hy
  unfold ixb
  simp only [Int.toNat_natCast, List.getD_eq_getElem?_getD]
  by_cases h : i = j
  · subst h
    rw [if_pos rfl, List.getElem?_set_self (by omega)]
    rfl
  · rw [if_neg (by omega), List.getElem?_set_ne h]
def endsIn (e : List (Int × Int)) (ks : List Bool) : Bool := e.any fun q => ixb ks q.1
def allIn (e : List (Int × Int)) (ks : List Bool) : Bool := e.all fun q => ixb ks q.1
theorem ends_in_ok {n : Nat} {e : List (Int × Int)} {ks : List Bool} (h : ks.length = n) (he : ∀ q ∈ e, InR n q.1) : m_ends_in e ks = some (endsIn e ks) := by
  unfold m_ends_in
  exact bnd (any_some fun q hq => bnd (ixb_ix h (he q hq)) rfl) rfl
theorem all_in_ok {n : Nat} {e : List (Int × Int)} {ks : List Bool} (h : ks.length = n) (he : ∀ q ∈ e, InR n q.1) : m_all_in e ks = some (allIn e ks) := by
  unfold m_all_in
  exact bnd (all_some fun q hq => bnd (ixb_ix h (he q hq)) rfl) rfl
/-! ### a loop that flips marks while it can -/
def stepG (fl : Bool) (cond : List Bool → Int → Bool) (s : Bool × List Bool) (x : Int) : Bool × List Bool := if (ixb s.2 x == !fl) && cond s.2 x then (true, s.2.set x.toNat fl) else s
theorem cnt_set {ks : List Bool} {x : Int} {b : Bool} (hx : 0 ≤ x) (hl : x < (ks.length : Int)) (h : ixb ks x = !b) : (ks.set x.toNat b).count (!b) < ks.count (!b) := by
  obtain ⟨i, rfl⟩ := Int.eq_ofNat_of_zero_le hx
  have hi : i < ks.length := by omega
  unfold ixb at h
  rw [Int.toNat_natCast, List.getD_eq_getElem?_getD, List.getElem?_eq_getElem hi] at h
  have h : ks[i] = !b := h
  have e1 : ((!b) == (!b)) = true := by cases b <;> rfl
  have e2 : (b == !b) = false := by cases b <;> rfl
  have : 0 < ks.count (!b) := List.count_pos_iff.mpr (h ▸ List.getElem_mem hi)
  rw [Int.toNat_natCast, List.count_set hi, h, e1, e2, if_pos rfl, if_neg (by decide)]
  omega
theorem grow_ok {rest : List Int} {fl : Bool} {cond : List Bool → Int → Bool} {n : Nat} {ks0 : List Bool} (h0 : ks0.length = n) (hr : ∀ x ∈ rest, InR n x)
    (body : (Bool × List Bool) → Int → Option (Bool × List Bool)) (hb : ∀ s x, s.2.length = n → x ∈ rest → body s x = some (stepG fl cond s x))
    (Inv : List Bool → Prop) (hI0 : Inv ks0) (hI : ∀ ks x, ks.length = n → Inv ks → x ∈ rest → ixb ks x = !fl → cond ks x = true → Inv (ks.set x.toNat fl))
    (F : (Bool × List Bool) → Option (Stp (Bool × List Bool) Empty)) (hF : ∀ s, F s = if s.1 = true then Option.bind (foldO body (false, s.2) rest) fun s' => some (Stp.nx (s'.1, s'.2)) else some (Stp.bk (s.1, s.2))) :
    Yes (whileB F (true, ks0)) fun s => s.2.length = n ∧ Inv s.2 ∧ ∀ x ∈ rest, ixb s.2 x = !fl → cond s.2 x = false := by
  refine y_whileB F (fun s => s.2.length = n ∧ Inv s.2 ∧ (s.1 = false → ∀ x ∈ rest, ixb s.2 x = !fl → cond s.2 x = false)) (fun s => 2 * s.2.count (!fl) + if s.1 = true then 1 else 0) _ ⟨h0, hI0, fun h => (by cases h)⟩ ?_
  rintro ⟨g, ks⟩ ⟨h1, h2, h3⟩
  dsimp only at h1 h2 h3
  rw [hF]
  refine y_if (fun c => ?_) (fun c => y_some ⟨h1, h2, h3 (by simpa using c)⟩)
  have c : g = true := c
  subst c
  refine y_bind (y_foldI body (fun i s => s.2.length = n ∧ Inv s.2 ∧ (s.1 = false → s.2 = ks ∧ ∀ (j : Nat) x, j < i → rest[j]? = some x → ixb ks x = !fl → cond ks x = false) ∧ (s.1 = true → s.2.count (!fl) < ks.count (!fl)) ∧ s.2.count (!fl) ≤ ks.count (!fl)) ⟨h1, h2, fun _ => ⟨rfl, fun j x hj => absurd hj (by omega)⟩, fun h => (by cases h), Nat.le_refl _⟩ ?_) fun s' hs' => y_some ?_
  · rintro i x ⟨g', ks'⟩ hx ⟨k1, k2, k3, k4, k5⟩
    dsimp only at k1 k2 k3 k4 k5
    have hm := List.mem_of_getElem? hx
    obtain ⟨x0, x1⟩ := hr x hm
    refine ⟨_, hb _ x k1 hm, ?_⟩
    unfold stepG
    by_cases t : ((ixb ks' x == !fl) && cond ks' x) = true
    · rw [if_pos t]
      simp only [Bool.and_eq_true, beq_iff_eq] at t
      have hc := cnt_set x0 (by omega) t.1
      exact ⟨by simp [k1], hI _ _ k1 k2 hm t.1 t.2, fun h => (by cases h), fun _ => Nat.lt_of_lt_of_le hc k5, Nat.le_trans (Nat.le_of_lt hc) k5⟩
    · rw [if_neg t]
      refine ⟨k1, k2, fun h => ?_, k4, k5⟩
      obtain ⟨e, k6⟩ := k3 h
      have e : ks' = ks := e
      subst e
      refine ⟨rfl, fun j y hj hy hy2 => ?_⟩
      by_cases ej : j = i
      · subst ej
        rw [hx] at hy
        cases hy
        simp only [Bool.and_eq_true, beq_iff_eq, not_and, Bool.not_eq_true] at t
        exact t hy2
      · exact k6 j y (by omega) hy hy2
  · obtain ⟨k1, k2, k3, k4, k5⟩ := hs'
    refine ⟨⟨k1, k2, fun h x hx hx2 => ?_⟩, ?_⟩
    · obtain ⟨e, k6⟩ := k3 h
      obtain ⟨j, hj⟩ := List.getElem?_of_mem hx
      rw [e] at hx2 ⊢
      exact k6 j x (List.getElem?_eq_some_iff.mp hj).1 hj hx2
    · show 2 * s'.2.count (!fl) + (if s'.1 = true then 1 else 0) < 2 * ks.count (!fl) + 1
      by_cases g : s'.1 = true
      · rw [if_pos g]; have := k4 g; omega
      · rw [if_neg g]; omega
/-! ### what is reached -/
inductive Rch (st : Int → Int → Prop) (b : Int → Prop) : Int → Prop
  | base {x : Int} : b x → Rch st b x
  | step {x y : Int} : st x y → Rch st b y → Rch st b x
theorem Rch.mono {st st' : Int → Int → Prop} {b b' : Int → Prop} (h1 : ∀ x y, st x y → st' x y) (h2 : ∀ x, b x → b' x) {x : Int} (h : Rch st b x) : Rch st' b' x := by
  induction h with
  | base h => exact .base (h2 _ h)
  | step s _ ih => exact .step (h1 _ _ s) ih
theorem Rch.sub {st : Int → Int → Prop} {b X : Int → Prop} (h1 : ∀ x y, st x y → X y → X x) (h2 : ∀ x, b x → X x) {x : Int} (h : Rch st b x) : X x := by
  induction h with
  | base h => exact h2 _ h
  | step s _ ih => exact h1 _ _ s ih
/-- some choice of x has y as an end -/
def stS (sys : TSy) (rest : List Int) (x y : Int) : Prop := x ∈ rest ∧ ∃ c ∈ chs' sys x, ∃ q ∈ c.2, q.1 = y
theorem backward_ok {n : Nat} {sys : TSy} {rest : List Int} {ks : List Bool} (hs : OKS n sys) (hr : ∀ x ∈ rest, InR n x) (hk : ks.length = n) :
    Yes (m_backward sys rest ks) fun r => r.length = n ∧ ∀ x, InR n x → (ixb r x = true ↔ Rch (stS sys rest) (fun y => InR n y ∧ ixb ks y = true) x) := by
  unfold m_backward
  refine y_bind (grow_ok (fl := true) (cond := fun ks x => (chs' sys x).any fun c => endsIn c.2 ks) hk hr _ (fun s x hl hx => ?_) (fun k => (∀ x, InR n x → ixb ks x = true → ixb k x = true) ∧ ∀ x, InR n x → ixb k x = true → Rch (stS sys rest) (fun y => InR n y ∧ ixb ks y = true) x) ⟨fun _ _ h => h, fun x hx h => .base ⟨hx, h⟩⟩ ?_ _ fun _ => rfl) fun s hs' => y_some ?_
  · obtain ⟨c1, c2⟩ := chs_ix hs (hr x hx)
    refine bnd (ixb_ix hl (hr x hx)) ?_
    show _ = some (if ((ixb s.2 x == !true) && (chs' sys x).any fun c => endsIn c.2 s.2) = true then (true, s.2.set x.toNat true) else s)
    cases hv : ixb s.2 x with
    | true => rfl
    | false =>
      refine bnd (a := (chs' sys x).any fun c => endsIn c.2 s.2) ?_ ?_
      · refine bnd c1 (bnd (any_some (g := fun c => endsIn c.2 s.2) fun c hc => ?_) rfl)
        exact bnd (ends_in_ok hl fun q hq => ends_r hs (hr x hx) hc hq) rfl
      · cases hc : (chs' sys x).any fun c => endsIn c.2 s.2 with
        | false => rfl
        | true =>
          refine bnd (bnd (ixO_s (i := x.toNat) (by have := (hr x hx).1; omega) (by have h1 := (hr x hx).1; have h2 := (hr x hx).2; omega)) rfl) rfl
  · rintro k x hl ⟨h1, h2⟩ hx hv hc
    have hxr := hr x hx
    refine ⟨fun y hy h => ?_, fun y hy h => ?_⟩
    · rw [ixb_set hxr.1 hy.1 (by have := hxr.2; omega)]
      split
      · rfl
      · exact h1 y hy h
    · rw [ixb_set hxr.1 hy.1 (by have := hxr.2; omega)] at h
      split at h
      · rename_i e
        subst e
        obtain ⟨c, hc1, hc2⟩ := List.any_eq_true.mp hc
        obtain ⟨q, hq1, hq2⟩ := List.any_eq_true.mp hc2
        exact .step ⟨hx, c, hc1, q, hq1, rfl⟩ (h2 q.1 (ends_r hs hxr hc1 hq1) hq2)
      · exact h2 y hy h
  · obtain ⟨l, ⟨h1, h2⟩, h3⟩ := hs'
    refine ⟨l, fun x hx => ⟨h2 x hx, fun h => ?_⟩⟩
    refine h.sub (X := fun x => ixb s.2 x = true) ?_ fun y hy => h1 y hy.1 hy.2
    rintro x y ⟨hx, c, hc, q, hq, rfl⟩ hy
    cases hv : ixb s.2 x with
    | true => rfl
    | false =>
      have := h3 x hx (by rw [hv]; rfl)
      rw [List.any_eq_false] at this
      have := this c hc
      exact absurd (List.any_eq_true.mpr ⟨q, hq, hy⟩) this
theorem marks_ok {n : Nat} {sys : TSy} {ta : List Int} (hs : OKS n sys) : ∃ r, m_marks sys ta = some r ∧ r.length = n ∧ ∀ x, InR n x → (ixb r x = true ↔ x ∈ ta) := by
  obtain ⟨l, l2, _⟩ := hs
  refine ⟨(rng 0 (sys.length : Int)).map fun x => decide (x ∈ ta), ?_, by rw [List.length_map, rng_len]; omega, fun x hx => ?_⟩
  · unfold m_marks
    exact bnd (small62_s (by omega) (by omega)) (bnd (room_s (by rw [rng_len]; omega)) (bnd (compM_map fun _ _ => rfl) rfl))
  · obtain ⟨h0, h1⟩ := hx
    obtain ⟨k, rfl⟩ := Int.eq_ofNat_of_zero_le h0
    have e : (rng 0 (sys.length : Int))[k]? = some (k : Int) := by
      unfold rng
      rw [List.getElem?_map, List.getElem?_range (by omega)]
      simp
    unfold ixb
    rw [Int.toNat_natCast, List.getD_eq_getElem?_getD, List.getElem?_map, e]
    simp
theorem never_ok {n : Nat} {sys : TSy} {al ta : List Int} (hs : OKS n sys) :
    Yes (m_never sys al ta) fun r => r.length = n ∧ (∀ x, InR n x → ixb r x = true → x ∉ ta ∧ (x ∈ restOf n al ta → ∃ c ∈ chs' sys x, ∀ q ∈ c.2, ixb r q.1 = true)) ∧
      ∀ X : Int → Prop, (∀ x, InR n x → X x → x ∉ ta ∧ (x ∈ restOf n al ta → ∃ c ∈ chs' sys x, ∀ q ∈ c.2, X q.1)) → ∀ x, InR n x → X x → ixb r x = true := by
  obtain ⟨l, l2, _⟩ := id hs
  have hr : ∀ x ∈ restOf (n : Int) al ta, InR n x := fun x hx => (rest_in hx).1
  unfold m_never
  refine y_eq (rest_ok (by omega)) (y_eq (small62_s (by omega) (by omega)) (y_eq (room_s (by rw [rng_len]; omega)) (y_eq (a := ((rng 0 (sys.length : Int)).map fun x => !decide (x ∈ ta), ())) (compM_map fun _ _ => rfl) ?_)))
  have h0 : ∀ x, InR n x → ixb ((rng 0 (sys.length : Int)).map fun x => !decide (x ∈ ta)) x = !decide (x ∈ ta) := by
    rintro x ⟨h0, h1⟩
    obtain ⟨k, rfl⟩ := Int.eq_ofNat_of_zero_le h0
    have e : (rng 0 (sys.length : Int))[k]? = some (k : Int) := by
      unfold rng
      rw [List.getElem?_map, List.getElem?_range (by omega)]
      simp
    unfold ixb
    rw [Int.toNat_natCast, List.getD_eq_getElem?_getD, List.getElem?_map, e]
    simp
  rw [l] at *
  refine y_bind (grow_ok (fl := false) (n := n) (rest := restOf n al ta) (cond := fun ks x => !(chs' sys x).any fun c => allIn c.2 ks) (by rw [List.length_map, rng_len]; omega) hr _ (fun s x hl hx => ?_) (fun k => (∀ x, InR n x → ixb k x = true → x ∉ ta) ∧ ∀ X : Int → Prop, (∀ x, InR n x → X x → x ∉ ta ∧ (x ∈ restOf n al ta → ∃ c ∈ chs' sys x, ∀ q ∈ c.2, X q.1)) → ∀ x, InR n x → X x → ixb k x = true) ⟨fun x hx h => ?_, fun X hX x hx h => ?_⟩ ?_ _ fun _ => rfl) fun s hs' => y_some ?_
  · obtain ⟨c1, c2⟩ := chs_ix hs (hr x hx)
    refine bnd (ixb_ix hl (hr x hx)) ?_
    show _ = some (if ((ixb s.2 x == !false) && !(chs' sys x).any fun c => allIn c.2 s.2) = true then (true, s.2.set x.toNat false) else s)
    cases hv : ixb s.2 x with
    | false => rfl
    | true =>
      refine bnd (a := !(chs' sys x).any fun c => allIn c.2 s.2) ?_ ?_
      · refine bnd c1 (bnd (any_some (g := fun c => allIn c.2 s.2) fun c hc => ?_) rfl)
        exact bnd (all_in_ok hl fun q hq => ends_r hs (hr x hx) hc hq) rfl
      · cases hc : (chs' sys x).any fun c => allIn c.2 s.2 with
        | true => rfl
        | false =>
          refine bnd (bnd (ixO_s (i := x.toNat) (by have := (hr x hx).1; omega) (by have h1 := (hr x hx).1; have h2 := (hr x hx).2; omega)) rfl) rfl
  · rw [h0 x hx] at h; simpa using h
  · rw [h0 x hx]; simpa using (hX x hx h).1
  · rintro k x hl ⟨h1, h2⟩ hx hv hc
    have hxr := hr x hx
    refine ⟨fun y hy h => ?_, fun X hX y hy h => ?_⟩
    · rw [ixb_set hxr.1 hy.1 (by have := hxr.2; omega)] at h
      split at h
      · cases h
      · exact h1 y hy h
    · rw [ixb_set hxr.1 hy.1 (by have := hxr.2; omega)]
      split
      · rename_i e
        subst e
        obtain ⟨c, hc1, hc2⟩ := (hX y hy h).2 hx
        have : ((chs' sys y).any fun c => allIn c.2 k) = true := List.any_eq_true.mpr ⟨c, hc1, List.all_eq_true.mpr fun q hq => h2 X hX q.1 (ends_r hs hxr hc1 hq) (hc2 q hq)⟩
        rw [this] at hc
        cases hc
      · exact h2 X hX y hy h
  · obtain ⟨l, ⟨h1, h2⟩, h3⟩ := hs'
    refine ⟨l, fun x hx hv => ⟨h1 x hx hv, fun hm => ?_⟩, h2⟩
    have := h3 x hm hv
    have this : ((chs' sys x).any fun c => allIn c.2 s.2) = true := by simpa using this
    obtain ⟨c, hc, hc2⟩ := List.any_eq_true.mp this
    exact ⟨c, hc, fun q hq => List.all_eq_true.mp hc2 q hq⟩
end L3

namespace L3
open PySem L2
/-- some choice of x within P has y as an end -/
def stP (sys : TSy) (rest : List Int) (P : Int → Prop) (x y : Int) : Prop := x ∈ rest ∧ ∃ c ∈ chs' sys x, (∀ q ∈ c.2, P q.1) ∧ ∃ q ∈ c.2, q.1 = y
theorem grown_ok {n : Nat} {sys : TSy} {rest ta : List Int} {ins : List Bool} (hs : OKS n sys) (hr : ∀ x ∈ rest, InR n x) (hk : ins.length = n) :
    Yes (m_grown_inside sys rest ta ins) fun r => r.length = n ∧ ∀ x, InR n x → (ixb r x = true ↔ Rch (stP sys rest fun y => ixb ins y = true) (fun y => y ∈ ta) x) := by
  unfold m_grown_inside
  obtain ⟨m, m1, m2, m3⟩ := marks_ok (ta := ta) hs
  refine y_eq m1 (y_bind (grow_ok (fl := true) (cond := fun ks x => (chs' sys x).any fun c => allIn c.2 ins && endsIn c.2 ks) m2 hr _ (fun s x hl hx => ?_) (fun k => (∀ x, InR n x → x ∈ ta → ixb k x = true) ∧ ∀ x, InR n x → ixb k x = true → Rch (stP sys rest fun y => ixb ins y = true) (fun y => y ∈ ta) x) ⟨fun x hx h => (m3 x hx).mpr h, fun x hx h => .base ((m3 x hx).mp h)⟩ ?_ _ fun _ => rfl) fun s hs' => y_some ?_)
  · obtain ⟨c1, c2⟩ := chs_ix hs (hr x hx)
    refine bnd (ixb_ix hl (hr x hx)) ?_
    show _ = some (if ((ixb s.2 x == !true) && (chs' sys x).any fun c => allIn c.2 ins && endsIn c.2 s.2) = true then (true, s.2.set x.toNat true) else s)
    cases hv : ixb s.2 x with
    | true => rfl
    | false =>
      refine bnd (a := (chs' sys x).any fun c => allIn c.2 ins && endsIn c.2 s.2) ?_ ?_
      · refine bnd c1 (bnd (any_some (g := fun c => allIn c.2 ins && endsIn c.2 s.2) fun c hc => ?_) rfl)
        refine bnd (all_in_ok hk fun q hq => ends_r hs (hr x hx) hc hq) ?_
        cases allIn c.2 ins with
        | false => rfl
        | true => exact bnd (bnd (ends_in_ok hl fun q hq => ends_r hs (hr x hx) hc hq) rfl) rfl
      · cases hc : (chs' sys x).any fun c => allIn c.2 ins && endsIn c.2 s.2 with
        | false => rfl
        | true =>
          refine bnd (bnd (ixO_s (i := x.toNat) (by have := (hr x hx).1; omega) (by have h1 := (hr x hx).1; have h2 := (hr x hx).2; omega)) rfl) rfl
  · rintro k x hl ⟨h1, h2⟩ hx hv hc
    have hxr := hr x hx
    refine ⟨fun y hy h => ?_, fun y hy h => ?_⟩
    · rw [ixb_set hxr.1 hy.1 (by have := hxr.2; omega)]
      split
      · rfl
      · exact h1 y hy h
    · rw [ixb_set hxr.1 hy.1 (by have := hxr.2; omega)] at h
      split at h
      · rename_i e
        subst e
        obtain ⟨c, hc1, hc2⟩ := List.any_eq_true.mp hc
        rw [Bool.and_eq_true] at hc2
        obtain ⟨q, hq1, hq2⟩ := List.any_eq_true.mp hc2.2
        exact .step ⟨hx, c, hc1, fun r hr => List.all_eq_true.mp hc2.1 r hr, q, hq1, rfl⟩ (h2 q.1 (ends_r hs hxr hc1 hq1) hq2)
      · exact h2 y hy h
  · obtain ⟨l, ⟨h1, h2⟩, h3⟩ := hs'
    refine ⟨l, fun x hx => ⟨h2 x hx, fun h => ?_⟩⟩
    refine h.sub (X := fun x => InR n x → ixb s.2 x = true) ?_ (fun y hy hr => h1 y hr hy) hx
    rintro x y ⟨hx, c, hc, ha, q, hq, rfl⟩ hy hxr
    cases hv : ixb s.2 x with
    | true => rfl
    | false =>
      have := h3 x hx (by rw [hv]; rfl)
      rw [List.any_eq_false] at this
      have := this c hc
      rw [Bool.and_eq_true] at this
      exact absurd ⟨List.all_eq_true.mpr fun r hr => ha r hr, List.any_eq_true.mpr ⟨q, hq, hy (ends_r hs hxr hc hq)⟩⟩ this
theorem cnt_lt : ∀ {xs ys : List Bool}, xs.length = ys.length → (∀ i : Nat, xs[i]? = some true → ys[i]? = some true) → xs ≠ ys → xs.count true < ys.count true
  | [], [], _, _, h => absurd rfl h
  | x :: xs, y :: ys, hl, h, hne => by
    have le : ∀ {xs ys : List Bool}, xs.length = ys.length → (∀ i : Nat, xs[i]? = some true → ys[i]? = some true) → xs.count true ≤ ys.count true := by
      intro xs
      induction xs with
      | nil => intro ys hl h; simp
      | cons x xs ih =>
        intro ys hl h
        cases ys with
        | nil => simp at hl
        | cons y ys =>
          have := ih (ys := ys) (by simpa using hl) fun i => by simpa using h (i + 1)
          have h0 := h 0
          simp at h0
          rw [List.count_cons, List.count_cons]
          cases x <;> cases y <;> simp at h0 ⊢ <;> omega
    have ht : ∀ i : Nat, xs[i]? = some true → ys[i]? = some true := fun i => by simpa using h (i + 1)
    have h0 := h 0
    simp at h0
    have hl : xs.length = ys.length := by simpa using hl
    rw [List.count_cons, List.count_cons]
    by_cases e : xs = ys
    · subst e
      cases x <;> cases y <;> simp at h0 hne ⊢
    · have := cnt_lt hl ht e
      cases x <;> cases y <;> simp at h0 ⊢ <;> omega
theorem ixb_get {ks : List Bool} {i : Nat} : ks[i]? = some true ↔ (i < ks.length ∧ ixb ks (i : Int) = true) := by
  unfold ixb
  rw [Int.toNat_natCast, List.getD_eq_getElem?_getD]
  constructor
  · intro h
    exact ⟨(List.getElem?_eq_some_iff.mp h).1, by rw [h]; rfl⟩
  · rintro ⟨h1, h2⟩
    rw [List.getElem?_eq_getElem h1] at h2 ⊢
    exact congrArg some h2
def IsSure (n : Nat) (sys : TSy) (rest ta : List Int) (r : List Bool) : Prop := r.length = n ∧ (∀ x, InR n x → (ixb r x = true ↔ Rch (stP sys rest fun y => ixb r y = true) (fun y => y ∈ ta) x)) ∧
  ∀ X : Int → Prop, (∀ x, X x → InR n x) → (∀ x, X x → Rch (stP sys rest X) (fun y => y ∈ ta) x) → ∀ x, X x → ixb r x = true
theorem surely_ok {n : Nat} {sys : TSy} {al ta : List Int} (hs : OKS n sys) : Yes (m_surely sys al ta) (IsSure n sys (restOf n al ta) ta) := by
  obtain ⟨l, l2, _⟩ := id hs
  have hr : ∀ x ∈ restOf (n : Int) al ta, InR n x := fun x hx => (rest_in hx).1
  unfold m_surely
  rw [l]
  have hro := rest_ok (sys := sys) (al := al) (ta := ta) (by omega)
  rw [l] at hro
  refine y_eq hro (y_eq (repL_s (by omega)) ?_)
  rw [rep_flat]
  have mono : ∀ (P Q : Int → Prop), (∀ x, InR n x → P x → Q x) → ∀ x, Rch (stP sys (restOf n al ta) P) (fun y => y ∈ ta) x → Rch (stP sys (restOf n al ta) Q) (fun y => y ∈ ta) x := fun P Q h x hx => hx.mono (fun x y ⟨a, c, b, d, e⟩ => ⟨a, c, b, fun q hq => h q.1 (ends_r hs (hr x a) b hq) (d q hq), e⟩) fun _ h => h
  refine y_bind (Q := fun o => match o with | .inl _ => False | .inr r => IsSure n sys (restOf n al ta) ta r) (y_while _ (fun ins => ins.length = n ∧ (∀ x, InR n x → Rch (stP sys (restOf n al ta) fun y => ixb ins y = true) (fun y => y ∈ ta) x → ixb ins x = true) ∧ ∀ X : Int → Prop, (∀ x, X x → InR n x) → (∀ x, X x → Rch (stP sys (restOf n al ta) X) (fun y => y ∈ ta) x) → ∀ x, X x → ixb ins x = true) (fun ins => ins.count true) _ ⟨by simp, fun x hx _ => ?_, fun X hX _ x hx => ?_⟩ ?_) fun o ho => ?_
  · obtain ⟨h0, h1⟩ := hx
    unfold ixb
    rw [List.getD_eq_getElem?_getD, List.getElem?_replicate, if_pos (by omega)]
    rfl
  · obtain ⟨h0, h1⟩ := hX x hx
    unfold ixb
    rw [List.getD_eq_getElem?_getD, List.getElem?_replicate, if_pos (by omega)]
    rfl
  · rintro ins ⟨h1, h2, h3⟩
    refine y_if (fun _ => ?_) (fun c => absurd rfl c)
    refine y_bind (grown_ok hs hr h1) fun f hf => ?_
    obtain ⟨f1, f2⟩ := hf
    refine y_if (fun c => y_some ?_) (fun c => y_some ?_)
    · have c := of_decide_eq_true c
      subst c
      exact ⟨f1, f2, h3⟩
    · have c : ¬ f = ins := fun z => c (decide_eq_true z)
      have sub : ∀ x, InR n x → ixb f x = true → ixb ins x = true := fun x hx h => h2 x hx ((f2 x hx).mp h)
      refine ⟨⟨f1, fun x hx h => (f2 x hx).mpr (mono _ _ sub _ h), fun X hX hX2 x hx => (f2 x (hX x hx)).mpr (mono _ _ (fun y _ hy => h3 X hX hX2 y hy) _ (hX2 x hx))⟩, cnt_lt (by omega) (fun i hi => ?_) c⟩
      obtain ⟨i1, i2⟩ := ixb_get.mp hi
      exact ixb_get.mpr ⟨by omega, sub _ ⟨by omega, by omega⟩ i2⟩
  · match o, ho with
    | .inr r, ho => exact y_some ho
/-! ### lists of states -/
theorem enumI_at {α : Type} : ∀ (k : Nat) (xs : List α) (i : Nat), (enumI k xs)[i]? = xs[i]?.map fun a => (((k + i : Nat) : Int), a)
  | _, [], _ => by simp [enumI]
  | k, x :: xs, 0 => by simp [enumI]
  | k, x :: xs, i + 1 => by
    show (enumI (k + 1) xs)[i]? = _
    rw [enumI_at (k + 1) xs i]
    simp [Nat.add_assoc, Nat.add_comm 1 i]
theorem rng_ix (n : Nat) (i : Nat) : (rng 0 (n : Int))[i]? = if i < n then some (i : Int) else none := by
  unfold rng
  rw [List.getElem?_map]
  split
  · rw [List.getElem?_range (by omega)]; simp
  · rw [List.getElem?_eq_none (by rw [List.length_range]; omega)]; rfl
theorem enumI_rng (ks : List Bool) : enumI 0 ks = (rng 0 (ks.length : Int)).map fun x => (x, ixb ks x) := by
  refine List.ext_getElem? fun i => ?_
  rw [enumI_at, List.getElem?_map, rng_ix]
  by_cases h : i < ks.length
  · rw [if_pos h, List.getElem?_eq_getElem h]
    simp [ixb, List.getD_eq_getElem?_getD, List.getElem?_eq_getElem h]
  · rw [if_neg h, List.getElem?_eq_none (by omega)]; rfl
theorem compM_pick {α : Type} {f : Unit → (α × Bool) → Option (Option α × Unit)} (hf : ∀ x, f () x = if x.2 = true then some (some x.1, ()) else some (none, ())) {g : α → Bool} : ∀ (xs : List α), compM f () (xs.map fun x => (x, g x)) = some (xs.filter g, ())
  | [] => rfl
  | x :: xs => by
    rw [List.map_cons]
    unfold compM
    rw [hf]
    cases hx : g x with
    | true => rw [if_pos rfl]; dsimp only; rw [compM_pick hf xs, List.filter_cons, hx]; rfl
    | false => rw [if_neg Bool.false_ne_true]; dsimp only; rw [compM_pick hf xs, List.filter_cons, hx]; rfl
theorem listed_ok {ks : List Bool} (h : ks.length ≤ 1000) : m_listed ks = some ((rng 0 (ks.length : Int)).filter (ixb ks)) := by
  unfold m_listed
  refine bnd (room_s (by rw [enumI_len]; omega)) ?_
  rw [enumI_rng]
  exact bnd (compM_pick (fun _ => rfl) _) rfl
theorem rng_in {n : Nat} {x : Int} : x ∈ rng 0 (n : Int) ↔ InR n x := by
  constructor
  · intro h; exact rng_mem h
  · rintro ⟨h0, h1⟩
    obtain ⟨k, rfl⟩ := Int.eq_ofNat_of_zero_le h0
    refine List.mem_of_getElem? (i := k) ?_
    rw [rng_ix, if_pos (by omega)]
def isPos (n : Nat) (sys : TSy) (al ta : List Int) (x : Int) : Prop := Rch (stS sys (restOf n al ta)) (fun y => InR n y ∧ y ∈ ta) x
noncomputable def dec (p : Prop) : Bool := @decide p (Classical.propDecidable p)
theorem dec_iff {p : Prop} : dec p = true ↔ p := @decide_eq_true_iff p (Classical.propDecidable p)
/-- the states with a property, in order -/
noncomputable def pick (n : Nat) (P : Int → Prop) : List Int := (rng 0 (n : Int)).filter fun x => dec (P x)
theorem pick_eq {n : Nat} {P : Int → Prop} {p : Int → Bool} (h : ∀ x, InR n x → (p x = true ↔ P x)) : (rng 0 (n : Int)).filter p = pick n P := by
  unfold pick
  refine List.filter_congr fun x hx => ?_
  have := h x (rng_in.mp hx)
  rw [Bool.eq_iff_iff, this, dec_iff]
theorem pick_congr {n : Nat} {P Q : Int → Prop} (h : ∀ x, InR n x → (P x ↔ Q x)) : pick n P = pick n Q := by
  unfold pick
  refine List.filter_congr fun x hx => ?_
  have := h x (rng_in.mp hx)
  rw [Bool.eq_iff_iff, dec_iff, dec_iff, this]
theorem pick_mem {n : Nat} {P : Int → Prop} {x : Int} : x ∈ pick n P ↔ InR n x ∧ P x := by
  unfold pick
  rw [List.mem_filter, rng_in, dec_iff]
theorem pick_len {n : Nat} {P : Int → Prop} : (pick n P).length ≤ n := by
  unfold pick
  refine Nat.le_trans (List.length_filter_le _ _) ?_
  rw [rng_len]; omega
theorem possible_ok {n : Nat} {sys : TSy} {al ta : List Int} (hs : OKS n sys) : m_possible sys al ta = some (pick n (isPos n sys al ta)) := by
  obtain ⟨l, l2, _⟩ := id hs
  have hr : ∀ x ∈ restOf (n : Int) al ta, InR n x := fun x hx => (rest_in hx).1
  have hro := rest_ok (sys := sys) (al := al) (ta := ta) (by omega)
  rw [l] at hro
  obtain ⟨m, m1, m2, m3⟩ := marks_ok (ta := ta) hs
  obtain ⟨b, b1, b2, b3⟩ := backward_ok hs hr m2
  unfold m_possible
  refine bnd hro (bnd m1 (bnd b1 (bnd (listed_ok (by omega)) ?_)))
  rw [b2]
  refine congrArg some (pick_eq fun x hx => (b3 x hx).trans ?_)
  constructor
  · exact fun h => h.mono (fun _ _ h => h) fun y hy => ⟨hy.1, (m3 y hy.1).mp hy.2⟩
  · exact fun h => h.mono (fun _ _ h => h) fun y hy => ⟨hy.1, (m3 y hy.1).mpr hy.2⟩
/-- the set within which one can stay away from the targets -/
structure IsNev (n : Nat) (sys : TSy) (al ta : List Int) (N : Int → Prop) : Prop where
  r : ∀ x, N x → InR n x
  out : ∀ x, N x → x ∉ ta
  st : ∀ x, N x → x ∈ restOf n al ta → ∃ c ∈ chs' sys x, ∀ q ∈ c.2, N q.1
def isNev (n : Nat) (sys : TSy) (al ta : List Int) (x : Int) : Prop := ∃ N, IsNev n sys al ta N ∧ N x
theorem nev_self {n : Nat} {sys : TSy} {al ta : List Int} : IsNev n sys al ta (isNev n sys al ta) := ⟨fun x ⟨N, h, hx⟩ => h.r x hx, fun x ⟨N, h, hx⟩ => h.out x hx, fun x ⟨N, h, hx⟩ hm => by
  obtain ⟨c, hc, hq⟩ := h.st x hx hm
  exact ⟨c, hc, fun q hqq => ⟨N, h, hq q hqq⟩⟩⟩
theorem never_iff {n : Nat} {sys : TSy} {al ta : List Int} (hs : OKS n sys) : Yes (m_never sys al ta) fun r => r.length = n ∧ ∀ x, InR n x → (ixb r x = true ↔ isNev n sys al ta x) := by
  refine (never_ok hs).mono fun r ⟨h1, h2, h3⟩ => ⟨h1, fun x hx => ⟨fun h => ?_, fun ⟨N, hN, hx2⟩ => h3 N (fun y hy hNy => ⟨hN.out y hNy, hN.st y hNy⟩) x hx hx2⟩⟩
  refine ⟨fun y => InR n y ∧ ixb r y = true, ⟨fun y hy => hy.1, fun y hy => (h2 y hy.1 hy.2).1, fun y hy hm => ?_⟩, hx, h⟩
  obtain ⟨c, hc, hq⟩ := (h2 y hy.1 hy.2).2 hm
  exact ⟨c, hc, fun q hqq => ⟨ends_r hs hy.1 hc hqq, hq q hqq⟩⟩
theorem avoidable_ok {n : Nat} {sys : TSy} {al ta : List Int} (hs : OKS n sys) : m_avoidable sys al ta = some (pick n (isNev n sys al ta)) := by
  obtain ⟨r, r1, r2, r3⟩ := never_iff (al := al) (ta := ta) hs
  have := hs.2.1
  unfold m_avoidable
  refine bnd r1 (bnd (listed_ok (by omega)) ?_)
  rw [r2]
  exact congrArg some (pick_eq r3)
/-- the greatest set from which the targets are reached within it -/
structure IsAtt (n : Nat) (sys : TSy) (al ta : List Int) (X : Int → Prop) : Prop where
  r : ∀ x, X x → InR n x
  st : ∀ x, X x → Rch (stP sys (restOf n al ta) X) (fun y => y ∈ ta) x
def isAtt (n : Nat) (sys : TSy) (al ta : List Int) (x : Int) : Prop := ∃ X, IsAtt n sys al ta X ∧ X x
theorem att_self {n : Nat} {sys : TSy} {al ta : List Int} : IsAtt n sys al ta (isAtt n sys al ta) := ⟨fun x ⟨N, h, hx⟩ => h.r x hx, fun x ⟨N, h, hx⟩ => (h.st x hx).mono (fun x y ⟨a, c, b, d, e⟩ => ⟨a, c, b, fun q hq => ⟨N, h, d q hq⟩, e⟩) fun _ h => h⟩
theorem surely_iff {n : Nat} {sys : TSy} {al ta : List Int} (hs : OKS n sys) : Yes (m_surely sys al ta) fun r => r.length = n ∧ ∀ x, InR n x → (ixb r x = true ↔ isAtt n sys al ta x) := by
  have hr : ∀ x ∈ restOf (n : Int) al ta, InR n x := fun x hx => (rest_in hx).1
  refine (surely_ok hs).mono fun r ⟨h1, h2, h3⟩ => ⟨h1, fun x hx => ⟨fun h => ?_, fun ⟨X, hX, hx2⟩ => h3 X hX.r hX.st x hx2⟩⟩
  refine ⟨fun y => InR n y ∧ ixb r y = true, ⟨fun y hy => hy.1, fun y hy => ?_⟩, hx, h⟩
  exact ((h2 y hy.1).mp hy.2).mono (fun x y ⟨a, c, b, d, e⟩ => ⟨a, c, b, fun q hq => ⟨ends_r hs (hr x a) b hq, d q hq⟩, e⟩) fun _ h => h
theorem attainable_ok {n : Nat} {sys : TSy} {al ta : List Int} (hs : OKS n sys) : m_attainable sys al ta = some (pick n (isAtt n sys al ta)) := by
  obtain ⟨r, r1, r2, r3⟩ := surely_iff (al := al) (ta := ta) hs
  have := hs.2.1
  unfold m_attainable
  refine bnd r1 (bnd (listed_ok (by omega)) ?_)
  rw [r2]
  exact congrArg some (pick_eq r3)
/-- from where the never set is reached -/
def isLost (n : Nat) (sys : TSy) (al ta : List Int) (x : Int) : Prop := Rch (stS sys (restOf n al ta)) (isNev n sys al ta) x
theorem certain_ok {n : Nat} {sys : TSy} {al ta : List Int} (hs : OKS n sys) : m_certain sys al ta = some (pick n fun x => ¬ isLost n sys al ta x) := by
  obtain ⟨l, l2, _⟩ := id hs
  have hr : ∀ x ∈ restOf (n : Int) al ta, InR n x := fun x hx => (rest_in hx).1
  have hro := rest_ok (sys := sys) (al := al) (ta := ta) (by omega)
  obtain ⟨r, r1, r2, r3⟩ := never_iff (al := al) (ta := ta) hs
  obtain ⟨b, b1, b2, b3⟩ := backward_ok hs hr r2
  rw [← l] at b1
  unfold m_certain
  refine bnd hro (bnd r1 (bnd b1 (bnd (small62_s (by omega) (by omega)) (bnd (room_s (by rw [rng_len]; omega)) (bnd (compM_filter (p := fun x => !ixb b x) fun x hx => ?_) ?_)))))
  · exact bnd (ixb_ix b2 (rng_in.mp (by rw [← l]; exact hx))) rfl
  · rw [l]
    refine congrArg some (pick_eq fun x hx => ?_)
    rw [Bool.not_eq_true', ← Bool.not_eq_true, b3 x hx]
    refine not_congr ⟨fun h => h.mono (fun _ _ h => h) fun y hy => (r3 y hy.1).mp hy.2, fun h => h.mono (fun _ _ h => h) fun y hy => ⟨nev_self.r y hy, (r3 y (nev_self.r y hy)).mpr hy⟩⟩
end L3

namespace L3
open PySem L2
/-! ### policies and sets of states -/
theorem least {P : Nat → Prop} (h : ∃ k, P k) : ∃ k, P k ∧ ∀ j, j < k → ¬ P j := by
  obtain ⟨k, hk⟩ := h
  induction k using Nat.strongRecOn with
  | ind k ih =>
    by_cases e : ∃ j, j < k ∧ P j
    · obtain ⟨j, hj, hp⟩ := e
      exact ih j hj hp
    · exact ⟨k, hk, fun j hj hp => e ⟨j, hj, hp⟩⟩
def RchN (st : Int → Int → Prop) (b : Int → Prop) : Nat → Int → Prop
  | 0, x => b x
  | k + 1, x => RchN st b k x ∨ ∃ y, st x y ∧ RchN st b k y
theorem rch_n {st : Int → Int → Prop} {b : Int → Prop} {x : Int} (h : Rch st b x) : ∃ k, RchN st b k x := by
  induction h with
  | base h => exact ⟨0, h⟩
  | step s _ ih => obtain ⟨k, hk⟩ := ih; exact ⟨k + 1, .inr ⟨_, s, hk⟩⟩
theorem n_rch {st : Int → Int → Prop} {b : Int → Prop} : ∀ {k : Nat} {x : Int}, RchN st b k x → Rch st b x
  | 0, _, h => .base h
  | _ + 1, _, .inl h => n_rch h
  | _ + 1, _, .inr ⟨_, s, h⟩ => .step s (n_rch h)
noncomputable def rkk (st : Int → Int → Prop) (b : Int → Prop) (x : Int) : Nat := @dite Nat (∃ k, RchN st b k x) (Classical.propDecidable _) (fun h => Classical.choose (least h)) fun _ => 0
theorem rkk_ok {st : Int → Int → Prop} {b : Int → Prop} {x : Int} (h : Rch st b x) : b x ∨ ∃ y, st x y ∧ Rch st b y ∧ rkk st b y < rkk st b x := by
  have hx := rch_n h
  have ex : rkk st b x = Classical.choose (least hx) := dif_pos hx
  obtain ⟨h1, h2⟩ := Classical.choose_spec (least hx)
  rw [← ex] at h1 h2
  cases e : rkk st b x with
  | zero => rw [e] at h1; exact .inl h1
  | succ k =>
    rw [e] at h1
    rcases h1 with h1 | ⟨y, s, hy⟩
    · exact absurd h1 (h2 k (by omega))
    · right
      refine ⟨y, s, n_rch hy, ?_⟩
      have hy' : ∃ k, RchN st b k y := ⟨k, hy⟩
      have ey : rkk st b y = Classical.choose (least hy') := dif_pos hy'
      obtain ⟨g1, g2⟩ := Classical.choose_spec (least hy')
      rw [← ey] at g1 g2
      refine Nat.lt_of_not_le fun z => g2 k (by omega) hy
/-- the choice of a policy -/
def chc (sys : TSy) (p : List Int) (x : Int) : Int × List (Int × Int) := (chs' sys x).getD (p.getD x.toNat 0).toNat (0, [])
def VP (n : Nat) (sys : TSy) (p : List Int) : Prop := p.length = n ∧ ∀ x, InR n x → 0 ≤ p.getD x.toNat 0 ∧ p.getD x.toNat 0 < ((chs' sys x).length : Int)
theorem chc_mem {n : Nat} {sys : TSy} {p : List Int} {x : Int} (h : VP n sys p) (hx : InR n x) : chc sys p x ∈ chs' sys x := by
  obtain ⟨h0, h1⟩ := h.2 x hx
  unfold chc
  generalize p.getD x.toNat 0 = i at *
  have hi : i.toNat < (chs' sys x).length := by omega
  rw [List.getD_eq_getElem?_getD, List.getElem?_eq_getElem hi]
  exact List.getElem_mem hi
theorem pickPol {n : Nat} {sys : TSy} (hne : ∀ x, InR n x → chs' sys x ≠ []) (R : Int → (Int × List (Int × Int)) → Prop) : ∃ p, VP n sys p ∧ ∀ x, InR n x → (∃ c ∈ chs' sys x, R x c) → R x (chc sys p x) := by
  have key : ∀ x : Int, InR n x → ∃ i : Nat, i < (chs' sys x).length ∧ ((∃ c ∈ chs' sys x, R x c) → R x ((chs' sys x).getD i (0, []))) := by
    intro x hx
    by_cases e : ∃ c ∈ chs' sys x, R x c
    · obtain ⟨c, hc, hr⟩ := e
      obtain ⟨i, hi⟩ := List.getElem?_of_mem hc
      refine ⟨i, (List.getElem?_eq_some_iff.mp hi).1, fun _ => ?_⟩
      rw [List.getD_eq_getElem?_getD, hi]
      exact hr
    · exact ⟨0, List.length_pos_iff.mpr (hne x hx), fun h => absurd h e⟩
  let g : Int → Nat := fun x => @dite Nat (InR n x) (Classical.propDecidable _) (fun h => Classical.choose (key x h)) fun _ => 0
  have hg : ∀ x, InR n x → g x < (chs' sys x).length ∧ ((∃ c ∈ chs' sys x, R x c) → R x ((chs' sys x).getD (g x) (0, []))) := fun x hx => by
    have e : g x = Classical.choose (key x hx) := dif_pos hx
    rw [e]
    exact Classical.choose_spec (key x hx)
  have hp : ∀ x, InR n x → ((rng 0 (n : Int)).map fun x => (g x : Int)).getD x.toNat 0 = (g x : Int) := by
    rintro x ⟨h0, h1⟩
    obtain ⟨k, rfl⟩ := Int.eq_ofNat_of_zero_le h0
    rw [List.getD_eq_getElem?_getD, List.getElem?_map, Int.toNat_natCast, rng_ix, if_pos (by omega)]
    rfl
  refine ⟨(rng 0 (n : Int)).map fun x => (g x : Int), ⟨by rw [List.length_map, rng_len]; omega, fun x hx => ?_⟩, fun x hx h => ?_⟩
  · rw [hp x hx]
    have := (hg x hx).1
    omega
  · unfold chc
    rw [hp x hx, Int.toNat_natCast]
    exact (hg x hx).2 h
def stC (sys : TSy) (p : List Int) (rest : List Int) (x y : Int) : Prop := x ∈ rest ∧ ∃ q ∈ (chc sys p x).2, q.1 = y
def canP (n : Nat) (sys : TSy) (p : List Int) (al ta : List Int) (x : Int) : Prop := Rch (stC sys p (restOf n al ta)) (fun y => InR n y ∧ y ∈ ta) x
def lostP (n : Nat) (sys : TSy) (p : List Int) (al ta : List Int) (x : Int) : Prop := Rch (stC sys p (restOf n al ta)) (fun y => InR n y ∧ ¬ canP n sys p al ta y) x
section
variable {n : Nat} {sys : TSy} {al ta : List Int} {x : Int}
theorem rest_r {x : Int} (h : x ∈ restOf (n : Int) al ta) : InR n x := (rest_in h).1
theorem stC_S {p : List Int} (hp : VP n sys p) {x y : Int} (h : stC sys p (restOf n al ta) x y) : stS sys (restOf n al ta) x y := ⟨h.1, _, chc_mem hp (rest_r h.1), h.2⟩
/-- by ranks -/
theorem by_rank {st : Int → Int → Prop} {b : Int → Prop} {T : Int → Prop} (h : ∀ x, Rch st b x → (∀ y, Rch st b y → rkk st b y < rkk st b x → T y) → T x) {x : Int} (hx : Rch st b x) : T x := by
  have key : ∀ (k : Nat) (x : Int), rkk st b x < k → Rch st b x → T x := by
    intro k
    induction k with
    | zero => intro x h; omega
    | succ k ih => exact fun x hk hx => h x hx fun y hy hl => ih y (by omega) hy
  exact key _ x (Nat.lt_succ_self _) hx
theorem pos_iff (hne : ∀ x, InR n x → chs' sys x ≠ []) : (∃ p, VP n sys p ∧ canP n sys p al ta x) ↔ isPos n sys al ta x := by
  constructor
  · rintro ⟨p, hp, h⟩
    exact h.mono (fun _ _ h => stC_S hp h) fun _ h => h
  · intro h
    obtain ⟨p, hp, hR⟩ := pickPol hne fun x c => ∃ q ∈ c.2, isPos n sys al ta q.1 ∧ rkk (stS sys (restOf n al ta)) (fun y => InR n y ∧ y ∈ ta) q.1 < rkk (stS sys (restOf n al ta)) (fun y => InR n y ∧ y ∈ ta) x
    refine ⟨p, hp, by_rank (T := canP n sys p al ta) (fun x hx ih => ?_) h⟩
    rcases rkk_ok hx with hb | ⟨y, ⟨hm, c, hc, q, hq, rfl⟩, hy, hl⟩
    · exact .base hb
    · obtain ⟨q', hq', h1, h2⟩ := hR x (rest_r hm) ⟨c, hc, q, hq, hy, hl⟩
      exact .step ⟨hm, q', hq', rfl⟩ (ih q'.1 h1 h2)
theorem nev_can {p : List Int} (hR : ∀ x, isNev n sys al ta x → x ∈ restOf n al ta → ∀ q ∈ (chc sys p x).2, isNev n sys al ta q.1) {y : Int} (h : canP n sys p al ta y) : ¬ isNev n sys al ta y := by
  refine h.sub (X := fun y => ¬ isNev n sys al ta y) ?_ fun y hy hn => nev_self.out y hn hy.2
  rintro x y ⟨hm, q, hq, rfl⟩ hy hx
  exact hy (hR x hx hm q hq)
theorem nev_of {p : List Int} (hs : OKS n sys) (hp : VP n sys p) (hx : InR n x) (h : ¬ canP n sys p al ta x) : isNev n sys al ta x := by
  refine ⟨fun y => InR n y ∧ ¬ canP n sys p al ta y, ⟨fun y hy => hy.1, fun y hy ht => hy.2 (.base ⟨hy.1, ht⟩), fun y hy hm => ?_⟩, hx, h⟩
  have hc := chc_mem hp hy.1
  exact ⟨_, hc, fun q hq => ⟨ends_r hs hy.1 hc hq, fun z => hy.2 (.step ⟨hm, q, hq, rfl⟩ z)⟩⟩
theorem nev_iff (hs : OKS n sys) (hne : ∀ x, InR n x → chs' sys x ≠ []) (hx : InR n x) : (∃ p, VP n sys p ∧ ¬ canP n sys p al ta x) ↔ isNev n sys al ta x := by
  constructor
  · rintro ⟨p, hp, h⟩
    exact nev_of hs hp hx h
  · intro h
    obtain ⟨p, hp, hR⟩ := pickPol hne fun _ c => ∀ q ∈ c.2, isNev n sys al ta q.1
    exact ⟨p, hp, fun z => nev_can (fun y hy hm => hR y (rest_r hm) (nev_self.st y hy hm)) z h⟩
theorem att_iff (hs : OKS n sys) (hne : ∀ x, InR n x → chs' sys x ≠ []) (hx : InR n x) : (∃ p, VP n sys p ∧ ¬ lostP n sys p al ta x) ↔ isAtt n sys al ta x := by
  constructor
  · rintro ⟨p, hp, h⟩
    refine ⟨fun y => InR n y ∧ ¬ lostP n sys p al ta y, ⟨fun y hy => hy.1, fun y hy => ?_⟩, hx, h⟩
    have hc : canP n sys p al ta y := Classical.byContradiction fun z => hy.2 (.base ⟨hy.1, z⟩)
    clear h hx
    induction hc with
    | base h => exact .base h.2
    | @step x y s _ ih =>
      obtain ⟨hm, q, hq, rfl⟩ := s
      have hc := chc_mem hp hy.1
      have all : ∀ r ∈ (chc sys p x).2, InR n r.1 ∧ ¬ lostP n sys p al ta r.1 := fun r hr => ⟨ends_r hs hy.1 hc hr, fun z => hy.2 (.step ⟨hm, r, hr, rfl⟩ z)⟩
      exact .step ⟨hm, _, hc, all, q, hq, rfl⟩ (ih (all q hq))
  · intro h
    let S := stP sys (restOf n al ta) (isAtt n sys al ta)
    let b : Int → Prop := fun y => y ∈ ta
    obtain ⟨p, hp, hR⟩ := pickPol hne fun x c => (∀ q ∈ c.2, isAtt n sys al ta q.1) ∧ ∃ q ∈ c.2, Rch S b q.1 ∧ rkk S b q.1 < rkk S b x
    have pol : ∀ x, Rch S b x → x ∈ restOf n al ta → (∀ q ∈ (chc sys p x).2, isAtt n sys al ta q.1) ∧ ∃ q ∈ (chc sys p x).2, Rch S b q.1 ∧ rkk S b q.1 < rkk S b x := fun x hx hm => by
      rcases rkk_ok hx with hb | ⟨y, ⟨hm, c, hc, ha, q, hq, rfl⟩, hy, hl⟩
      · exact absurd hb (rest_in hm).2.2
      · exact hR x (rest_r hm) ⟨c, hc, ha, q, hq, hy, hl⟩
    have can : ∀ x, Rch S b x → InR n x → canP n sys p al ta x := fun x hx => by
      refine by_rank (T := fun x => InR n x → canP n sys p al ta x) (fun x hx ih hr => ?_) hx
      rcases rkk_ok hx with hb | ⟨y, ⟨hm, _⟩, _⟩
      · exact .base ⟨hr, hb⟩
      · obtain ⟨_, q, hq, h1, h2⟩ := pol x hx hm
        exact .step ⟨hm, q, hq, rfl⟩ (ih q.1 h1 h2 (ends_r hs hr (chc_mem hp hr) hq))
    refine ⟨p, hp, fun z => ?_⟩
    refine z.sub (X := fun y => ¬ isAtt n sys al ta y) ?_ (fun y hy ha => hy.2 (can y (att_self.st y ha) hy.1)) h
    rintro x y ⟨hm, q, hq, rfl⟩ hy hx
    exact hy ((pol x (att_self.st x hx) hm).1 q hq)
theorem lost_iff (hs : OKS n sys) (hne : ∀ x, InR n x → chs' sys x ≠ []) : (∃ p, VP n sys p ∧ lostP n sys p al ta x) ↔ isLost n sys al ta x := by
  constructor
  · rintro ⟨p, hp, h⟩
    exact h.mono (fun _ _ h => stC_S hp h) fun y hy => nev_of hs hp hy.1 hy.2
  · intro h
    let S := stS sys (restOf n al ta)
    let b := isNev n sys al ta
    obtain ⟨p, hp, hR⟩ := pickPol hne fun x c => (isNev n sys al ta x → ∀ q ∈ c.2, isNev n sys al ta q.1) ∧ (¬ isNev n sys al ta x → ∃ q ∈ c.2, Rch S b q.1 ∧ rkk S b q.1 < rkk S b x)
    have nc : ∀ {y}, canP n sys p al ta y → ¬ isNev n sys al ta y := nev_can fun y hy hm => by
      obtain ⟨c, hc, ha⟩ := nev_self.st y hy hm
      exact (hR y (rest_r hm) ⟨c, hc, fun _ => ha, fun z => absurd hy z⟩).1 hy
    refine ⟨p, hp, by_rank (T := lostP n sys p al ta) (fun x hx ih => ?_) h⟩
    by_cases hn : isNev n sys al ta x
    · exact .base ⟨nev_self.r x hn, fun z => nc z hn⟩
    · rcases rkk_ok hx with hb | ⟨y, ⟨hm, c, hc, q, hq, rfl⟩, hy, hl⟩
      · exact absurd hb hn
      · obtain ⟨_, h2⟩ := hR x (rest_r hm) ⟨c, hc, fun z => absurd z hn, fun _ => ⟨q, hq, hy, hl⟩⟩
        obtain ⟨q', hq', h3, h4⟩ := h2 hn
        exact .step ⟨hm, q', hq', rfl⟩ (ih q'.1 h3 h4)
end
end L3

namespace L3
open PySem L2
theorem putI_len (k v : Int) : ∀ l : List (Int × Int), (putI l k v).length ≤ l.length + 1 ∧ 1 ≤ (putI l k v).length
  | [] => ⟨Nat.le_refl _, Nat.le_refl _⟩
  | q :: l => by
    have ih := putI_len k v l
    by_cases h : q.1 = k
    · unfold putI; rw [if_pos h]; simp
    · rw [putI_cons_ne h]; simp; omega
theorem putI_mem (k v : Int) : ∀ (l : List (Int × Int)) (q : Int × Int), q ∈ putI l k v → q.2 = v ∨ ∃ q' ∈ l, q.2 = q'.2
  | [], q, h => by
    have h : q ∈ [(k, v)] := h
    left; rw [List.mem_singleton.mp h]
  | p :: l, q, h => by
    by_cases e : p.1 = k
    · unfold putI at h
      rw [if_pos e] at h
      rcases List.mem_cons.mp h with rfl | h
      · exact .inl rfl
      · obtain ⟨q', h1, h2⟩ := List.mem_map.mp h
        by_cases e2 : q'.1 = k
        · rw [if_pos e2] at h2; left; rw [← h2]
        · rw [if_neg e2] at h2; right; exact ⟨q', List.mem_cons_of_mem _ h1, by rw [h2]⟩
    · rw [putI_cons_ne e] at h
      rcases List.mem_cons.mp h with rfl | h
      · exact .inr ⟨_, List.mem_cons_self, rfl⟩
      · rcases putI_mem k v l q h with h | ⟨q', h1, h2⟩
        · exact .inl h
        · exact .inr ⟨q', List.mem_cons_of_mem _ h1, h2⟩
theorem putI_keys (k v : Int) : ∀ l : List (Int × Int), (putI l k v).map (·.1) = if k ∈ l.map (·.1) then l.map (·.1) else l.map (·.1) ++ [k]
  | [] => rfl
  | q :: l => by
    by_cases e : q.1 = k
    · unfold putI
      rw [if_pos e, if_pos (by rw [← e]; simp)]
      rw [List.map_cons, List.map_cons, List.map_map]
      congr 1
      refine List.map_congr_left fun r _ => ?_
      show (if r.1 = k then (r.1, v) else r).1 = r.1
      split <;> rfl
    · rw [putI_cons_ne e, List.map_cons, putI_keys k v l, List.map_cons]
      by_cases h : k ∈ l.map (·.1)
      · rw [if_pos h, if_pos (List.mem_cons_of_mem _ h)]
      · rw [if_neg h, if_neg (fun z => (List.mem_cons.mp z).elim (fun w => e w.symm) h)]
        rfl
theorem putI_nodup {k v : Int} {l : List (Int × Int)} (h : (l.map (·.1)).Nodup) : ((putI l k v).map (·.1)).Nodup := by
  rw [putI_keys]
  split
  · exact h
  · rename_i hk
    exact List.nodup_append.mpr ⟨h, by simp, fun a ha b hb => by rw [List.mem_singleton.mp hb]; exact fun z => hk (z ▸ ha)⟩
theorem sortI_sorted (l : List (Int × Int)) : (sortI l).Pairwise fun a b => a.1 < b.1 ∨ a.1 = b.1 ∧ a.2 ≤ b.2 := by
  refine (List.pairwise_mergeSort (le := leI) (fun a b c h1 h2 => ?_) (fun a b => ?_) l).imp fun {a b} h => ?_
  · unfold leI at *
    rw [Bool.not_eq_true'] at *
    have a1 := SrtO.lexB_no.mp h1
    have a2 := SrtO.lexB_no.mp h2
    refine SrtO.lexB_no.mpr ?_
    omega
  · unfold leI
    cases e : SrtO.lexB b a with
    | false => rfl
    | true =>
      have a1 := SrtO.lexB_iff.mp e
      have a2 : SrtO.lexB a b = false := SrtO.lexB_no.mpr (by omega)
      rw [a2]; rfl
  · unfold leI at h
    rw [Bool.not_eq_true'] at h
    have := SrtO.lexB_no.mp h
    omega
theorem ve_sort {many : Nat} {d : List (Int × Int)} (h1 : d ≠ []) (h2 : d.length ≤ many) (h3 : ∀ q ∈ d, 0 ≤ q.1 ∧ q.1 < (many : Int) ∧ 1 ≤ q.2 ∧ q.2 ≤ 1000) (h4 : (d.map (·.1)).Nodup) : VE many (sortI d) := by
  have p := sortI_perm d
  refine ⟨fun z => h1 ?_, by rw [p.length_eq]; exact h2, fun q hq => h3 q (p.mem_iff.mp hq), ?_⟩
  · rw [z] at p; exact p.symm.eq_nil
  · have n := ((p.map (·.1)).nodup_iff).mpr h4
    have n : (sortI d).Pairwise fun a b => a.1 ≠ b.1 := List.pairwise_map.mp n
    exact (n.and (sortI_sorted d)).imp fun {a b} h => by omega
/-- a drawn larger system -/
def LS (many : Nat) (s : List (List (Int × List (Int × Int)))) : Prop := s.length = many ∧ ∀ cs ∈ s, (1 ≤ cs.length ∧ cs.length ≤ 6) ∧ ∀ c ∈ cs, VC many c ∧ c.2.length ≤ 6
theorem large_ok {st : List Int × Int} {n many : Int} (hs : StOk st n) (hn : n < 2 ^ 48) (h1 : 1 ≤ many) (h2 : many ≤ 99) : Yes (m_l_large st many) fun r => LS many.toNat r.1 ∧ StOk r.2 (n + 1000 * many) := by
  unfold m_l_large
  refine y_eq (small62_s (by omega) (by omega)) ?_
  refine y_bind (Q := fun (p : TS' × (List Int × Int)) => LS many.toNat p.1 ∧ StOk p.2 (n + 1000 * many)) ?_ fun p hp => y_some hp
  refine (y_foldI _ (fun i (p : TS' × (List Int × Int)) => p.1.length = i ∧ (∀ cs ∈ p.1, (1 ≤ cs.length ∧ cs.length ≤ 6) ∧ ∀ c ∈ cs, VC many.toNat c ∧ c.2.length ≤ 6) ∧ StOk p.2 (n + 1000 * i)) ⟨rfl, by simp, by simpa using hs⟩ ?_).mono fun p hp => ?_
  · rintro i x ⟨e, st⟩ hx ⟨g1, g2, g3⟩
    obtain ⟨e1, e2⟩ := rng_at hx
    dsimp only at g1 g2 g3
    refine y_bind (take_ok g3 (by omega) (by decide)) fun t31 h31 => ?_
    refine y_bind (ixL_lit (P := fun z => 1 ≤ z ∧ z ≤ 6) h31.1.1 h31.1.2 (by decide)) fun t33 h33 => ?_
    refine y_eq (small62_s (by omega) (by omega)) ?_
    refine y_bind (Q := fun (p : List TC' × (List Int × Int)) => ((1 ≤ p.1.length ∧ p.1.length ≤ 6) ∧ ∀ c ∈ p.1, VC many.toNat c ∧ c.2.length ≤ 6) ∧ StOk p.2 (n + 1000 * (i + 1 : Nat))) ?_ fun p hp => ?_
    · refine (y_foldI _ (fun j (p : List TC' × (List Int × Int)) => p.1.length = j ∧ (∀ c ∈ p.1, VC many.toNat c ∧ c.2.length ≤ 6) ∧ StOk p.2 (n + 1000 * i + 1 + 50 * j)) ⟨rfl, by simp, by simpa using h31.2⟩ ?_).mono fun p hp => ?_
      · rintro j y ⟨e', st'⟩ hy ⟨f1, f2, f3⟩
        obtain ⟨d1, d2⟩ := rng_at hy
        dsimp only at f1 f2 f3
        refine y_bind (take_ok f3 (by omega) (by decide)) fun t61 h61 => ?_
        have r61 := h61.1
        refine y_eq (small62_s (by omega) (by omega)) ?_
        refine y_bind (Q := fun (p : TE' × (List Int × Int)) => (VE many.toNat (sortI p.1) ∧ p.1.length ≤ 6) ∧ StOk p.2 (n + 1000 * i + 1 + 50 * j + 20)) ?_ fun p hp => ?_
        · refine (y_foldI _ (fun k (p : TE' × (List Int × Int)) => p.1.length ≤ k ∧ (0 < k → 1 ≤ p.1.length) ∧ ((∀ q ∈ p.1, 0 ≤ q.1 ∧ q.1 < many ∧ 1 ≤ q.2 ∧ q.2 ≤ 1000) ∧ (p.1.map (·.1)).Nodup) ∧ StOk p.2 (n + 1000 * i + 1 + 50 * j + 1 + 2 * k)) ⟨Nat.le_refl _, fun h => absurd h (by omega), by simp, by simpa using h61.2⟩ ?_).mono fun p hp => ?_
          · rintro k z ⟨d, st2⟩ hz ⟨k1, k2, k3, k4⟩
            obtain ⟨c1, c2⟩ := rng_at hz
            dsimp only at k1 k2 k3 k4
            refine y_bind (take_ok k4 (by omega) (by decide)) fun t85 h85 => ?_
            refine y_bind (ixL_lit (P := fun z => 1 ≤ z ∧ z ≤ 1000) h85.1.1 h85.1.2 (by decide)) fun t87 h87 => ?_
            refine y_bind (take_ok h85.2 (by omega) (by omega)) fun t89 h89 => ?_
            refine y_eq (room_s (by show d.length ≤ _; omega)) (y_some ⟨?_, fun _ => (putI_len _ _ d).2, ⟨fun q hq => ?_, putI_nodup k3.2⟩, ?_⟩)
            · have := (putI_len t89.1 t87 d).1
              show (putI d t89.1 t87).length ≤ _
              omega
            · have hk : 0 ≤ q.1 ∧ q.1 < many := by
                have hq1 : q.1 ∈ (putI d t89.1 t87).map (·.1) := List.mem_map_of_mem hq
                rw [putI_keys] at hq1
                have : q.1 ∈ d.map (·.1) ∨ q.1 = t89.1 := by
                  split at hq1
                  · exact .inl hq1
                  · exact (List.mem_append.mp hq1).imp id List.mem_singleton.mp
                rcases this with h | h
                · obtain ⟨r, hr, e⟩ := List.mem_map.mp h
                  have := k3.1 r hr
                  omega
                · rw [h]; exact h89.1
              refine ⟨hk.1, hk.2, ?_⟩
              rcases putI_mem _ _ d q hq with h | ⟨q', m1, m2⟩
              · rw [h]; exact h87
              · rw [m2]; exact (k3.1 q' m1).2.2
            · exact h89.2.le (by omega)
          · obtain ⟨k1, k2, k3, k4⟩ := hp
            rw [rng_len] at k1 k2 k4
            have k2 := k2 (by omega)
            have em : ((many.toNat : Nat) : Int) = many := by omega
            refine ⟨⟨ve_sort (fun z => by rw [z] at k2; exact absurd k2 (by simp)) ?_ (by rw [em]; exact k3.1) k3.2, by omega⟩, k4.le (by omega)⟩
            have := nodup_le (many := many.toNat) k3.2 fun x hx => by
              obtain ⟨r, hr, e⟩ := List.mem_map.mp hx
              have := k3.1 r hr
              omega
            rwa [List.length_map] at this
        · refine y_bind (take_ok hp.2 (by omega) (by decide)) fun t101 h101 => y_eq (room_s (by show e'.length ≤ _; omega)) (y_some ⟨?_, ?_, ?_⟩)
          · show (e' ++ [_]).length = _
            rw [List.length_append, List.length_singleton, f1]
          · intro c hc
            rcases List.mem_append.mp hc with hc | hc
            · exact f2 c hc
            · rw [List.mem_singleton.mp hc]; exact ⟨⟨h101.1.1, by have := h101.1.2; show t101.1 ≤ _; omega, hp.1.1⟩, by show (sortI p.1).length ≤ _; rw [(sortI_perm _).length_eq]; exact hp.1.2⟩
          · exact h101.2.le (by omega)
      · obtain ⟨f1, f2, f3⟩ := hp
        rw [rng_len] at f1 f3
        exact ⟨⟨⟨by omega, by omega⟩, f2⟩, f3.le (by omega)⟩
    · refine y_eq (room_s (by show e.length ≤ _; omega)) (y_some ⟨?_, ?_, hp.2⟩)
      · show (e ++ [_]).length = _
        rw [List.length_append, List.length_singleton, g1]
      · intro cs hc
        rcases List.mem_append.mp hc with hc | hc
        · exact g2 cs hc
        · rw [List.mem_singleton.mp hc]; exact hp.1
  · obtain ⟨g1, g2, g3⟩ := hp
    rw [rng_len] at g1 g3
    exact ⟨⟨by omega, g2⟩, g3.le (by omega)⟩
end L3

namespace L3
open PySem L2
/-! ### how the sets hang together -/
noncomputable def setsP (n : Nat) (sys : TSy) (al ta : List Int) : List (List Int) := [pick n (isPos n sys al ta), pick n (isNev n sys al ta), pick n (isAtt n sys al ta), pick n fun x => ¬ isLost n sys al ta x]
theorem eif_n {α : Type} {b : Bool} {x y r : Option α} (h : b = false) (k : y = r) : (if b = true then x else y) = r := by rw [if_neg (by rw [h]; exact Bool.false_ne_true)]; exact k
theorem eif_p {α : Type} {b : Bool} {x y r : Option α} (h : b = true) (k : x = r) : (if b = true then x else y) = r := by rw [if_pos h]; exact k
theorem cat_s8 {α : Type} {xs ys : List α} (h : xs.length + ys.length ≤ 1000000) : catT xs ys = some (xs ++ ys) := if_pos h
theorem all_ok {n : Nat} {sys : TSy} {al ta : List Int} (hs : OKS n sys) : m_l_all sys al ta = some (setsP n sys al ta) := by
  unfold m_l_all
  exact bnd (possible_ok hs) (bnd (avoidable_ok hs) (bnd (attainable_ok hs) (bnd (certain_ok hs) (bnd (cat_s8 (by simp)) rfl))))
theorem in_ok {a b : List Int} (hl : a.length ≤ 1000) (h : ∀ x ∈ a, x ∈ b) : m_l_in a b = some true := by
  unfold m_l_in
  refine bnd (room_s (by omega)) (bnd (compM_filter (p := fun x => !decide (x ∈ b)) fun x _ => rfl) ?_)
  have : a.filter (fun x => !decide (x ∈ b)) = [] := List.filter_eq_nil_iff.mpr fun x hx => by simp [h x hx]
  rw [this]; rfl
theorem pl {n : Nat} {P : Int → Prop} (hn : n ≤ 1000) : (pick n P).length ≤ 1000 := Nat.le_trans pick_len hn
theorem pin {n : Nat} {P Q : Int → Prop} (hn : n ≤ 1000) (h : ∀ x, InR n x → P x → Q x) : m_l_in (pick n P) (pick n Q) = some true := in_ok (pl hn) fun x hx => by
  obtain ⟨a, b⟩ := pick_mem.mp hx
  exact pick_mem.mpr ⟨a, h x a b⟩
section
variable {n : Nat} {sys sys' : TSy} {al al' ta ta' : List Int} {x : Int}
theorem att_pos (h : isAtt n sys al ta x) : isPos n sys al ta x := by
  have h1 := att_self.st x h
  have : InR n x := att_self.r x h
  clear h
  have key : ∀ x, Rch (stP sys (restOf n al ta) (isAtt n sys al ta)) (fun y => y ∈ ta) x → InR n x → isPos n sys al ta x := by
    intro x hx
    induction hx with
    | base h => exact fun hr => .base ⟨hr, h⟩
    | step s _ ih =>
      intro hr
      obtain ⟨a, c, b, d, q, hq, rfl⟩ := s
      exact .step ⟨a, c, b, q, hq, rfl⟩ (ih (att_self.r _ (d q hq)))
  exact key x h1 this
theorem lost_of_nev (h : isNev n sys al ta x) : isLost n sys al ta x := .base h
theorem cert_att (hs : OKS n sys) (hne : ∀ x, InR n x → chs' sys x ≠ []) (hx : InR n x) (h : ¬ isLost n sys al ta x) : isAtt n sys al ta x := by
  obtain ⟨p, hp, _⟩ := pickPol hne fun _ _ => True
  exact (att_iff hs hne hx).mp ⟨p, hp, fun z => h ((lost_iff hs hne).mp ⟨p, hp, z⟩)⟩
theorem npos_nev (hs : OKS n sys) (hne : ∀ x, InR n x → chs' sys x ≠ []) (hx : InR n x) (h : ¬ isPos n sys al ta x) : isNev n sys al ta x := by
  obtain ⟨p, hp, _⟩ := pickPol hne fun _ _ => True
  exact (nev_iff hs hne hx).mp ⟨p, hp, fun z => h ((pos_iff hne).mp ⟨p, hp, z⟩)⟩
theorem ordered_ok (hs : OKS n sys) (hne : ∀ x, InR n x → chs' sys x ≠ []) : m_l_ordered (n : Int) (setsP n sys al ta) = some true := by
  have hn := hs.2.1
  unfold m_l_ordered
  refine bnd (a := (pick n (isPos n sys al ta), pick n (isNev n sys al ta), pick n (isAtt n sys al ta), pick n fun x => ¬ isLost n sys al ta x)) rfl ?_
  refine bnd (pin hn fun x hx h => cert_att hs hne hx h) (bnd (a := false) (eif_n rfl (bnd (pin hn fun x hx h => att_pos h) rfl)) (eif_n rfl ?_))
  refine bnd (small62_s (by omega) (by omega)) (bnd (room_s (by rw [rng_len]; omega)) (bnd (compM_filter (p := fun x => !decide (x ∈ pick n (isPos n sys al ta))) fun x _ => rfl) ?_))
  refine bnd (a := true) (in_ok ?_ fun x hx => ?_) (bnd (a := true) (eif_p rfl (bnd (room_s (by have := pl (P := fun x => ¬ isLost n sys al ta x) hn; show (pick n _).length ≤ _; omega)) (bnd (compM_filter (p := fun x => decide (x ∈ pick n (isNev n sys al ta))) fun x _ => rfl) ?_))) rfl)
  · show (List.filter _ (rng 0 (n : Int))).length ≤ 1000
    refine Nat.le_trans (List.length_filter_le _ _) ?_
    rw [rng_len]; omega
  · have hx : x ∈ (rng 0 (n : Int)).filter fun x => !decide (x ∈ pick n (isPos n sys al ta)) := hx
    obtain ⟨a, b⟩ := List.mem_filter.mp hx
    have a := rng_in.mp a
    refine pick_mem.mpr ⟨a, npos_nev hs hne a fun z => ?_⟩
    have : x ∈ pick n (isPos n sys al ta) := pick_mem.mpr ⟨a, z⟩
    simp [this] at b
  · have : (pick n fun x => ¬ isLost n sys al ta x).filter (fun x => decide (x ∈ pick n (isNev n sys al ta))) = [] := List.filter_eq_nil_iff.mpr fun x hx => by
      have h1 := (pick_mem.mp hx).2
      have : x ∉ pick n (isNev n sys al ta) := fun z => h1 (lost_of_nev (pick_mem.mp z).2)
      simp [this]
    show some (decide (((List.filter _ (pick n _)).length : Int) = 0)) = some true
    rw [this]; rfl
theorem grows_ok (hn : n ≤ 1000) {sys sys' : TSy} (h1 : ∀ x, InR n x → isPos n sys al ta x → isPos n sys' al' ta' x) (h2 : ∀ x, InR n x → isNev n sys' al' ta' x → isNev n sys al ta x) (h3 : ∀ x, InR n x → isAtt n sys al ta x → isAtt n sys' al' ta' x) (h4 : ∀ x, InR n x → isLost n sys' al' ta' x → isLost n sys al ta x) :
    m_l_grows (setsP n sys al ta) (setsP n sys' al' ta') = some true := by
  unfold m_l_grows
  refine bnd (a := pick n (isPos n sys al ta)) rfl (bnd (a := pick n (isPos n sys' al' ta')) rfl (bnd (pin hn h1) (bnd (a := false) (eif_n rfl ?_) (eif_n rfl ?_))))
  · exact bnd (a := pick n (isNev n sys' al' ta')) rfl (bnd (a := pick n (isNev n sys al ta)) rfl (bnd (pin hn h2) rfl))
  · refine bnd (a := pick n (isAtt n sys al ta)) rfl (bnd (a := pick n (isAtt n sys' al' ta')) rfl (bnd (pin hn h3) (bnd (a := true) (eif_p rfl ?_) rfl)))
    exact bnd (a := pick n fun x => ¬ isLost n sys al ta x) rfl (bnd (a := pick n fun x => ¬ isLost n sys' al' ta' x) rfl (bnd (pin hn fun x hx a b => a (h4 x hx b)) rfl))
theorem rest_iff {n : Nat} {al ta : List Int} {x : Int} : x ∈ restOf (n : Int) al ta ↔ InR n x ∧ x ∈ al ∧ x ∉ ta := by
  unfold restOf
  rw [List.mem_filter, rng_in]
  simp
/-- one target more -/
theorem more_ta (hs : OKS n sys) {m : Int} (ht : ∀ y, y ∈ ta' ↔ (y ∈ ta ∨ y = m)) : m_l_grows (setsP n sys al ta) (setsP n sys al ta') = some true := by
  have r1 : ∀ {y}, y ∈ restOf (n : Int) al ta → y ∉ ta' → y ∈ restOf (n : Int) al ta' := fun h h2 => by
    obtain ⟨a, b, c⟩ := rest_iff.mp h
    exact rest_iff.mpr ⟨a, b, h2⟩
  have r2 : ∀ {y}, y ∈ restOf (n : Int) al ta' → y ∈ restOf (n : Int) al ta := fun h => by
    obtain ⟨a, b, c⟩ := rest_iff.mp h
    exact rest_iff.mpr ⟨a, b, fun z => c ((ht _).mpr (.inl z))⟩
  have nv : ∀ x, isNev n sys al ta' x → isNev n sys al ta x := fun x h => ⟨isNev n sys al ta', ⟨fun y hy => nev_self.r y hy, fun y hy z => nev_self.out y hy ((ht _).mpr (.inl z)), fun y hy hm => nev_self.st y hy (r1 hm (nev_self.out y hy))⟩, h⟩
  refine grows_ok hs.2.1 (fun x hx h => ?_) (fun x _ => nv x) (fun x hx h => ?_) fun x hx h => h.mono (fun x y ⟨a, b⟩ => ⟨r2 a, b⟩) fun y hy => nv y hy
  · refine h.sub (X := isPos n sys al ta') ?_ fun y hy => .base ⟨hy.1, (ht _).mpr (.inl hy.2)⟩
    rintro x y ⟨a, b⟩ hy
    by_cases e : x ∈ ta'
    · exact .base ⟨rest_r a, e⟩
    · exact .step ⟨r1 a e, b⟩ hy
  · refine ⟨isAtt n sys al ta, ⟨fun y hy => att_self.r y hy, fun y hy => ?_⟩, h⟩
    refine (att_self.st y hy).sub (X := Rch (stP sys (restOf n al ta') (isAtt n sys al ta)) fun y => y ∈ ta') ?_ fun y hy => .base ((ht _).mpr (.inl hy))
    rintro x y ⟨a, b⟩ hy
    by_cases e : x ∈ ta'
    · exact .base e
    · exact .step ⟨r1 a e, b⟩ hy
/-- one allowed state more -/
theorem more_al (hs : OKS n sys) {m : Int} (ha : ∀ y, y ∈ al' ↔ (y ∈ al ∨ y = m)) : m_l_grows (setsP n sys al ta) (setsP n sys al' ta) = some true := by
  have r1 : ∀ {y}, y ∈ restOf (n : Int) al ta → y ∈ restOf (n : Int) al' ta := fun h => by
    obtain ⟨a, b, c⟩ := rest_iff.mp h
    exact rest_iff.mpr ⟨a, (ha _).mpr (.inl b), c⟩
  have nv : ∀ x, isNev n sys al' ta x → isNev n sys al ta x := fun x h => ⟨isNev n sys al' ta, ⟨fun y hy => nev_self.r y hy, fun y hy => nev_self.out y hy, fun y hy hm => nev_self.st y hy (r1 hm)⟩, h⟩
  refine grows_ok hs.2.1 (fun x hx h => h.mono (fun x y ⟨a, b⟩ => ⟨r1 a, b⟩) fun _ h => h) (fun x _ => nv x) (fun x hx h => ?_) fun x hx h => ?_
  · refine ⟨isAtt n sys al ta, ⟨fun y hy => att_self.r y hy, fun y hy => ?_⟩, h⟩
    exact (att_self.st y hy).mono (fun x y ⟨a, b⟩ => ⟨r1 a, b⟩) fun _ h => h
  · refine h.sub (X := isLost n sys al ta) ?_ fun y hy => .base (nv y hy)
    rintro x y ⟨a, b⟩ hy
    by_cases e : x ∈ restOf (n : Int) al ta
    · exact .step ⟨e, b⟩ hy
    · refine .base ⟨fun z => z = x, ⟨fun z hz => hz ▸ rest_r a, fun z hz => hz ▸ (rest_iff.mp a).2.2, fun z hz hm => absurd (hz ▸ hm) e⟩, rfl⟩
/-- fewer choices -/
theorem fewer (hc : ∀ x c, c ∈ chs' sys' x → c ∈ chs' sys x) : (∀ x, isPos n sys' al ta x → isPos n sys al ta x) ∧ (∀ x, isNev n sys' al ta x → isNev n sys al ta x) ∧ (∀ x, isAtt n sys' al ta x → isAtt n sys al ta x) ∧ ∀ x, isLost n sys' al ta x → isLost n sys al ta x := by
  have nv : ∀ x, isNev n sys' al ta x → isNev n sys al ta x := fun x h => ⟨isNev n sys' al ta, ⟨fun y hy => nev_self.r y hy, fun y hy => nev_self.out y hy, fun y hy hm => by
    obtain ⟨c, h1, h2⟩ := nev_self.st y hy hm
    exact ⟨c, hc _ _ h1, h2⟩⟩, h⟩
  refine ⟨fun x h => h.mono (fun x y ⟨a, c, b, d⟩ => ⟨a, c, hc _ _ b, d⟩) fun _ h => h, nv, fun x h => ⟨isAtt n sys' al ta, ⟨fun y hy => att_self.r y hy, fun y hy => ?_⟩, h⟩, fun x h => h.mono (fun x y ⟨a, c, b, d⟩ => ⟨a, c, hc _ _ b, d⟩) nv⟩
  exact (att_self.st y hy).mono (fun x y ⟨a, c, b, d⟩ => ⟨a, c, hc _ _ b, d⟩) fun _ h => h
/-- one choice in each state -/
theorem vp_one {p : List Int} (h1 : ∀ x, InR n x → (chs' sys x).length = 1) (hp : VP n sys p) : p = List.replicate n 0 := by
  refine List.ext_getElem? fun i => ?_
  by_cases hi : i < n
  · have := hp.2 (i : Int) ⟨by omega, by omega⟩
    rw [h1 (i : Int) ⟨by omega, by omega⟩, Int.toNat_natCast, List.getD_eq_getElem?_getD, List.getElem?_eq_getElem (by have := hp.1; omega)] at this
    rw [List.getElem?_eq_getElem (by have := hp.1; omega), List.getElem?_replicate, if_pos hi]
    have h2 : (0 : Int) ≤ p[i]'(by have := hp.1; omega) ∧ p[i]'(by have := hp.1; omega) < ((1 : Nat) : Int) := this
    exact congrArg some (by omega)
  · rw [List.getElem?_eq_none (by have := hp.1; omega), List.getElem?_eq_none (by simp; omega)]
theorem one_halves (hs : OKS n sys) (h1 : ∀ x, InR n x → (chs' sys x).length = 1) (hx : InR n x) : (isAtt n sys al ta x ↔ ¬ isLost n sys al ta x) ∧ (isNev n sys al ta x ↔ ¬ isPos n sys al ta x) := by
  have hne : ∀ x, InR n x → chs' sys x ≠ [] := fun x hx z => by have := h1 x hx; rw [z] at this; cases this
  refine ⟨⟨fun h => ?_, cert_att hs hne hx⟩, ⟨fun h => ?_, npos_nev hs hne hx⟩⟩
  · obtain ⟨p, hp, h⟩ := (att_iff hs hne hx).mpr h
    rintro z
    obtain ⟨q, hq, z⟩ := (lost_iff hs hne).mpr z
    rw [vp_one h1 hq, ← vp_one h1 hp] at z
    exact h z
  · obtain ⟨p, hp, h⟩ := (nev_iff hs hne hx).mpr h
    rintro z
    obtain ⟨q, hq, z⟩ := (pos_iff hne).mpr z
    rw [vp_one h1 hq, ← vp_one h1 hp] at z
    exact h z
theorem rng_sorted (n : Nat) : (rng 0 (n : Int)).Pairwise (· ≤ ·) := by
  unfold rng
  refine List.pairwise_map.mpr ?_
  refine List.pairwise_lt_range.imp fun {a b} h => by omega
theorem halves_sorted {P Q : Int → Prop} (h : ∀ x, InR n x → (Q x ↔ ¬ P x)) : sortL (pick n P ++ pick n Q) = rng 0 (n : Int) := by
  refine (sortL_eq ?_ (rng_sorted n)).symm
  have e : pick n Q = (rng 0 (n : Int)).filter fun x => !dec (P x) := (pick_eq fun x hx => by rw [Bool.not_eq_true', ← Bool.not_eq_true, dec_iff, h x hx]).symm
  rw [e]
  exact (List.filter_append_perm _ _).symm
end
/-! ### slices -/
theorem cut_lo {α : Type} {xs : List α} {m : Nat} (h : m ≤ xs.length) : cutL xs none (some (m : Int)) = xs.take m := by
  unfold cutL
  rw [HT.sIx_none, HT.sIx_nat, Nat.min_eq_left h]
  simp
theorem cut_hi {α : Type} {xs : List α} {m : Nat} (h : m ≤ xs.length) : cutL xs (some (m : Int)) none = xs.drop m := by
  unfold cutL
  rw [HT.sIx_none, HT.sIx_nat, Nat.min_eq_left h]
  refine List.take_of_length_le ?_
  rw [List.length_drop]; omega
theorem chs_set {sys : TSy} {m : Nat} {v : List (Int × List (Int × Int))} {x : Int} (hx : 0 ≤ x) (hm : m < sys.length) : chs' (sys.set m v) x = if x = (m : Int) then v else chs' sys x := by
  obtain ⟨k, rfl⟩ := Int.eq_ofNat_of_zero_le hx
  unfold chs'
  simp only [Int.toNat_natCast, List.getD_eq_getElem?_getD]
  by_cases e : m = k
  · subst e
    rw [List.getElem?_set_self hm, if_pos rfl]; rfl
  · rw [List.getElem?_set_ne e, if_neg (by omega)]
/-! ### the law -/
theorem oks_vs {s : TSy} (h : VS 3 s) (hl : s.length ≤ 100) : OKS s.length s := ⟨rfl, by omega, fun cs hc => by
  obtain ⟨a1, a2, a3⟩ := h.2 cs hc
  refine ⟨by omega, fun c hc => ?_⟩
  obtain ⟨_, _, b1, b2, b3, _⟩ := a3 c hc
  exact ⟨by omega, fun q hq => ⟨(b3 q hq).1, (b3 q hq).2.1⟩⟩⟩
theorem oks_ls {s : TSy} {n : Nat} (h : LS n s) (hl : n ≤ 100) : OKS s.length s := ⟨rfl, by have := h.1; omega, fun cs hc => by
  obtain ⟨⟨a1, a2⟩, a3⟩ := h.2 cs hc
  refine ⟨by omega, fun c hc => ?_⟩
  obtain ⟨⟨_, _, b1, b2, b3, _⟩, _⟩ := a3 c hc
  have := h.1
  exact ⟨by omega, fun q hq => ⟨(b3 q hq).1, by rw [this]; exact (b3 q hq).2.1⟩⟩⟩
theorem drawn_ok {st : List Int × Int} {n : Int} {s : TSy} (hs : StOk st n) (hn : n < 2 ^ 50) (hl : s.length ≤ 1000) (hne : ∀ cs ∈ s, 1 ≤ cs.length) : Yes (m_l_drawn_policy st s) fun r => VP s.length s r.1 ∧ StOk r.2 (n + s.length) := by
  unfold m_l_drawn_policy
  refine y_eq (room_s (by omega)) (y_bind (Q := fun (r : List Int × (List Int × Int)) => VP s.length s r.1 ∧ StOk r.2 (n + s.length)) ?_ fun r hr => y_some hr)
  refine (y_comp _ (fun i ys t => (ys.length = i ∧ ∀ j : Nat, j < i → 0 ≤ ys.getD j 0 ∧ ys.getD j 0 < ((s.getD j []).length : Int)) ∧ StOk t (n + i)) ⟨⟨rfl, fun j hj => absurd hj (by omega)⟩, by simpa using hs⟩ ?_).mono fun r hr => ⟨⟨hr.1.1, fun x ⟨h0, h1⟩ => hr.1.2 x.toNat (by omega)⟩, hr.2⟩
  rintro i cs ys t hx ⟨⟨g1, g2⟩, g3⟩
  have hi : i < s.length := (List.getElem?_eq_some_iff.mp hx).1
  have h1 := hne cs (List.mem_of_getElem? hx)
  refine y_bind (take_ok g3 (by omega) (by omega)) fun u hu => y_some ⟨⟨by simp [g1], fun j hj => ?_⟩, hu.2.le (by omega)⟩
  show 0 ≤ (ys ++ [u.1]).getD j 0 ∧ (ys ++ [u.1]).getD j 0 < _
  by_cases e : j = i
  · subst e
    rw [List.getD_eq_getElem?_getD, List.getElem?_append_right (by omega), g1, Nat.sub_self, List.getD_eq_getElem?_getD, hx]
    exact hu.1
  · rw [List.getD_eq_getElem?_getD, List.getElem?_append_left (by omega), ← List.getD_eq_getElem?_getD]
    exact g2 j (by omega)
theorem filt_mem {m : Int} {l : List Int} : ∀ y, y ∈ l.filter (fun x => !decide (x = m)) ++ [m] ↔ (y ∈ l ∨ y = m) := fun y => by
  simp only [List.mem_append, List.mem_filter, List.mem_singleton, Bool.not_eq_true', decide_eq_false_iff_not]
  by_cases e : y = m <;> simp [e]
theorem law_true (ns : List Int) (h : ns.length ≤ 63) : m_law ns = some true := by
  suffices hy : Yes (m_law ns) (· = true) by
    obtain ⟨c, h1, rfl⟩ := hy; exact h1
  unfold m_law
  refine y_bind (tape_ok h) fun t ht => ?_
  refine y_bind (Q := fun o => ∃ s, o = .inl s) ?_ fun o ho => ?_
  rotate_left
  · obtain ⟨s, rfl⟩ := ho; exact y_some rfl
  refine y_loopR _ (fun i s => StOk s (100000 * i)) _ ⟨ht, Int.le_refl 0, by simp⟩ ?_ fun s _ => ⟨s, rfl⟩
  rintro i x st hx hst
  obtain ⟨e1, e2⟩ := rng_at hx
  refine y_bind (system_ok hst (by omega) (by decide) (by decide)) fun t37 h37 => ?_
  refine y_bind (take_ok h37.2 (by omega) (by decide)) fun t42 h42 => ?_
  refine y_bind (Q := fun (s : TSy × (List Int × Int)) => (s.1.length ≤ 20 ∧ 1 ≤ s.1.length ∧ OKS s.1.length s.1 ∧ ∀ cs ∈ s.1, 1 ≤ cs.length) ∧ StOk s.2 (100000 * i + 40000)) (y_if (fun c => ?_) fun c => y_some ?_) fun s45 h45 => ?_
  · refine y_bind (take_ok h42.2 (by omega) (by decide)) fun t48 h48 => ?_
    have r48 := h48.1
    refine y_bind (large_ok h48.2 (by omega) (by omega) (by omega)) fun t50 h50 => y_some ⟨?_, h50.2.le (by omega)⟩
    have l := h50.1.1
    show t50.1.length ≤ 20 ∧ 1 ≤ t50.1.length ∧ _
    exact ⟨by omega, by omega, oks_ls h50.1 (by omega), fun cs hc => (h50.1.2 cs hc).1.1⟩
  · have l4 : t37.1.length ≤ 7 := by have := h37.1.2; omega
    exact ⟨⟨by show t37.1.length ≤ 20; omega, h37.1.1.1, oks_vs h37.1.1 (by show t37.1.length ≤ _; omega), fun cs hc => (h37.1.1.2 cs hc).1⟩, h42.2.le (by omega)⟩
  obtain ⟨⟨hl, hl1, hs, hc1⟩, hst2⟩ := h45
  generalize hN : s45.1.length = N at *
  have hne : ∀ x, InR N x → chs' s45.1 x ≠ [] := fun x hx z => by
    have := hc1 _ (chs_ix hs hx).2
    rw [z] at this
    exact absurd this (by simp)
  refine y_bind (some_ok hst2 (by omega) (by omega) (by omega) (by decide)) fun t71 h71 => ?_
  refine y_bind (some_ok h71.2 (by omega) (by omega) (by omega) (by decide)) fun t76 h76 => ?_
  have htl := nodup_le (many := N) h76.1.2 h76.1.1
  have hal := nodup_le (many := N) h71.1.2 h71.1.1
  refine y_bind (take_ok h76.2 (by omega) (by decide)) fun t81 h81 => ?_
  refine y_bind (Q := fun (r : List Int × (List Int × Int)) => r.1.length ≤ 100 ∧ StOk r.2 (100000 * i + 50000)) (y_if (fun c => y_eq (rgO_s (by omega) (by omega)) (y_some ⟨by show (rng 0 _).length ≤ _; rw [rng_len]; omega, h81.2.le (by omega)⟩)) (fun c => y_some ⟨by show t71.1.length ≤ _; omega, h81.2.le (by omega)⟩)) fun s84 h84 => ?_
  obtain ⟨hal2, hst3⟩ := h84
  refine y_eq (all_ok hs) (y_eq (ordered_ok hs hne) (y_n rfl ?_))
  refine y_bind (take_ok hst3 (by omega) (by omega)) fun t107 h107 => ?_
  obtain ⟨⟨m0, m1⟩, hst4⟩ := h107
  refine y_eq (room_s (by omega)) (y_eq (compM_filter (p := fun x => !decide (x = t107.1)) fun x _ => rfl) (y_eq (cat_s8 ?_) ?_))
  · have := List.length_filter_le (fun x => !decide (x = t107.1)) t76.1
    dsimp only
    rw [List.length_singleton]
    omega
  refine y_eq (all_ok hs) (y_eq (more_ta hs filt_mem) (y_n rfl ?_))
  refine y_eq (room_s (by omega)) (y_eq (compM_filter (p := fun x => !decide (x = t107.1)) fun x _ => rfl) (y_eq (cat_s8 ?_) ?_))
  · have := List.length_filter_le (fun x => !decide (x = t107.1)) s84.1
    dsimp only
    rw [List.length_singleton]
    omega
  refine y_eq (all_ok hs) (y_eq (more_al hs filt_mem) (y_n rfl ?_))
  obtain ⟨m, hm⟩ := Int.eq_ofNat_of_zero_le m0
  rw [hm] at m1 ⊢
  have hmN : m < s45.1.length := by omega
  obtain ⟨cx, cmem⟩ := chs_ix (x := (m : Int)) hs ⟨by omega, by omega⟩
  have hcl := hc1 _ cmem
  have ecut : cutL (chs' s45.1 (m : Int)) none (some 1) = (chs' s45.1 (m : Int)).take 1 := cut_lo (m := 1) hcl
  refine y_eq cx ?_
  rw [ecut, cut_lo (by omega), show (m : Int) + 1 = ((m + 1 : Nat) : Int) by omega, cut_hi (by omega)]
  refine y_eq (cat_s8 (by simp; omega)) (y_eq (a := s45.1.set m ((chs' s45.1 (m : Int)).take 1)) ?_ ?_)
  · rw [cat_s8 (by simp; omega), List.set_eq_take_append_cons_drop, if_pos hmN]
    simp
  have hfew : OKS N (s45.1.set m ((chs' s45.1 (m : Int)).take 1)) := by
    refine ⟨by rw [List.length_set]; exact hN, by omega, fun cs hcs => ?_⟩
    rcases List.mem_or_eq_of_mem_set hcs with h | h
    · exact hs.2.2 cs h
    · subst h
      have g := hs.2.2 _ cmem
      exact ⟨by rw [List.length_take]; omega, fun c hc => g.2 c (List.mem_of_mem_take hc)⟩
  have hsub : ∀ x c, c ∈ chs' (s45.1.set m ((chs' s45.1 (m : Int)).take 1)) x → c ∈ chs' s45.1 x := fun x c hc => by
    by_cases hx : 0 ≤ x
    · rw [chs_set hx hmN] at hc
      split at hc
      · rename_i e; subst e; exact List.mem_of_mem_take hc
      · exact hc
    · have e0 : x.toNat = (0 : Int).toNat := by omega
      have e1 : ∀ s : TSy, chs' s x = chs' s 0 := fun s => by unfold chs'; rw [e0]
      rw [e1] at hc ⊢
      rw [chs_set (by decide) hmN] at hc
      split at hc
      · rename_i e; rw [e]; exact List.mem_of_mem_take hc
      · exact hc
  obtain ⟨f1, f2, f3, f4⟩ := fewer (n := N) (al := s84.1) (ta := t76.1) hsub
  refine y_eq (all_ok hfew) ?_
  refine y_bind (Q := fun o => o = .inl ()) ?_ fun o ho => ?_
  · refine y_loopR _ (fun _ _ => True) _ trivial ?_ fun s _ => rfl
    rintro j y ⟨⟩ hy _
    obtain ⟨d1, d2⟩ := rng_at hy
    have hj : j < 3 := by omega
    have d1 : y = (j : Int) := by omega
    subst d1
    match j, hj with
    | 0, _ => exact y_eq (a := pick N _) rfl (y_eq (a := pick N _) rfl (y_eq (pin (by omega) fun x _ => f1 x) (y_n rfl (y_some trivial))))
    | 1, _ => exact y_eq (a := pick N _) rfl (y_eq (a := pick N _) rfl (y_eq (pin (by omega) fun x _ => f2 x) (y_n rfl (y_some trivial))))
    | 2, _ => exact y_eq (a := pick N _) rfl (y_eq (a := pick N _) rfl (y_eq (pin (by omega) fun x _ => f3 x) (y_n rfl (y_some trivial))))
  subst ho
  refine y_eq (a := pick N fun x => ¬ isLost N s45.1 s84.1 t76.1 x) rfl (y_eq (a := pick N fun x => ¬ isLost N (s45.1.set m ((chs' s45.1 (m : Int)).take 1)) s84.1 t76.1 x) rfl (y_eq (pin (by omega) fun x _ a b => a (f4 x b)) (y_n rfl ?_)))
  have hdr := drawn_ok hst4 (by omega) (by omega) hc1
  rw [hN] at hdr
  refine y_bind hdr fun t255 h255 => ?_
  obtain ⟨hp, hst5⟩ := h255
  refine y_eq (small62_s (by omega) (by omega)) (y_eq (room_s (by rw [rng_len]; omega)) (y_eq (a := ((rng 0 (N : Int)).map fun x => [chc s45.1 t255.1 x], ())) (compM_map fun x hx => ?_) ?_))
  · have hx := rng_in.mp hx
    refine bnd (chs_ix hs hx).1 (bnd (a := t255.1.getD x.toNat 0) ?_ (bnd (a := chc s45.1 t255.1 x) ?_ rfl))
    · obtain ⟨k, rfl⟩ := Int.eq_ofNat_of_zero_le hx.1
      refine ixL_s (n := k) ?_ rfl
      have := hp.1
      have := hx.2
      rw [Int.toNat_natCast, List.getD_eq_getElem?_getD, List.getElem?_eq_getElem (by omega)]
      rfl
    · obtain ⟨h0, h1⟩ := hp.2 x hx
      unfold chc
      generalize t255.1.getD x.toNat 0 = i at *
      have hi : i.toNat < (chs' s45.1 x).length := by omega
      refine ixL_s (n := i.toNat) ?_ (by omega)
      rw [List.getD_eq_getElem?_getD, List.getElem?_eq_getElem hi]
      rfl
  have hchc : ∀ x, InR N x → chs' ((rng 0 (N : Int)).map fun x => [chc s45.1 t255.1 x]) x = [chc s45.1 t255.1 x] := fun x hx => by
    obtain ⟨k, rfl⟩ := Int.eq_ofNat_of_zero_le hx.1
    unfold chs'
    rw [Int.toNat_natCast, List.getD_eq_getElem?_getD, List.getElem?_map, rng_ix, if_pos (by have := hx.2; omega)]
    rfl
  have hch : OKS N ((rng 0 (N : Int)).map fun x => [chc s45.1 t255.1 x]) := by
    refine ⟨by rw [List.length_map, rng_len]; omega, by omega, fun cs hcs => ?_⟩
    obtain ⟨x, hx, rfl⟩ := List.mem_map.mp hcs
    have hx := rng_in.mp hx
    refine ⟨by simp, fun c hc => ?_⟩
    rw [List.mem_singleton.mp hc]
    exact (hs.2.2 _ (chs_ix hs hx).2).2 _ (chc_mem hp hx)
  have hone : ∀ x, InR N x → (chs' ((rng 0 (N : Int)).map fun x => [chc s45.1 t255.1 x]) x).length = 1 := fun x hx => by rw [hchc x hx]; rfl
  generalize ((rng 0 (N : Int)).map fun x => [chc s45.1 t255.1 x]) = ch at *
  refine y_eq (all_ok hch) (y_eq (a := pick N (isAtt N ch s84.1 t76.1)) rfl (y_eq (a := pick N fun x => ¬ isLost N ch s84.1 t76.1 x) rfl ?_))
  refine y_eq (a := false) ?_ (y_n rfl (y_some (hst5.le (by omega))))
  refine eif_n (by rw [pick_congr fun x hx => (one_halves (al := s84.1) (ta := t76.1) hch hone hx).1]; simp) ?_
  refine bnd (a := pick N (isPos N ch s84.1 t76.1)) rfl (bnd (a := pick N (isNev N ch s84.1 t76.1)) rfl (bnd (cat_s8 ?_) (bnd (rgO_s (by omega) (by omega)) ?_)))
  · have a := pick_len (n := N) (P := isPos N ch s84.1 t76.1)
    have b := pick_len (n := N) (P := isNev N ch s84.1 t76.1)
    omega
  · rw [halves_sorted fun x hx => (one_halves (al := s84.1) (ta := t76.1) hch hone hx).2]
    simp
end L3

namespace L3
open PySem PySem.Spec PyProof.Rows L2
/-! ### the end -/
namespace End
def d_marks : He.DefD := ⟨("marks", none), "marks", "marks", defArgs s_marks, defBody s_marks, defScope s_marks, [], []⟩
def d_listed : He.DefD := ⟨("listed", none), "listed", "listed", defArgs s_listed, defBody s_listed, defScope s_listed, [], []⟩
def d_rest_of : He.DefD := ⟨("rest_of", none), "rest_of", "rest_of", defArgs s_rest_of, defBody s_rest_of, defScope s_rest_of, [], []⟩
def d__law_tape : He.DefD := ⟨("_law_tape", none), "_law_tape", "_law_tape", defArgs s__law_tape, defBody s__law_tape, defScope s__law_tape, [], []⟩
def d__law_draw : He.DefD := ⟨("_law_draw", none), "_law_draw", "_law_draw", defArgs s__law_draw, defBody s__law_draw, defScope s__law_draw, [], []⟩
def d__law_in : He.DefD := ⟨("_law_in", none), "_law_in", "_law_in", defArgs s__law_in, defBody s__law_in, defScope s__law_in, [], []⟩
def d_ends_in : He.DefD := ⟨("ends_in", none), "ends_in", "ends_in", defArgs s_ends_in, defBody s_ends_in, defScope s_ends_in, [], []⟩
def d_all_in : He.DefD := ⟨("all_in", none), "all_in", "all_in", defArgs s_all_in, defBody s_all_in, defScope s_all_in, [], []⟩
def d__law_take : He.DefD := ⟨("_law_take", none), "_law_take", "_law_take", defArgs s__law_take, defBody s__law_take, defScope s__law_take, [], []⟩
def d__law_ordered : He.DefD := ⟨("_law_ordered", none), "_law_ordered", "_law_ordered", defArgs s__law_ordered, defBody s__law_ordered, defScope s__law_ordered, [], []⟩
def d__law_grows : He.DefD := ⟨("_law_grows", none), "_law_grows", "_law_grows", defArgs s__law_grows, defBody s__law_grows, defScope s__law_grows, [], []⟩
def d__law_ends : He.DefD := ⟨("_law_ends", none), "_law_ends", "_law_ends", defArgs s__law_ends, defBody s__law_ends, defScope s__law_ends, [], []⟩
def d__law_some : He.DefD := ⟨("_law_some", none), "_law_some", "_law_some", defArgs s__law_some, defBody s__law_some, defScope s__law_some, [], []⟩
def d__law_drawn_policy : He.DefD := ⟨("_law_drawn_policy", none), "_law_drawn_policy", "_law_drawn_policy", defArgs s__law_drawn_policy, defBody s__law_drawn_policy, defScope s__law_drawn_policy, [], []⟩
def d__law_large : He.DefD := ⟨("_law_large", none), "_law_large", "_law_large", defArgs s__law_large, defBody s__law_large, defScope s__law_large, [], []⟩
def d_backward : He.DefD := ⟨("backward", none), "backward", "backward", defArgs s_backward, defBody s_backward, defScope s_backward, [], []⟩
def d_never : He.DefD := ⟨("never", none), "never", "never", defArgs s_never, defBody s_never, defScope s_never, [], []⟩
def d_grown_inside : He.DefD := ⟨("grown_inside", none), "grown_inside", "grown_inside", defArgs s_grown_inside, defBody s_grown_inside, defScope s_grown_inside, [], []⟩
def d__law_choices : He.DefD := ⟨("_law_choices", none), "_law_choices", "_law_choices", defArgs s__law_choices, defBody s__law_choices, defScope s__law_choices, [], []⟩
def d_surely : He.DefD := ⟨("surely", none), "surely", "surely", defArgs s_surely, defBody s_surely, defScope s_surely, [], []⟩
def d_possible : He.DefD := ⟨("possible", none), "possible", "possible", defArgs s_possible, defBody s_possible, defScope s_possible, [], []⟩
def d_avoidable : He.DefD := ⟨("avoidable", none), "avoidable", "avoidable", defArgs s_avoidable, defBody s_avoidable, defScope s_avoidable, [], []⟩
def d_certain : He.DefD := ⟨("certain", none), "certain", "certain", defArgs s_certain, defBody s_certain, defScope s_certain, [], []⟩
def d__law_system : He.DefD := ⟨("_law_system", none), "_law_system", "_law_system", defArgs s__law_system, defBody s__law_system, defScope s__law_system, [], []⟩
def d_attainable : He.DefD := ⟨("attainable", none), "attainable", "attainable", defArgs s_attainable, defBody s_attainable, defScope s_attainable, [], []⟩
def d__law_all : He.DefD := ⟨("_law_all", none), "_law_all", "_law_all", defArgs s__law_all, defBody s__law_all, defScope s__law_all, [], []⟩
def d_law : He.DefD := ⟨("law", none), "law", "law", defArgs s_law, defBody s_law, defScope s_law, [], []⟩
def fn : List He.DefD := [d_marks, d_listed, d_rest_of, d__law_tape, d__law_draw, d__law_in, d_ends_in, d_all_in, d__law_take, d__law_ordered, d__law_grows, d__law_ends, d__law_some, d__law_drawn_policy, d__law_large, d_backward, d_never, d_grown_inside, d__law_choices, d_surely, d_possible, d_avoidable, d_certain, d__law_system, d_attainable, d__law_all, d_law]
def fa : List He.Fa := [.glo "marks", .glo "listed", .glo "rest_of", .glo "_law_tape", .glo "_law_draw", .glo "_law_in", .glo "ends_in", .glo "all_in", .glo "_law_take", .glo "_law_ordered", .glo "_law_grows", .glo "_law_ends", .glo "_law_some", .glo "_law_drawn_policy", .glo "_law_large", .glo "backward", .glo "never", .glo "grown_inside", .glo "_law_choices", .glo "surely", .glo "possible", .glo "avoidable", .glo "certain", .glo "_law_system", .glo "attainable", .glo "_law_all", .glo "law", .free "range", .free "len", .free "enumerate", .free "int", .free "any", .free "all", .free "tuple", .free "sorted", .free "list"]
def tf : List He.Defn := [("ends_in", none), ("all_in", none), ("backward", none), ("never", none), ("grown_inside", none)]
def ex : PySem.W.Frag → Bool := fun K => true
def loose0 : List PySem.Str := ["ends_in", "all_in", "marks", "listed", "rest_of", "backward", "never", "grown_inside", "surely", "possible", "avoidable", "attainable", "certain", "_law_tape", "_law_draw", "_law_take", "_law_ends", "_law_choices", "_law_system", "_law_some", "_law_drawn_policy", "_law_all", "_law_in", "_law_ordered", "_law_grows", "_law_large"]
abbrev loose : List PySem.Str := loose0
abbrev R : PySem.W.OpenRow := PySem.W.OpenLaw.row PySem.Challenge.rw_bestodds_k08_whole_sure_states_hang_toge
abbrev hk : PySem.W.Hook := He.hookX 6 fa fn [] tf ex
def ob (s : PySem.W.SharedT) : He.AlX := He.obsX 6 fa fn [] tf ex (HandSHeadRun.getT s)
theorem ob_eq (s : PySem.W.SharedT) : ob s = hk.obs s.abs := He.obsX_eq (HandSHeadRun.getT_eq s)
theorem run (w : World) : HandSHeadRun.RunEq R (PySem.W.view R.prog [29]) hk ob 4000 loose w := by
  intro os
  kernel_rfl
theorem facts {w : World} {K : PySem.W.Frag} {h : Heap} {mg : Str → Option Value} {f : Addr} (X : K.In h) (G : h.Ns mainGlobals mg) (hfa : mg ("law" : Str) = some (.ref f)) (c : He.SaysX fa fn [] tf ex w h K) (hm : ∀ ns : List Int, ns.length ≤ 63 → m_law ns = some true) :
    LamX.LawAtS PySem.Challenge.rw_bestodds_k08_whole_sure_states_hang_toge w K CX0 8 63 "_law_script" mg f h := by
  obtain ⟨fd0, D0⟩ := c.t.d.def_ 0 (d := d_marks) rfl
  have F0 : FunC K "marks" s_marks (He.fAd K ("marks", none)) fd0 (He.codeOf K ("marks", none)) := funC_of D0
  have n0 : mg "marks" = some (.ref (He.fAd K ("marks", none))) := He.glo_ok X G (c.t.d.fact 0 (f := .glo "marks") rfl)
  obtain ⟨fd1, D1⟩ := c.t.d.def_ 1 (d := d_listed) rfl
  have F1 : FunC K "listed" s_listed (He.fAd K ("listed", none)) fd1 (He.codeOf K ("listed", none)) := funC_of D1
  have n1 : mg "listed" = some (.ref (He.fAd K ("listed", none))) := He.glo_ok X G (c.t.d.fact 1 (f := .glo "listed") rfl)
  obtain ⟨fd2, D2⟩ := c.t.d.def_ 2 (d := d_rest_of) rfl
  have F2 : FunC K "rest_of" s_rest_of (He.fAd K ("rest_of", none)) fd2 (He.codeOf K ("rest_of", none)) := funC_of D2
  have n2 : mg "rest_of" = some (.ref (He.fAd K ("rest_of", none))) := He.glo_ok X G (c.t.d.fact 2 (f := .glo "rest_of") rfl)
  obtain ⟨fd3, D3⟩ := c.t.d.def_ 3 (d := d__law_tape) rfl
  have F3 : FunC K "_law_tape" s__law_tape (He.fAd K ("_law_tape", none)) fd3 (He.codeOf K ("_law_tape", none)) := funC_of D3
  have n3 : mg "_law_tape" = some (.ref (He.fAd K ("_law_tape", none))) := He.glo_ok X G (c.t.d.fact 3 (f := .glo "_law_tape") rfl)
  obtain ⟨fd4, D4⟩ := c.t.d.def_ 4 (d := d__law_draw) rfl
  have F4 : FunC K "_law_draw" s__law_draw (He.fAd K ("_law_draw", none)) fd4 (He.codeOf K ("_law_draw", none)) := funC_of D4
  have n4 : mg "_law_draw" = some (.ref (He.fAd K ("_law_draw", none))) := He.glo_ok X G (c.t.d.fact 4 (f := .glo "_law_draw") rfl)
  obtain ⟨fd5, D5⟩ := c.t.d.def_ 5 (d := d__law_in) rfl
  have F5 : FunC K "_law_in" s__law_in (He.fAd K ("_law_in", none)) fd5 (He.codeOf K ("_law_in", none)) := funC_of D5
  have n5 : mg "_law_in" = some (.ref (He.fAd K ("_law_in", none))) := He.glo_ok X G (c.t.d.fact 5 (f := .glo "_law_in") rfl)
  obtain ⟨fd6, D6⟩ := c.t.d.def_ 6 (d := d_ends_in) rfl
  have F6 : FunC K "ends_in" s_ends_in (He.fAd K ("ends_in", none)) fd6 (He.codeOf K ("ends_in", none)) := funC_of D6
  have n6 : mg "ends_in" = some (.ref (He.fAd K ("ends_in", none))) := He.glo_ok X G (c.t.d.fact 6 (f := .glo "ends_in") rfl)
  obtain ⟨fd7, D7⟩ := c.t.d.def_ 7 (d := d_all_in) rfl
  have F7 : FunC K "all_in" s_all_in (He.fAd K ("all_in", none)) fd7 (He.codeOf K ("all_in", none)) := funC_of D7
  have n7 : mg "all_in" = some (.ref (He.fAd K ("all_in", none))) := He.glo_ok X G (c.t.d.fact 7 (f := .glo "all_in") rfl)
  obtain ⟨fd8, D8⟩ := c.t.d.def_ 8 (d := d__law_take) rfl
  have F8 : FunC K "_law_take" s__law_take (He.fAd K ("_law_take", none)) fd8 (He.codeOf K ("_law_take", none)) := funC_of D8
  have n8 : mg "_law_take" = some (.ref (He.fAd K ("_law_take", none))) := He.glo_ok X G (c.t.d.fact 8 (f := .glo "_law_take") rfl)
  obtain ⟨fd9, D9⟩ := c.t.d.def_ 9 (d := d__law_ordered) rfl
  have F9 : FunC K "_law_ordered" s__law_ordered (He.fAd K ("_law_ordered", none)) fd9 (He.codeOf K ("_law_ordered", none)) := funC_of D9
  have n9 : mg "_law_ordered" = some (.ref (He.fAd K ("_law_ordered", none))) := He.glo_ok X G (c.t.d.fact 9 (f := .glo "_law_ordered") rfl)
  obtain ⟨fd10, D10⟩ := c.t.d.def_ 10 (d := d__law_grows) rfl
  have F10 : FunC K "_law_grows" s__law_grows (He.fAd K ("_law_grows", none)) fd10 (He.codeOf K ("_law_grows", none)) := funC_of D10
  have n10 : mg "_law_grows" = some (.ref (He.fAd K ("_law_grows", none))) := He.glo_ok X G (c.t.d.fact 10 (f := .glo "_law_grows") rfl)
  obtain ⟨fd11, D11⟩ := c.t.d.def_ 11 (d := d__law_ends) rfl
  have F11 : FunC K "_law_ends" s__law_ends (He.fAd K ("_law_ends", none)) fd11 (He.codeOf K ("_law_ends", none)) := funC_of D11
  have n11 : mg "_law_ends" = some (.ref (He.fAd K ("_law_ends", none))) := He.glo_ok X G (c.t.d.fact 11 (f := .glo "_law_ends") rfl)
  obtain ⟨fd12, D12⟩ := c.t.d.def_ 12 (d := d__law_some) rfl
  have F12 : FunC K "_law_some" s__law_some (He.fAd K ("_law_some", none)) fd12 (He.codeOf K ("_law_some", none)) := funC_of D12
  have n12 : mg "_law_some" = some (.ref (He.fAd K ("_law_some", none))) := He.glo_ok X G (c.t.d.fact 12 (f := .glo "_law_some") rfl)
  obtain ⟨fd13, D13⟩ := c.t.d.def_ 13 (d := d__law_drawn_policy) rfl
  have F13 : FunC K "_law_drawn_policy" s__law_drawn_policy (He.fAd K ("_law_drawn_policy", none)) fd13 (He.codeOf K ("_law_drawn_policy", none)) := funC_of D13
  have n13 : mg "_law_drawn_policy" = some (.ref (He.fAd K ("_law_drawn_policy", none))) := He.glo_ok X G (c.t.d.fact 13 (f := .glo "_law_drawn_policy") rfl)
  obtain ⟨fd14, D14⟩ := c.t.d.def_ 14 (d := d__law_large) rfl
  have F14 : FunC K "_law_large" s__law_large (He.fAd K ("_law_large", none)) fd14 (He.codeOf K ("_law_large", none)) := funC_of D14
  have n14 : mg "_law_large" = some (.ref (He.fAd K ("_law_large", none))) := He.glo_ok X G (c.t.d.fact 14 (f := .glo "_law_large") rfl)
  obtain ⟨fd15, D15⟩ := c.t.d.def_ 15 (d := d_backward) rfl
  have F15 : FunC K "backward" s_backward (He.fAd K ("backward", none)) fd15 (He.codeOf K ("backward", none)) := funC_of D15
  have n15 : mg "backward" = some (.ref (He.fAd K ("backward", none))) := He.glo_ok X G (c.t.d.fact 15 (f := .glo "backward") rfl)
  obtain ⟨fd16, D16⟩ := c.t.d.def_ 16 (d := d_never) rfl
  have F16 : FunC K "never" s_never (He.fAd K ("never", none)) fd16 (He.codeOf K ("never", none)) := funC_of D16
  have n16 : mg "never" = some (.ref (He.fAd K ("never", none))) := He.glo_ok X G (c.t.d.fact 16 (f := .glo "never") rfl)
  obtain ⟨fd17, D17⟩ := c.t.d.def_ 17 (d := d_grown_inside) rfl
  have F17 : FunC K "grown_inside" s_grown_inside (He.fAd K ("grown_inside", none)) fd17 (He.codeOf K ("grown_inside", none)) := funC_of D17
  have n17 : mg "grown_inside" = some (.ref (He.fAd K ("grown_inside", none))) := He.glo_ok X G (c.t.d.fact 17 (f := .glo "grown_inside") rfl)
  obtain ⟨fd18, D18⟩ := c.t.d.def_ 18 (d := d__law_choices) rfl
  have F18 : FunC K "_law_choices" s__law_choices (He.fAd K ("_law_choices", none)) fd18 (He.codeOf K ("_law_choices", none)) := funC_of D18
  have n18 : mg "_law_choices" = some (.ref (He.fAd K ("_law_choices", none))) := He.glo_ok X G (c.t.d.fact 18 (f := .glo "_law_choices") rfl)
  obtain ⟨fd19, D19⟩ := c.t.d.def_ 19 (d := d_surely) rfl
  have F19 : FunC K "surely" s_surely (He.fAd K ("surely", none)) fd19 (He.codeOf K ("surely", none)) := funC_of D19
  have n19 : mg "surely" = some (.ref (He.fAd K ("surely", none))) := He.glo_ok X G (c.t.d.fact 19 (f := .glo "surely") rfl)
  obtain ⟨fd20, D20⟩ := c.t.d.def_ 20 (d := d_possible) rfl
  have F20 : FunC K "possible" s_possible (He.fAd K ("possible", none)) fd20 (He.codeOf K ("possible", none)) := funC_of D20
  have n20 : mg "possible" = some (.ref (He.fAd K ("possible", none))) := He.glo_ok X G (c.t.d.fact 20 (f := .glo "possible") rfl)
  obtain ⟨fd21, D21⟩ := c.t.d.def_ 21 (d := d_avoidable) rfl
  have F21 : FunC K "avoidable" s_avoidable (He.fAd K ("avoidable", none)) fd21 (He.codeOf K ("avoidable", none)) := funC_of D21
  have n21 : mg "avoidable" = some (.ref (He.fAd K ("avoidable", none))) := He.glo_ok X G (c.t.d.fact 21 (f := .glo "avoidable") rfl)
  obtain ⟨fd22, D22⟩ := c.t.d.def_ 22 (d := d_certain) rfl
  have F22 : FunC K "certain" s_certain (He.fAd K ("certain", none)) fd22 (He.codeOf K ("certain", none)) := funC_of D22
  have n22 : mg "certain" = some (.ref (He.fAd K ("certain", none))) := He.glo_ok X G (c.t.d.fact 22 (f := .glo "certain") rfl)
  obtain ⟨fd23, D23⟩ := c.t.d.def_ 23 (d := d__law_system) rfl
  have F23 : FunC K "_law_system" s__law_system (He.fAd K ("_law_system", none)) fd23 (He.codeOf K ("_law_system", none)) := funC_of D23
  have n23 : mg "_law_system" = some (.ref (He.fAd K ("_law_system", none))) := He.glo_ok X G (c.t.d.fact 23 (f := .glo "_law_system") rfl)
  obtain ⟨fd24, D24⟩ := c.t.d.def_ 24 (d := d_attainable) rfl
  have F24 : FunC K "attainable" s_attainable (He.fAd K ("attainable", none)) fd24 (He.codeOf K ("attainable", none)) := funC_of D24
  have n24 : mg "attainable" = some (.ref (He.fAd K ("attainable", none))) := He.glo_ok X G (c.t.d.fact 24 (f := .glo "attainable") rfl)
  obtain ⟨fd25, D25⟩ := c.t.d.def_ 25 (d := d__law_all) rfl
  have F25 : FunC K "_law_all" s__law_all (He.fAd K ("_law_all", none)) fd25 (He.codeOf K ("_law_all", none)) := funC_of D25
  have n25 : mg "_law_all" = some (.ref (He.fAd K ("_law_all", none))) := He.glo_ok X G (c.t.d.fact 25 (f := .glo "_law_all") rfl)
  obtain ⟨fd26, D26⟩ := c.t.d.def_ 26 (d := d_law) rfl
  have F26 : FunC K "law" s_law (He.fAd K ("law", none)) fd26 (He.codeOf K ("law", none)) := funC_of D26
  have n26 : mg "law" = some (.ref (He.fAd K ("law", none))) := He.glo_ok X G (c.t.d.fact 26 (f := .glo "law") rfl)
  have y_range : mg "range" = none := He.free_ok X G (c.t.d.fact 27 (f := .free "range") rfl)
  have y_len : mg "len" = none := He.free_ok X G (c.t.d.fact 28 (f := .free "len") rfl)
  have y_enumerate : mg "enumerate" = none := He.free_ok X G (c.t.d.fact 29 (f := .free "enumerate") rfl)
  have y_int : mg "int" = none := He.free_ok X G (c.t.d.fact 30 (f := .free "int") rfl)
  have y_any : mg "any" = none := He.free_ok X G (c.t.d.fact 31 (f := .free "any") rfl)
  have y_all : mg "all" = none := He.free_ok X G (c.t.d.fact 32 (f := .free "all") rfl)
  have y_tuple : mg "tuple" = none := He.free_ok X G (c.t.d.fact 33 (f := .free "tuple") rfl)
  have y_sorted : mg "sorted" = none := He.free_ok X G (c.t.d.fact 34 (f := .free "sorted") rfl)
  have y_list : mg "list" = none := He.free_ok X G (c.t.d.fact 35 (f := .free "list") rfl)
  have e := hfa.symm.trans n26
  cases e
  have mem : ∀ p ∈ tf.map (He.cT K), ∃ q ∈ tf, He.cT K q = p := fun p hp => List.mem_map.mp hp
  refine ⟨fd26, tf.map (He.cT K), spV K ((tf.map (He.cT K)).map (·.2)) C_law, fun p hp => ?_, fun p hp => ?_, fun p hp => ?_, fun s v => ?_, fun H a ns hl _ hH hS => ?_, fun base KB GB hTB => ?_⟩
  · obtain ⟨q, hq, rfl⟩ := mem p hp; exact c.empty q hq
  · obtain ⟨q, hq, rfl⟩ := mem p hp; exact c.out q hq
  · obtain ⟨q, hq, rfl⟩ := mem p hp; exact PySem.W.codeHd_of_K X (c.hd q hq)
  · exact F26.bindsA (ps := ["_law_script"]) (fun _ _ _ _ _ _ us hl => match us, hl with | [_], _ => rfl) s [v] rfl
  · have hT : ∀ P ∈ (tf.map (He.cT K)).map (·.2), GxR.TabG H P := fun P hP => by
      obtain ⟨p, hp, rfl⟩ := List.mem_map.mp hP
      exact ⟨#[], hH p hp, trivial⟩
    exact ⟨noT H _, ⟨fun _ => none, _⟩, [], [⟨rScr rInt, ns⟩], ⟨rBool, true⟩, [], rfl, Own.start K H _ hT, ⟨⟨a, _, rfl, sq_noT hT hS, paired_ints ns⟩, trivial⟩, ⟨ns, true, rfl, rfl, hm ns hl, rfl, rfl⟩, fun v _ _ _ _ h => h⟩
  · have tbs : ∀ q ∈ tf, ∃ P0, GxR.TabB base mg (He.codeOf K q) P0 ∧ P0 ∈ (tf.map (He.cT K)).map (·.2) := fun q hq => by
      have t := hTB (He.cT K q) (List.mem_map.mpr ⟨q, hq, rfl⟩)
      exact ⟨(He.cT K q).2, ⟨t.code, t.bm, t.gP⟩, List.mem_map.mpr ⟨_, List.mem_map.mpr ⟨q, hq, rfl⟩, rfl⟩⟩
    have b0 := F0.binds (ps := ["system", "states"]) fun _ _ _ _ _ _ us hl => match us, hl with | [_, _], _ => rfl
    have C_0 : Cl PySem.Challenge.rw_bestodds_k08_whole_sure_states_hang_toge.prog w K mg base 1 "marks" (spN K ((tf.map (He.cT K)).map (·.2)) rBool C_marks) [] := ⟨_, _, ["system", "states"], [], ok_marks F0 y_range y_len, n0, F0.kp, b0, .nil⟩
    have b1 := F1.binds (ps := ["known"]) fun _ _ _ _ _ _ us hl => match us, hl with | [_], _ => rfl
    have C_1 : Cl PySem.Challenge.rw_bestodds_k08_whole_sure_states_hang_toge.prog w K mg base 1 "listed" (spV K ((tf.map (He.cT K)).map (·.2)) C_listed) [] := ⟨_, _, ["known"], [], ok_listed F1 y_enumerate, n1, F1.kp, b1, .nil⟩
    have b2 := F2.binds (ps := ["system", "allowed", "targets"]) fun _ _ _ _ _ _ us hl => match us, hl with | [_, _, _], _ => rfl
    have C_2 : Cl PySem.Challenge.rw_bestodds_k08_whole_sure_states_hang_toge.prog w K mg base 1 "rest_of" (spV K ((tf.map (He.cT K)).map (·.2)) C_rest_of) [] := ⟨_, _, ["system", "allowed", "targets"], [], ok_rest_of F2 y_range y_len, n2, F2.kp, b2, .nil⟩
    have b3 := F3.binds (ps := ["_law_script"]) fun _ _ _ _ _ _ us hl => match us, hl with | [_], _ => rfl
    have C_3 : Cl PySem.Challenge.rw_bestodds_k08_whole_sure_states_hang_toge.prog w K mg base 1 "_law_tape" (spV K ((tf.map (He.cT K)).map (·.2)) C__law_tape) [] := ⟨_, _, ["_law_script"], [], ok__law_tape F3 y_int y_range, n3, F3.kp, b3, .nil⟩
    have b4 := F4.binds (ps := ["_law_tape_here", "_law_at", "_law_many"]) fun _ _ _ _ _ _ us hl => match us, hl with | [_, _, _], _ => rfl
    have C_4 : Cl PySem.Challenge.rw_bestodds_k08_whole_sure_states_hang_toge.prog w K mg base 1 "_law_draw" (spV K ((tf.map (He.cT K)).map (·.2)) C__law_draw) [] := ⟨_, _, ["_law_tape_here", "_law_at", "_law_many"], [], ok__law_draw F4 y_len y_int, n4, F4.kp, b4, .nil⟩
    have b5 := F5.binds (ps := ["_law_one", "_law_other"]) fun _ _ _ _ _ _ us hl => match us, hl with | [_, _], _ => rfl
    have C_5 : Cl PySem.Challenge.rw_bestodds_k08_whole_sure_states_hang_toge.prog w K mg base 1 "_law_in" (spV K ((tf.map (He.cT K)).map (·.2)) C__law_in) [] := ⟨_, _, ["_law_one", "_law_other"], [], ok__law_in F5 y_len, n5, F5.kp, b5, .nil⟩
    have b6 := F6.binds (ps := ["ends", "known"]) fun _ _ _ _ _ _ us hl => match us, hl with | [_, _], _ => rfl
    have C_6 : Cl PySem.Challenge.rw_bestodds_k08_whole_sure_states_hang_toge.prog w K mg base 2 "ends_in" (spV K ((tf.map (He.cT K)).map (·.2)) C_ends_in) [] := ⟨_, _, ["ends", "known"], [], ok_ends_in F6 y_any (tbs ("ends_in", none) (by unfold tf; simp)), n6, F6.kp, b6, .nil⟩
    have b7 := F7.binds (ps := ["ends", "known"]) fun _ _ _ _ _ _ us hl => match us, hl with | [_, _], _ => rfl
    have C_7 : Cl PySem.Challenge.rw_bestodds_k08_whole_sure_states_hang_toge.prog w K mg base 2 "all_in" (spV K ((tf.map (He.cT K)).map (·.2)) C_all_in) [] := ⟨_, _, ["ends", "known"], [], ok_all_in F7 y_all (tbs ("all_in", none) (by unfold tf; simp)), n7, F7.kp, b7, .nil⟩
    have b8 := F8.binds (ps := ["_law_state", "_law_many"]) fun _ _ _ _ _ _ us hl => match us, hl with | [_, _], _ => rfl
    have C_8 : Cl PySem.Challenge.rw_bestodds_k08_whole_sure_states_hang_toge.prog w K mg base 2 "_law_take" (spV K ((tf.map (He.cT K)).map (·.2)) C__law_take) [] := ⟨_, _, ["_law_state", "_law_many"], [], ok__law_take F8 C_4, n8, F8.kp, b8, .nil⟩
    have b9 := F9.binds (ps := ["_law_many", "_law_sets"]) fun _ _ _ _ _ _ us hl => match us, hl with | [_, _], _ => rfl
    have C_9 : Cl PySem.Challenge.rw_bestodds_k08_whole_sure_states_hang_toge.prog w K mg base 2 "_law_ordered" (spV K ((tf.map (He.cT K)).map (·.2)) C__law_ordered) [] := ⟨_, _, ["_law_many", "_law_sets"], [], ok__law_ordered F9 C_5 y_range y_len, n9, F9.kp, b9, .nil⟩
    have b10 := F10.binds (ps := ["_law_less", "_law_more"]) fun _ _ _ _ _ _ us hl => match us, hl with | [_, _], _ => rfl
    have C_10 : Cl PySem.Challenge.rw_bestodds_k08_whole_sure_states_hang_toge.prog w K mg base 2 "_law_grows" (spV K ((tf.map (He.cT K)).map (·.2)) C__law_grows) [] := ⟨_, _, ["_law_less", "_law_more"], [], ok__law_grows F10 C_5, n10, F10.kp, b10, .nil⟩
    have b11 := F11.binds (ps := ["_law_state", "_law_many"]) fun _ _ _ _ _ _ us hl => match us, hl with | [_, _], _ => rfl
    have C_11 : Cl PySem.Challenge.rw_bestodds_k08_whole_sure_states_hang_toge.prog w K mg base 3 "_law_ends" (spV K ((tf.map (He.cT K)).map (·.2)) C__law_ends) [] := ⟨_, _, ["_law_state", "_law_many"], [], ok__law_ends F11 C_8 y_range y_tuple, n11, F11.kp, b11, .nil⟩
    have b12 := F12.binds (ps := ["_law_state", "_law_many", "_law_share"]) fun _ _ _ _ _ _ us hl => match us, hl with | [_, _, _], _ => rfl
    have C_12 : Cl PySem.Challenge.rw_bestodds_k08_whole_sure_states_hang_toge.prog w K mg base 3 "_law_some" (spV K ((tf.map (He.cT K)).map (·.2)) C__law_some) [] := ⟨_, _, ["_law_state", "_law_many", "_law_share"], [], ok__law_some F12 C_8 y_range, n12, F12.kp, b12, .nil⟩
    have b13 := F13.binds (ps := ["_law_state", "_law_system_here"]) fun _ _ _ _ _ _ us hl => match us, hl with | [_, _], _ => rfl
    have C_13 : Cl PySem.Challenge.rw_bestodds_k08_whole_sure_states_hang_toge.prog w K mg base 3 "_law_drawn_policy" (spV K ((tf.map (He.cT K)).map (·.2)) C__law_drawn_policy) [] := ⟨_, _, ["_law_state", "_law_system_here"], [], ok__law_drawn_policy F13 C_8 y_len y_tuple, n13, F13.kp, b13, .nil⟩
    have b14 := F14.binds (ps := ["_law_state", "_law_many"]) fun _ _ _ _ _ _ us hl => match us, hl with | [_, _], _ => rfl
    have C_14 : Cl PySem.Challenge.rw_bestodds_k08_whole_sure_states_hang_toge.prog w K mg base 3 "_law_large" (spV K ((tf.map (He.cT K)).map (·.2)) C__law_large) [] := ⟨_, _, ["_law_state", "_law_many"], [], ok__law_large F14 C_8 y_range y_sorted y_tuple, n14, F14.kp, b14, .nil⟩
    have b15 := F15.binds (ps := ["system", "rest", "known"]) fun _ _ _ _ _ _ us hl => match us, hl with | [_, _, _], _ => rfl
    have C_15 : Cl PySem.Challenge.rw_bestodds_k08_whole_sure_states_hang_toge.prog w K mg base 4 "backward" (spV K ((tf.map (He.cT K)).map (·.2)) C_backward) [] := ⟨_, _, ["system", "rest", "known"], [], ok_backward F15 C_6 y_list y_any (tbs ("backward", none) (by unfold tf; simp)), n15, F15.kp, b15, .nil⟩
    have b16 := F16.binds (ps := ["system", "allowed", "targets"]) fun _ _ _ _ _ _ us hl => match us, hl with | [_, _, _], _ => rfl
    have C_16 : Cl PySem.Challenge.rw_bestodds_k08_whole_sure_states_hang_toge.prog w K mg base 4 "never" (spV K ((tf.map (He.cT K)).map (·.2)) C_never) [] := ⟨_, _, ["system", "allowed", "targets"], [], ok_never F16 C_2 C_7 y_range y_len y_any (tbs ("never", none) (by unfold tf; simp)), n16, F16.kp, b16, .nil⟩
    have b17 := F17.binds (ps := ["system", "rest", "targets", "inside"]) fun _ _ _ _ _ _ us hl => match us, hl with | [_, _, _, _], _ => rfl
    have C_17 : Cl PySem.Challenge.rw_bestodds_k08_whole_sure_states_hang_toge.prog w K mg base 4 "grown_inside" (spV K ((tf.map (He.cT K)).map (·.2)) C_grown_inside) [] := ⟨_, _, ["system", "rest", "targets", "inside"], [], ok_grown_inside F17 C_0 C_7 C_6 y_any (tbs ("grown_inside", none) (by unfold tf; simp)), n17, F17.kp, b17, .nil⟩
    have b18 := F18.binds (ps := ["_law_state", "_law_many", "_law_most"]) fun _ _ _ _ _ _ us hl => match us, hl with | [_, _, _], _ => rfl
    have C_18 : Cl PySem.Challenge.rw_bestodds_k08_whole_sure_states_hang_toge.prog w K mg base 4 "_law_choices" (spV K ((tf.map (He.cT K)).map (·.2)) C__law_choices) [] := ⟨_, _, ["_law_state", "_law_many", "_law_most"], [], ok__law_choices F18 C_8 C_11 y_range y_tuple, n18, F18.kp, b18, .nil⟩
    have b19 := F19.binds (ps := ["system", "allowed", "targets"]) fun _ _ _ _ _ _ us hl => match us, hl with | [_, _, _], _ => rfl
    have C_19 : Cl PySem.Challenge.rw_bestodds_k08_whole_sure_states_hang_toge.prog w K mg base 5 "surely" (spV K ((tf.map (He.cT K)).map (·.2)) C_surely) [] := ⟨_, _, ["system", "allowed", "targets"], [], ok_surely F19 C_2 C_17 y_len, n19, F19.kp, b19, .nil⟩
    have b20 := F20.binds (ps := ["system", "allowed", "targets"]) fun _ _ _ _ _ _ us hl => match us, hl with | [_, _, _], _ => rfl
    have C_20 : Cl PySem.Challenge.rw_bestodds_k08_whole_sure_states_hang_toge.prog w K mg base 5 "possible" (spV K ((tf.map (He.cT K)).map (·.2)) C_possible) [] := ⟨_, _, ["system", "allowed", "targets"], [], ok_possible F20 C_1 C_15 C_2 C_0, n20, F20.kp, b20, .nil⟩
    have b21 := F21.binds (ps := ["system", "allowed", "targets"]) fun _ _ _ _ _ _ us hl => match us, hl with | [_, _, _], _ => rfl
    have C_21 : Cl PySem.Challenge.rw_bestodds_k08_whole_sure_states_hang_toge.prog w K mg base 5 "avoidable" (spV K ((tf.map (He.cT K)).map (·.2)) C_avoidable) [] := ⟨_, _, ["system", "allowed", "targets"], [], ok_avoidable F21 C_1 C_16, n21, F21.kp, b21, .nil⟩
    have b22 := F22.binds (ps := ["system", "allowed", "targets"]) fun _ _ _ _ _ _ us hl => match us, hl with | [_, _, _], _ => rfl
    have C_22 : Cl PySem.Challenge.rw_bestodds_k08_whole_sure_states_hang_toge.prog w K mg base 5 "certain" (spV K ((tf.map (He.cT K)).map (·.2)) C_certain) [] := ⟨_, _, ["system", "allowed", "targets"], [], ok_certain F22 C_15 C_2 C_16 y_range y_len, n22, F22.kp, b22, .nil⟩
    have b23 := F23.binds (ps := ["_law_state", "_law_most"]) fun _ _ _ _ _ _ us hl => match us, hl with | [_, _], _ => rfl
    have C_23 : Cl PySem.Challenge.rw_bestodds_k08_whole_sure_states_hang_toge.prog w K mg base 5 "_law_system" (spV K ((tf.map (He.cT K)).map (·.2)) C__law_system) [] := ⟨_, _, ["_law_state", "_law_most"], [], ok__law_system F23 C_8 C_18 y_range y_tuple, n23, F23.kp, b23, .nil⟩
    have b24 := F24.binds (ps := ["system", "allowed", "targets"]) fun _ _ _ _ _ _ us hl => match us, hl with | [_, _, _], _ => rfl
    have C_24 : Cl PySem.Challenge.rw_bestodds_k08_whole_sure_states_hang_toge.prog w K mg base 6 "attainable" (spV K ((tf.map (He.cT K)).map (·.2)) C_attainable) [] := ⟨_, _, ["system", "allowed", "targets"], [], ok_attainable F24 C_1 C_19, n24, F24.kp, b24, .nil⟩
    have b25 := F25.binds (ps := ["_law_system_here", "_law_allowed", "_law_targets"]) fun _ _ _ _ _ _ us hl => match us, hl with | [_, _, _], _ => rfl
    have C_25 : Cl PySem.Challenge.rw_bestodds_k08_whole_sure_states_hang_toge.prog w K mg base 7 "_law_all" (spV K ((tf.map (He.cT K)).map (·.2)) C__law_all) [] := ⟨_, _, ["_law_system_here", "_law_allowed", "_law_targets"], [], ok__law_all F25 C_20 C_21 C_24 C_22, n25, F25.kp, b25, .nil⟩
    exact ok_law F26 C_3 C_23 C_8 C_14 C_12 C_25 C_9 C_10 C_5 C_13 y_range y_len y_list y_tuple y_sorted
end End
end L3
open PySem PySem.W PySem.Calls PyProof.Rows
set_option maxHeartbeats 0 in
theorem PySem.Challenge.cw_bestodds_k08_whole_sure_states_hang_toge_holds : PySem.Challenge.rw_bestodds_k08_whole_sure_states_hang_toge.Holds := by
  w_on; o_law
  refine HandSHeadRun.head_any (r := OpenLaw.row PySem.Challenge.rw_bestodds_k08_whole_sure_states_hang_toge) (q := view (OpenLaw.row PySem.Challenge.rw_bestodds_k08_whole_sure_states_hang_toge).prog [29]) (H := L3.End.hk) (ob := L3.End.ob) (M := 4000) (loose := L3.End.loose) (d := HandSHeadRun.topDef (OpenLaw.row PySem.Challenge.rw_bestodds_k08_whole_sure_states_hang_toge).prog 29) (kwd := []) L3.End.ob_eq
    (by kernel_rfl) (fun s => by kernel_rfl) L3.End.run (by kernel_rfl) (by kernel_rfl) (by kernel_rfl) (by rfl) (by first | assumption | decide +kernel) (by decide +kernel) ⟨rfl, rfl, rfl, rfl, rfl, by decide +kernel⟩ ?hw ?hc
  case hw => w_witness2
  case hc =>
    refine LamX.walk_ofTsE (l := PySem.Challenge.rw_bestodds_k08_whole_sure_states_hang_toge) (n := 63) (k := 8) (x := "_law_script") (CX := fun _ => L2.CX0) rfl (by decide) (by kernel_rfl) ⟨rfl, by decide, by decide⟩ ?F (fun _ _ _ _ _ z => z)
    intro w mg fa h Y G hmg0
    obtain ⟨K, KX, c⟩ := Y
    have hmg : mg ("law" : PySem.Str) = some (.ref fa) := by
      have e : (HandSHeadRun.topDef (OpenLaw.row PySem.Challenge.rw_bestodds_k08_whole_sure_states_hang_toge).prog 29).name = ("law" : PySem.Str) := by kernel_rfl
      rw [← e]
      exact hmg0
    exact ⟨K, KX, L3.End.facts KX G hmg c L3.law_true⟩
#print axioms PySem.Challenge.cw_bestodds_k08_whole_sure_states_hang_toge_holds

