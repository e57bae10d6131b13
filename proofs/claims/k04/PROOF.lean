import PyProof.Rows.All
import Wide.All
import OpenK.AllK
import Wide.FinOn
import HandS.ForMost
import HandS.Evl
import HandS.Gcd
import HandS.Wide
import HandS.Conv
import HandS.IsInst
import HandS.Codes
import PySem.Challenge.RW_bestodds_k04_moves_of_choices
import HandS.AnyAll
import HandS.Comp
import HandS.GenOver
import HandS.GenList
import HandS.HeadHook4
import HandS.HeadWalk
import HandS.Head0
import HandS.Head1
import HandS.Head2
import KE.GoesMore
import HandS.Iter
import HandS.TupAny
import HandS.TupMul
import HandS.Style
import HandS.ListItems
import HandS.SortRule
import HandS.Head3
import HandS.HeadEnd
import HandS.HeadHook1
import HandS.HeadHook2
set_option Elab.async false
set_option linter.all false
set_option maxRecDepth 100000
set_option maxHeartbeats 4000000
namespace L3
open PySem L2
open Evl (Ex ex_rd ex_l ex_t sq_of st_of fresh_back)

abbrev Fg := PySem.W.Frag

/-! ### how data stands in the heap -/
structure Rep (α : Type) where
  is : Fg → Hp → V → α → Prop
  mono : ∀ {K : Fg} {B B' : Hp} {v : V} {a : α}, Ex B B' → is K B v a → is K B' v a
structure CRep (α : Type) where
  is : Fg → Hp → HO → α → Prop
  mono : ∀ {K : Fg} {B B' : Hp} {o : HO} {a : α}, Ex B B' → is K B o a → is K B' o a

theorem paired_mono {α : Type} {r : Rep α} {K : Fg} {B B' : Hp} (e : Ex B B') : ∀ {xs : List V} {as : List α}, Paired (r.is K B) xs as → Paired (r.is K B') xs as
  | _, _, .nil => .nil
  | _, _, .cons h t => .cons (r.mono e h) (paired_mono e t)
theorem paired_len {α β : Type} {F : α → β → Prop} : ∀ {xs : List α} {as : List β}, Paired F xs as → xs.length = as.length
  | _, _, .nil => rfl
  | _, _, .cons _ t => congrArg (· + 1) (paired_len t)
theorem paired_get {α β : Type} {F : α → β → Prop} : ∀ {xs : List α} {as : List β} {i : Nat} {a : β}, Paired F xs as → as[i]? = some a → ∃ x, xs[i]? = some x ∧ F x a
  | _, _, _, _, .nil, e => by simp at e
  | _, _, 0, _, .cons r _, e => by simp at e; subst e; exact ⟨_, rfl, r⟩
  | _, _, i + 1, a, .cons _ t, e => by
    obtain ⟨u, h1, h2⟩ := paired_get (i := i) (a := a) t (by simpa using e)
    exact ⟨u, by simpa using h1, h2⟩
theorem paired_app {α β : Type} {F : α → β → Prop} : ∀ {xs ys : List α} {as bs : List β}, Paired F xs as → Paired F ys bs → Paired F (xs ++ ys) (as ++ bs)
  | _, _, _, _, .nil, s => s
  | _, _, _, _, .cons r t, s => .cons r (paired_app t s)
theorem paired_set {α β : Type} {F : α → β → Prop} {x : α} {a : β} (r : F x a) : ∀ {xs : List α} {as : List β} (i : Nat), Paired F xs as → Paired F (xs.set i x) (as.set i a)
  | _, _, _, .nil => .nil
  | _, _, 0, .cons _ t => .cons r t
  | _, _, i + 1, .cons q t => .cons q (paired_set r i t)
theorem paired_drop {α β : Type} {F : α → β → Prop} : ∀ {xs : List α} {as : List β} (n : Nat), Paired F xs as → Paired F (xs.drop n) (as.drop n)
  | _, _, 0, r => r
  | _, _, _ + 1, .nil => .nil
  | _, _, n + 1, .cons _ t => paired_drop n t
theorem paired_take {α β : Type} {F : α → β → Prop} : ∀ {xs : List α} {as : List β} (n : Nat), Paired F xs as → Paired F (xs.take n) (as.take n)
  | _, _, 0, _ => .nil
  | _, _, _ + 1, .nil => .nil
  | _, _, n + 1, .cons r t => .cons r (paired_take n t)
theorem paired_rev {α β : Type} {F : α → β → Prop} : ∀ {xs : List α} {as : List β}, Paired F xs as → Paired F xs.reverse as.reverse
  | _, _, .nil => .nil
  | _, _, .cons r t => by
    rw [List.reverse_cons, List.reverse_cons]
    exact paired_app (paired_rev t) (.cons r .nil)
theorem paired_map {α β γ : Type} {F : γ → β → Prop} {f : α → γ} {g : α → β} (h : ∀ a, F (f a) (g a)) : ∀ (l : List α), Paired F (l.map f) (l.map g)
  | [] => .nil
  | a :: l => .cons (h a) (paired_map h l)
theorem paired_imp {α β : Type} {F G : α → β → Prop} (h : ∀ a b, F a b → G a b) : ∀ {xs : List α} {as : List β}, Paired F xs as → Paired G xs as
  | _, _, .nil => .nil
  | _, _, .cons r t => .cons (h _ _ r) (paired_imp h t)

def rInt : Rep Int := ⟨fun _ _ v a => v = .int a, fun _ h => h⟩
def rBool : Rep Bool := ⟨fun _ _ v a => v = .bl a, fun _ h => h⟩
def rStr : Rep Str := ⟨fun _ _ v a => v = .str a, fun _ h => h⟩
def rNon : Rep Unit := ⟨fun _ _ v _ => v = .non, fun _ h => h⟩
def rRef : Rep Addr := ⟨fun _ _ v a => v = .ref a, fun _ h => h⟩
def rVal : Rep V := ⟨fun _ _ v a => v = a, fun _ h => h⟩
def rOpt {α : Type} (r : Rep α) : Rep (Option α) := ⟨fun K B v a => match a with | none => v = .non | some x => r.is K B v x, fun {K B B' v a} e h => by
  cases a with
  | none => exact h
  | some x => exact r.mono e h⟩
def rTup {α : Type} (r : Rep α) : Rep (List α) := ⟨fun K B v as => ∃ p xs, v = .ref p ∧ SqT K B p xs ∧ Paired (r.is K B) xs as, fun e ⟨p, xs, h1, h2, h3⟩ => ⟨p, xs, h1, ex_t e h2, paired_mono e h3⟩⟩
def rLst {α : Type} (r : Rep α) : Rep (List α) := ⟨fun K B v as => ∃ p xs, v = .ref p ∧ SqL K B p xs ∧ Paired (r.is K B) xs as, fun e ⟨p, xs, h1, h2, h3⟩ => ⟨p, xs, h1, ex_l e h2, paired_mono e h3⟩⟩
def rSeq {α : Type} (r : Rep α) : Rep (List α) := ⟨fun K B v as => ∃ p xs, v = .ref p ∧ (SqL K B p xs ∨ SqT K B p xs) ∧ Paired (r.is K B) xs as, fun e ⟨p, xs, h1, h2, h3⟩ => ⟨p, xs, h1, h2.imp (ex_l e) (ex_t e), paired_mono e h3⟩⟩
def rT2 {α β : Type} (r : Rep α) (s : Rep β) : Rep (α × β) := ⟨fun K B v a => ∃ p x y, v = .ref p ∧ SqT K B p [x, y] ∧ r.is K B x a.1 ∧ s.is K B y a.2,
  fun e ⟨p, x, y, h1, h2, h3, h4⟩ => ⟨p, x, y, h1, ex_t e h2, r.mono e h3, s.mono e h4⟩⟩
def rT3 {α β γ : Type} (r : Rep α) (s : Rep β) (t : Rep γ) : Rep (α × β × γ) := ⟨fun K B v a => ∃ p x y z, v = .ref p ∧ SqT K B p [x, y, z] ∧ r.is K B x a.1 ∧ s.is K B y a.2.1 ∧ t.is K B z a.2.2,
  fun e ⟨p, x, y, z, h1, h2, h3, h4, h5⟩ => ⟨p, x, y, z, h1, ex_t e h2, r.mono e h3, s.mono e h4, t.mono e h5⟩⟩
def cLst {α : Type} (r : Rep α) : CRep (List α) := ⟨fun K B o as => ∃ xs, o = .lst xs ∧ Paired (r.is K B) xs as, fun e ⟨xs, h1, h2⟩ => ⟨xs, h1, paired_mono e h2⟩⟩
/-- a list [u, v] of two kinds -/
def cL2 {α β : Type} (r : Rep α) (s : Rep β) : CRep (α × β) := ⟨fun K B o a => ∃ x y, o = .lst [x, y] ∧ r.is K B x a.1 ∧ s.is K B y a.2, fun e ⟨x, y, h1, h2, h3⟩ => ⟨x, y, h1, r.mono e h2, s.mono e h3⟩⟩
theorem rTup_seq {α : Type} {r : Rep α} {K : Fg} {B : Hp} {v : V} {as : List α} (h : (rTup r).is K B v as) : (rSeq r).is K B v as := by
  obtain ⟨p, xs, h1, h2, h3⟩ := h
  exact ⟨p, xs, h1, .inr h2, h3⟩
theorem rLst_seq {α : Type} {r : Rep α} {K : Fg} {B : Hp} {v : V} {as : List α} (h : (rLst r).is K B v as) : (rSeq r).is K B v as := by
  obtain ⟨p, xs, h1, h2, h3⟩ := h
  exact ⟨p, xs, h1, .inl h2, h3⟩

/-! ### the heap in three: B stays, M is not ours, L may change -/
structure Cell : Type 1 where
  {α : Type}
  p : Addr
  c : CRep α
  a : α
def Cell.ok (K : Fg) (B H : Hp) (x : Cell) : Prop := ∃ o, H x.p = some o ∧ x.c.is K B o x.a
/-- what is not ours; the code objects' tables that may grow -/
structure Fr where
  h : Hp
  T : List Addr
instance : CoeFun Fr fun _ => Addr → Option HO := ⟨Fr.h⟩
instance : CoeOut Fr Hp := ⟨Fr.h⟩
structure Own (K : Fg) (B : Hp) (M : Fr) (L : List Cell) (H : Hp) : Prop where
  b : Ex B H
  m : Ex M.h H
  bm : ∀ a, B a = none ∨ M a = none
  l : ∀ x ∈ L, x.ok K B H ∧ B x.p = none ∧ M x.p = none
  nd : (L.map (·.p)).Nodup
  t : ∀ P ∈ M.T, GxR.TabG H P ∧ B P = none ∧ M P = none ∧ P ∉ L.map (·.p)
section
variable {K : Fg} {B B' H H' : Hp} {M : Fr} {L L' : List Cell} {p : Addr} {o : HO} {α : Type} {c : CRep α} {a a' : α}
theorem Cell.ok.mono {x : Cell} (e : Ex B B') (h : x.ok K B H) : x.ok K B' H := by
  obtain ⟨o, h1, h2⟩ := h
  exact ⟨o, h1, x.c.mono e h2⟩
theorem tab_upd {H : Hp} {P p : Addr} {o : HO} (h : GxR.TabG H P) (ne : P ≠ p) : GxR.TabG (upd H p o) P := by
  obtain ⟨ps, h1, h2⟩ := h
  exact ⟨ps, by rw [upd_ne ne]; exact h1, h2⟩
theorem tab_ne {H : Hp} {P p : Addr} (h : GxR.TabG H P) (hp : H p = none) : P ≠ p := fun e => by
  obtain ⟨ps, h1, _⟩ := h
  rw [e, hp] at h1
  cases h1
/-- without the tables -/
def noT (H : Hp) (T : List Addr) : Hp := fun a => if a ∈ T then none else H a
theorem Own.start (K : Fg) (H : Hp) (T : List Addr) (hT : ∀ P ∈ T, GxR.TabG H P) : Own K (noT H T) ⟨fun _ => none, T⟩ [] H := ⟨fun a u h => by
    unfold noT at h
    split at h
    · cases h
    · exact h, fun _ _ h => (by cases h), fun _ => .inr rfl, fun _ h => absurd h (by simp), by simp, fun P hP => ⟨hT P hP, by unfold noT; rw [if_pos hP], rfl, by simp⟩⟩
theorem sq_noT {K : Fg} {H : Hp} {T : List Addr} {a : Addr} {xs : List V} (hT : ∀ P ∈ T, GxR.TabG H P) (h : SqL K H a xs) : SqL K (noT H T) a xs := by
  have ne : ∀ u, H a = some u → (∀ ps, u ≠ .tbl ps) → noT H T a = some u := fun u e n => by
    unfold noT
    split
    · rename_i hm
      obtain ⟨ps, h1, _⟩ := hT a hm
      rw [e] at h1
      exact absurd (Option.some.inj h1) (n ps)
    · exact e
  rcases h with (h | ⟨o, h⟩) | h
  · exact .inl (.inl (ne _ h fun _ e => by cases e))
  · exact .inl (.inr ⟨o, ne _ h fun _ e => by cases e⟩)
  · exact .inr h
/-- a new thing that stays -/
theorem Own.ext (w : Own K B M L H) (hp : H p = none) : Own K (upd B p o) M L (upd H p o) := by
  have hB : B p = none := fresh_back w.b hp
  have hM : M p = none := fresh_back w.m hp
  refine ⟨fun b u e => ?_, fun b u e => ?_, fun b => ?_, fun x hx => ?_, w.nd, fun P hP => ?_⟩
  rotate_right
  · obtain ⟨h1, h2, h3, h4⟩ := w.t P hP
    have ne := tab_ne h1 hp
    exact ⟨tab_upd h1 ne, by rw [upd_ne ne]; exact h2, h3, h4⟩
  · by_cases hb : b = p
    · rw [hb, upd_same] at e; rw [hb, upd_same]; exact e
    · rw [upd_ne hb] at e; rw [upd_ne hb]; exact w.b b u e
  · rw [upd_ne (ne_of_none e hM)]; exact w.m b u e
  · by_cases hb : b = p
    · right; rw [hb]; exact hM
    · rw [upd_ne hb]; exact w.bm b
  · obtain ⟨⟨u, h1, h2⟩, h3, h4⟩ := w.l x hx
    have ne : x.p ≠ p := ne_of_none h1 hp
    exact ⟨⟨u, by rw [upd_ne ne]; exact h1, x.c.mono (Ex.new hB) h2⟩, by rw [upd_ne ne]; exact h3, h4⟩
/-- a new thing that may change -/
theorem Own.new (w : Own K B M L H) (hp : H p = none) (h : c.is K B o a) : Own K B M (⟨p, c, a⟩ :: L) (upd H p o) := by
  have hB : B p = none := fresh_back w.b hp
  have hM : M p = none := fresh_back w.m hp
  refine ⟨fun b u e => ?_, fun b u e => ?_, w.bm, fun x hx => ?_, ?_, fun P hP => ?_⟩
  rotate_right
  · obtain ⟨h1, h2, h3, h4⟩ := w.t P hP
    have ne := tab_ne h1 hp
    exact ⟨tab_upd h1 ne, h2, h3, fun z => (List.mem_cons.mp z).elim ne h4⟩
  · rw [upd_ne (ne_of_none e hB)]; exact w.b b u e
  · rw [upd_ne (ne_of_none e hM)]; exact w.m b u e
  · rcases List.mem_cons.mp hx with rfl | hx
    · exact ⟨⟨o, upd_same, h⟩, hB, hM⟩
    · obtain ⟨⟨u, h1, h2⟩, h3, h4⟩ := w.l x hx
      exact ⟨⟨u, by rw [upd_ne (ne_of_none h1 hp)]; exact h1, h2⟩, h3, h4⟩
  · rw [List.map_cons, List.nodup_cons]
    refine ⟨fun hm => ?_, w.nd⟩
    obtain ⟨x, hx, e⟩ := List.mem_map.mp hm
    obtain ⟨⟨u, h1, _⟩, _⟩ := w.l x hx
    rw [e, show (Cell.mk p c a).p = p from rfl, hp] at h1
    cases h1
theorem nodup_at : ∀ {l : List Addr} {i j : Nat} {x : Addr}, l.Nodup → l[i]? = some x → l[j]? = some x → i = j := fun {l i j x} h a b => by
  obtain ⟨h1, e1⟩ := List.getElem?_eq_some_iff.mp a
  obtain ⟨h2, e2⟩ := List.getElem?_eq_some_iff.mp b
  exact (List.getElem_inj h).mp (e1.trans e2.symm)
theorem Own.at {i : Nat} {x : Cell} (w : Own K B M L H) (h : L[i]? = some x) : x.ok K B H ∧ B x.p = none ∧ M x.p = none := w.l x (List.mem_of_getElem? h)
theorem Own.ne {i j : Nat} {x y : Cell} (w : Own K B M L H) (h : L[i]? = some x) (h' : L[j]? = some y) (hij : i ≠ j) : x.p ≠ y.p := fun e => hij (nodup_at w.nd (by rw [List.getElem?_map, h]; rfl) (by rw [List.getElem?_map, h']; exact congrArg some e.symm))
/-- a change in place -/
theorem Own.set {i : Nat} (w : Own K B M L H) (h : L[i]? = some ⟨p, c, a⟩) {β : Type} {c' : CRep β} {a' : β} (h' : c'.is K B o a') : Own K B M (L.set i ⟨p, c', a'⟩) (upd H p o) := by
  obtain ⟨_, hB, hM⟩ := w.at h
  have ek : (L.set i ⟨p, c', a'⟩).map (·.p) = L.map (·.p) := by
    rw [List.map_set]
    refine List.ext_getElem? fun j => ?_
    by_cases hij : i = j
    · subst hij
      have hl : i < (L.map (·.p)).length := by rw [List.length_map]; exact (List.getElem?_eq_some_iff.mp h).1
      rw [List.getElem?_set_self hl, List.getElem?_map, h]; rfl
    · rw [List.getElem?_set_ne hij]
  refine ⟨fun b u e => ?_, fun b u e => ?_, w.bm, fun x hx => ?_, ?_, fun P hP => ?_⟩
  rotate_right
  · obtain ⟨h1, h2, h3, h4⟩ := w.t P hP
    have ne : P ≠ p := fun e => h4 (by rw [e]; exact List.mem_map.mpr ⟨_, List.mem_of_getElem? h, rfl⟩)
    exact ⟨tab_upd h1 ne, h2, h3, by rw [ek]; exact h4⟩
  · rw [upd_ne (ne_of_none e hB)]; exact w.b b u e
  · rw [upd_ne (ne_of_none e hM)]; exact w.m b u e
  · obtain ⟨j, hj⟩ := List.getElem?_of_mem hx
    by_cases hij : i = j
    · subst hij
      have hl : i < L.length := (List.getElem?_eq_some_iff.mp h).1
      rw [List.getElem?_set_self hl] at hj
      cases hj
      exact ⟨⟨o, upd_same, h'⟩, hB, hM⟩
    · rw [List.getElem?_set_ne hij] at hj
      obtain ⟨⟨u, h1, h2⟩, h3, h4⟩ := w.at hj
      have ne : x.p ≠ p := w.ne hj h (Ne.symm hij)
      exact ⟨⟨u, by rw [upd_ne ne]; exact h1, h2⟩, h3, h4⟩
  · have e : (L.set i ⟨p, c', a'⟩).map (·.p) = L.map (·.p) := by
      rw [List.map_set]
      refine List.ext_getElem? fun j => ?_
      by_cases hij : i = j
      · subst hij
        have hl : i < (L.map (·.p)).length := by rw [List.length_map]; exact (List.getElem?_eq_some_iff.mp h).1
        rw [List.getElem?_set_self hl, List.getElem?_map, h]; rfl
      · rw [List.getElem?_set_ne hij]
    rw [e]; exact w.nd
theorem Own.perm {L' : List Cell} (w : Own K B M L H) (h : ∀ x ∈ L', x ∈ L) (nd : (L'.map (·.p)).Nodup) : Own K B M L' H := ⟨w.b, w.m, w.bm, fun x hx => w.l x (h x hx), nd, fun P hP => by
  obtain ⟨h1, h2, h3, h4⟩ := w.t P hP
  refine ⟨h1, h2, h3, fun z => h4 ?_⟩
  obtain ⟨x, hx, e⟩ := List.mem_map.mp z
  exact List.mem_map.mpr ⟨x, h x hx, e⟩⟩
theorem Own.erase (w : Own K B M L H) (i : Nat) : Own K B M (L.eraseIdx i) H := by
  refine w.perm (fun x hx => List.mem_of_mem_eraseIdx hx) ?_
  exact w.nd.sublist ((List.eraseIdx_sublist L i).map _)
theorem Own.tail {x : Cell} (w : Own K B M (x :: L) H) : Own K B M L H := w.erase 0
theorem Own.nil (w : Own K B M L H) : Own K B M [] H := w.perm (fun _ h => absurd h (by simp)) (by simp)
/-- what may change stays from now on -/
theorem Own.freeze {i : Nat} {x : Cell} (w : Own K B M L H) (h : L[i]? = some x) : ∃ o, H x.p = some o ∧ x.c.is K B o x.a ∧ B x.p = none ∧ Own K (upd B x.p o) M (L.eraseIdx i) H := by
  obtain ⟨⟨o, h1, h2⟩, hB, hM⟩ := w.at h
  refine ⟨o, h1, h2, hB, fun b u e => ?_, w.m, fun b => ?_, fun y hy => ?_, w.nd.sublist ((List.eraseIdx_sublist L i).map _), fun P hP => ?_⟩
  rotate_right
  · obtain ⟨t1, t2, t3, t4⟩ := w.t P hP
    have ne : P ≠ x.p := fun e => t4 (by rw [e]; exact List.mem_map.mpr ⟨_, List.mem_of_getElem? h, rfl⟩)
    exact ⟨t1, by rw [upd_ne ne]; exact t2, t3, fun z => t4 (((List.eraseIdx_sublist L i).map _).subset z)⟩
  · by_cases hb : b = x.p
    · rw [hb, upd_same] at e; rw [hb, h1]; exact e
    · rw [upd_ne hb] at e; exact w.b b u e
  · by_cases hb : b = x.p
    · right; rw [hb]; exact hM
    · rw [upd_ne hb]; exact w.bm b
  · obtain ⟨⟨u, h3, h4⟩, h5, h6⟩ := w.l y (List.mem_of_mem_eraseIdx hy)
    have ne : y.p ≠ x.p := by
      obtain ⟨j, hj, hne⟩ := List.mem_eraseIdx_iff_getElem?.mp hy
      exact w.ne hne h hj
    exact ⟨⟨u, h3, y.c.mono (Ex.new hB) h4⟩, by rw [upd_ne ne]; exact h5, h6⟩
/-- what is ours as a part of what is not ours -/
def absorb (M : Fr) (L : List Cell) (H : Hp) : Fr := ⟨fun a => if a ∈ L.map (·.p) then H a else M a, M.T⟩
theorem absorb_in {x : Cell} (h : x ∈ L) : absorb M L H x.p = H x.p := by
  exact if_pos (List.mem_map.mpr ⟨x, h, rfl⟩)
theorem absorb_out (h : p ∉ L.map (·.p)) : absorb M L H p = M p := by
  exact if_neg h
/-- L1 is lent, L2 is set aside -/
theorem Own.lend {L1 L2 : List Cell} (w : Own K B M L H) (h1 : ∀ x ∈ L1, x ∈ L) (h2 : ∀ x ∈ L2, x ∈ L) (nd1 : (L1.map (·.p)).Nodup) (dj : ∀ x ∈ L1, x.p ∉ L2.map (·.p)) : Own K B (absorb M L2 H) L1 H := by
  refine ⟨w.b, fun b u e => ?_, fun b => ?_, fun x hx => ?_, nd1, fun P hP => ?_⟩
  rotate_right
  · obtain ⟨t1, t2, t3, t4⟩ := w.t P hP
    have sub : ∀ {L' : List Cell}, (∀ x ∈ L', x ∈ L) → P ∉ L'.map (·.p) := fun {L'} hs z => by
      obtain ⟨x, hx, e⟩ := List.mem_map.mp z
      exact t4 (List.mem_map.mpr ⟨x, hs x hx, e⟩)
    exact ⟨t1, t2, by rw [absorb_out (sub h2)]; exact t3, sub h1⟩
  · by_cases hb : b ∈ L2.map (·.p)
    · have e : (if b ∈ L2.map (·.p) then H b else M b) = some u := e; rw [if_pos hb] at e; exact e
    · rw [absorb_out hb] at e; exact w.m b u e
  · by_cases hb : b ∈ L2.map (·.p)
    · left
      obtain ⟨x, hx, rfl⟩ := List.mem_map.mp hb
      exact (w.l x (h2 x hx)).2.1
    · rw [absorb_out hb]; exact w.bm b
  · obtain ⟨a1, a2, a3⟩ := w.l x (h1 x hx)
    refine ⟨a1, a2, ?_⟩
    rw [absorb_out (dj x hx)]; exact a3
/-- it comes back changed -/
theorem Own.back {L1' L2 : List Cell} (w : Own K B M L H) (h2 : ∀ x ∈ L2, x ∈ L) (nd2 : (L2.map (·.p)).Nodup) (e : Ex B B') (w' : Own K B' (absorb M L2 H) L1' H') (dj : ∀ x ∈ L1', x.p ∉ L2.map (·.p)) : Own K B' M (L1' ++ L2) H' := by
  have inL : ∀ x ∈ L2, ∃ o, H x.p = some o ∧ H' x.p = some o ∧ x.c.is K B o x.a := fun x hx => by
    obtain ⟨⟨o, a1, a2⟩, _⟩ := w.l x (h2 x hx)
    exact ⟨o, a1, w'.m x.p o (by rw [absorb_in hx]; exact a1), a2⟩
  have Min : ∀ b u, M b = some u → b ∉ L2.map (·.p) := fun b u hm hb => by
    obtain ⟨x, hx, rfl⟩ := List.mem_map.mp hb
    rw [(w.l x (h2 x hx)).2.2] at hm
    cases hm
  refine ⟨w'.b, fun b u hm => w'.m b u (by rw [absorb_out (Min b u hm)]; exact hm), fun b => ?_, fun x hx => ?_, ?_, fun P hP => ?_⟩
  rotate_right
  · obtain ⟨t1, t2, t3, t4⟩ := w.t P hP
    obtain ⟨s1, s2, s3, s4⟩ := w'.t P hP
    refine ⟨s1, s2, t3, fun z => ?_⟩
    rw [List.map_append, List.mem_append] at z
    rcases z with z | z
    · exact s4 z
    · obtain ⟨x, hx, e⟩ := List.mem_map.mp z
      exact t4 (List.mem_map.mpr ⟨x, h2 x hx, e⟩)
  · rcases w'.bm b with h | h
    · exact .inl h
    · right
      by_cases hb : b ∈ L2.map (·.p)
      · obtain ⟨x, hx, rfl⟩ := List.mem_map.mp hb
        exact (w.l x (h2 x hx)).2.2
      · rw [absorb_out hb] at h; exact h
  · rcases List.mem_append.mp hx with hx | hx
    · obtain ⟨a1, a2, a3⟩ := w'.l x hx
      refine ⟨a1, a2, ?_⟩
      rw [absorb_out (dj x hx)] at a3; exact a3
    · obtain ⟨o, a1, a2, a3⟩ := inL x hx
      refine ⟨⟨o, a2, x.c.mono e a3⟩, ?_, (w.l x (h2 x hx)).2.2⟩
      rcases w'.bm x.p with h | h
      · exact h
      · rw [absorb_in hx, a1] at h; cases h
  · rw [List.map_append, List.nodup_append]
    refine ⟨w'.nd, nd2, fun a ha b hb hab => ?_⟩
    obtain ⟨x, hx, rfl⟩ := List.mem_map.mp ha
    exact dj x hx (by rw [hab]; exact hb)
end
end L3

namespace L3
open PySem L2
open Evl (Ex ex_rd ex_l ex_t sq_of st_of fresh_back)

/-! ### what an expression gives -/
def EV (K : Fg) (M : Fr) {α : Type} (te : TE) (σ : St) (B : Hp) (L : List Cell) (r : Rep α) (a : α) (L' : List Cell) : Prop :=
  ∀ B1 H, Ex B B1 → Own K B1 M L H → ∀ Q : VK, (∀ v B2 H2, Ex B1 B2 → Own K B2 M L' H2 → r.is K B2 v a → Q v H2) → te σ H Q
/-- a new list that may change -/
def EVL (K : Fg) (M : Fr) {α : Type} (te : TE) (σ : St) (B : Hp) (L : List Cell) (r : Rep α) (as : List α) (L' : List Cell) : Prop :=
  ∀ B1 H, Ex B B1 → Own K B1 M L H → ∀ Q : VK, (∀ p B2 H2, Ex B1 B2 → Own K B2 M (⟨p, cLst r, as⟩ :: L') H2 → Q (.ref p) H2) → te σ H Q
def ET (K : Fg) (M : Fr) (tt : TT) (σ : St) (B : Hp) (L : List Cell) (b : Bool) (L' : List Cell) : Prop :=
  ∀ B1 H, Ex B B1 → Own K B1 M L H → ∀ Q : Bool → Hp → Prop, (∀ B2 H2, Ex B1 B2 → Own K B2 M L' H2 → Q b H2) → tt σ H Q
structure Arg : Type 1 where
  {α : Type}
  r : Rep α
  a : α
def Arg.is (K : Fg) (B : Hp) (v : V) (x : Arg) : Prop := x.r.is K B v x.a
def ArgsIs (K : Fg) (B : Hp) : List V → List Arg → Prop
  | [], [] => True
  | v :: vs, a :: as => a.is K B v ∧ ArgsIs K B vs as
  | _, _ => False
theorem args_mono {K : Fg} {B B' : Hp} (e : Ex B B') : ∀ {vs : List V} {as : List Arg}, ArgsIs K B vs as → ArgsIs K B' vs as
  | [], [], _ => trivial
  | _ :: _, a :: _, h => ⟨a.r.mono e h.1, args_mono e h.2⟩
  | [], _ :: _, h => h
  | _ :: _, [], h => h
def EA (K : Fg) (M : Fr) (ta : TA) (σ : St) (B : Hp) (L : List Cell) (as : List Arg) (L' : List Cell) : Prop :=
  ∀ B1 H, Ex B B1 → Own K B1 M L H → ∀ Q : List V → Hp → Prop, (∀ vs B2 H2, Ex B1 B2 → Own K B2 M L' H2 → ArgsIs K B2 vs as → Q vs H2) → ta σ H Q

/-! ### partial operations of the mirrors -/
theorem bindS {α β : Type} {o : Option α} {f : α → Option β} {b : β} (h : Option.bind o f = some b) : ∃ a, o = some a ∧ f a = some b := by
  cases o with
  | none => cases h
  | some a => exact ⟨a, rfl, h⟩
def CMulX (i j : Int) : Prop := ((-(2 ^ 64) < i ∧ i < 2 ^ 64) ∨ (-(2 ^ 64) < j ∧ j < 2 ^ 64)) ∨ i.natAbs.log2 + j.natAbs.log2 < 1000000
instance (i j : Int) : Decidable (CMulX i j) := by unfold CMulX; infer_instance
theorem op_mulX {X : Cx} : OpR X (binaryOp .Mult) (rI CMulX fun i j => .int (i * j)) := opI fun _ _ _ _ _ _ _ hc q => PyProof.Rows.mul_int q (Or.elim hc CMul.ok CMulW.ok)
def mulI (i j : Int) : Option Int := if CMulX i j then some (i * j) else none
def divI (i j : Int) : Option Int := if 0 < j ∧ j.natAbs.log2 < 9000 then some (i / j) else none
def modI (i j : Int) : Option Int := if 0 < j then some (i % j) else none
def powI (i j : Int) : Option Int := if 0 ≤ j ∧ j ≤ 1000000 ∧ i.natAbs < 2 ^ 64 then some (i ^ j.toNat) else none
def ixL {α : Type} (xs : List α) (i : Int) : Option α := atI xs i
def room (n : Nat) : Option Unit := if n < sizeLine then some () else none
theorem mulI_some {i j k : Int} (h : mulI i j = some k) : CMulX i j ∧ k = i * j := by
  unfold mulI at h
  split at h
  · rename_i hc; exact ⟨hc, (Option.some.inj h).symm⟩
  · cases h
theorem divI_some {i j k : Int} (h : divI i j = some k) : CDivW i j ∧ k = i / j := by
  unfold divI at h
  split at h
  · rename_i hc; exact ⟨hc, (Option.some.inj h).symm⟩
  · cases h
theorem modI_some {i j k : Int} (h : modI i j = some k) : 0 < j ∧ k = i % j := by
  unfold modI at h
  split at h
  · rename_i hc; exact ⟨hc, (Option.some.inj h).symm⟩
  · cases h
theorem powI_some {i j k : Int} (h : powI i j = some k) : CPow i j ∧ k = i ^ j.toNat := by
  unfold powI at h
  split at h
  · rename_i hc; exact ⟨hc, (Option.some.inj h).symm⟩
  · cases h
theorem room_some {n : Nat} {u : Unit} (h : room n = some u) : n < sizeLine := by
  unfold room at h
  split at h
  · rename_i hc; exact hc
  · cases h
/-- an index in the mirror's list is one in the heap's -/
theorem atI_paired {α : Type} {F : V → α → Prop} {xs : List V} {as : List α} {i : Int} {a : α} (h : Paired F xs as) (e : atI as i = some a) : ∃ x, atI xs i = some x ∧ F x a := by
  unfold atI at e ⊢
  rw [paired_len h]
  revert e
  cases ixN as.length i with
  | none => intro e; simp at e
  | some j => intro e; exact paired_get h (by simpa using e)

section
variable {K : Fg} {M : Fr} {σ : St} {B : Hp} {L L1 L2 L' : List Cell} {α β γ δ : Type} {r : Rep α} {s : Rep β} {t : Rep γ} {ta tb tc te : TE} {tt tu : TT} {tA : TA} {i j k : Int} {b c : Bool}
/-! ### expressions -/
theorem ev_var {n : Nat} {v : V} {a : α} (h : σ[n]? = some (some v)) (hr : r.is K B v a) : EV K M (tVar n) σ B L r a L := fun B1 H e w Q q => ⟨v, h, q v B1 H (Ex.refl _) w (r.mono e hr)⟩
theorem ev_varI {n : Nat} {v : V} (h : σ[n]? = some (some v)) (hr : v = .int i) : EV K M (tVar n) σ B L rInt i L := ev_var h hr
theorem ev_varB {n : Nat} {v : V} (h : σ[n]? = some (some v)) (hr : v = .bl b) : EV K M (tVar n) σ B L rBool b L := ev_var h hr
theorem ev_varS {n : Nat} {v : V} {x : Str} (h : σ[n]? = some (some v)) (hr : v = .str x) : EV K M (tVar n) σ B L rStr x L := ev_var h hr
theorem ev_varR {n : Nat} {p : Addr} (h : σ[n]? = some (some (.ref p))) : EV K M (tVar n) σ B L rRef p L := ev_var h rfl
theorem ev_k {v : V} {a : α} (hr : ∀ B, r.is K B v a) : EV K M (tC v) σ B L r a L := fun B1 H e w Q q => q v B1 H (Ex.refl _) w (hr B1)
theorem ev_int : EV K M (tC (.int i)) σ B L rInt i L := ev_k fun _ => rfl
theorem ev_bl : EV K M (tC (.bl b)) σ B L rBool b L := ev_k fun _ => rfl
theorem ev_str {x : Str} : EV K M (tC (.str x)) σ B L rStr x L := ev_k fun _ => rfl
theorem ev_non : EV K M (tC .non) σ B L (rOpt r) none L := ev_k fun _ => rfl
theorem ev_as {a : α} {b : β} (h : EV K M te σ B L r a L') (f : ∀ B v, r.is K B v a → s.is K B v b) : EV K M te σ B L s b L' := fun B1 H e w Q q => h B1 H e w Q fun v B2 H2 e2 w2 h2 => q v B2 H2 e2 w2 (f _ _ h2)
theorem ev_seqT {as : List α} (h : EV K M te σ B L (rTup r) as L') : EV K M te σ B L (rSeq r) as L' := ev_as h fun _ _ => rTup_seq
theorem ev_seqL {as : List α} (h : EV K M te σ B L (rLst r) as L') : EV K M te σ B L (rSeq r) as L' := ev_as h fun _ _ => rLst_seq
theorem ev_sm {a : α} (h : EV K M te σ B L r a L') : EV K M te σ B L (rOpt r) (some a) L' := ev_as h fun _ _ h => h
/-- a new list, left as it is -/
theorem ev_frz {as : List α} (h : EVL K M te σ B L r as L') : EV K M te σ B L (rLst r) as L' := fun B1 H e w Q q => h B1 H e w Q fun p B2 H2 e2 w2 => by
  obtain ⟨o, h1, ⟨xs, h2, h3⟩, h4, w3⟩ := w2.freeze (i := 0) rfl
  have h4 : B2 p = none := h4
  have e3 : Ex B2 (upd B2 p o) := Ex.new h4
  refine q _ (upd B2 p o) H2 (e2.trans e3) w3 ⟨p, xs, rfl, .inl (.inl ?_), paired_mono e3 h3⟩
  rw [upd_same, h2]
/-- two values, one operation -/
theorem ev_op {R : R2} {a : α} {b : β} {c : γ} (ha : EV K M ta σ B L r a L1) (hb : EV K M tb σ B L1 s b L2)
    (h : ∀ B1 H1 x y (Q : VK), Own K B1 M L2 H1 → r.is K B1 x a → s.is K B1 y b → (∀ v, t.is K B1 v c → Q v H1) → R x y H1 Q) : EV K M (tOp R ta tb) σ B L t c L2 := fun B1 H e w Q q =>
  ha B1 H e w _ fun x B2 H2 e2 w2 hx => hb B2 H2 (e.trans e2) w2 _ fun y B3 H3 e3 w3 hy => h B3 H3 x y Q w3 (r.mono e3 hx) hy fun v hv => q v B3 H3 (e2.trans e3) w3 hv
theorem ev_un {R : V → Hp → VK → Prop} {a : α} {c : γ} (ha : EV K M ta σ B L r a L1) (h : ∀ B1 H1 x (Q : VK), Own K B1 M L1 H1 → r.is K B1 x a → (∀ v, t.is K B1 v c → Q v H1) → R x H1 Q) : EV K M (tUn R ta) σ B L t c L1 := fun B1 H e w Q q =>
  ha B1 H e w _ fun x B2 H2 e2 w2 hx => h B2 H2 x Q w2 hx fun v hv => q v B2 H2 e2 w2 hv
theorem ev_I0 {g : Int → Int → Int} (ha : EV K M ta σ B L rInt i L1) (hb : EV K M tb σ B L1 rInt j L2) : EV K M (tOp (rI0 fun i j => .int (g i j)) ta tb) σ B L rInt (g i j) L2 :=
  ev_op ha hb fun _ _ _ _ _ _ hx hy q => ⟨i, j, hx, hy, q _ rfl⟩
theorem ev_B0 {g : Int → Int → Bool} (ha : EV K M ta σ B L rInt i L1) (hb : EV K M tb σ B L1 rInt j L2) : EV K M (tOp (rI0 fun i j => .bl (g i j)) ta tb) σ B L rBool (g i j) L2 :=
  ev_op ha hb fun _ _ _ _ _ _ hx hy q => ⟨i, j, hx, hy, q _ rfl⟩
theorem ev_mul (ha : EV K M ta σ B L rInt i L1) (hb : EV K M tb σ B L1 rInt j L2) (h : mulI i j = some k) : EV K M (tOp (rI CMulX fun i j => .int (i * j)) ta tb) σ B L rInt k L2 :=
  ev_op ha hb fun _ _ _ _ _ _ hx hy q => ⟨i, j, hx, hy, (mulI_some h).1, q _ (by rw [(mulI_some h).2]; rfl)⟩
theorem ev_div (ha : EV K M ta σ B L rInt i L1) (hb : EV K M tb σ B L1 rInt j L2) (h : divI i j = some k) : EV K M (tOp (rI CDivW fun i j => .int (i / j)) ta tb) σ B L rInt k L2 :=
  ev_op ha hb fun _ _ _ _ _ _ hx hy q => ⟨i, j, hx, hy, (divI_some h).1, q _ (by rw [(divI_some h).2]; rfl)⟩
theorem ev_mod (ha : EV K M ta σ B L rInt i L1) (hb : EV K M tb σ B L1 rInt j L2) (h : modI i j = some k) : EV K M (tOp (rI (fun _ j => 0 < j) fun i j => .int (i % j)) ta tb) σ B L rInt k L2 :=
  ev_op ha hb fun _ _ _ _ _ _ hx hy q => ⟨i, j, hx, hy, (modI_some h).1, q _ (by rw [(modI_some h).2]; rfl)⟩
theorem ev_pow (ha : EV K M ta σ B L rInt i L1) (hb : EV K M tb σ B L1 rInt j L2) (h : powI i j = some k) : EV K M (tOp (rI CPow fun i j => .int (i ^ j.toNat)) ta tb) σ B L rInt k L2 :=
  ev_op ha hb fun _ _ _ _ _ _ hx hy q => ⟨i, j, hx, hy, (powI_some h).1, q _ (by rw [(powI_some h).2]; rfl)⟩
theorem ev_neg (ha : EV K M ta σ B L rInt i L1) : EV K M (tUn (rU fun i => .int (-i)) ta) σ B L rInt (-i) L1 := ev_un ha fun _ _ _ _ _ hx q => ⟨i, hx, q _ rfl⟩
theorem ev_eqI (ha : EV K M ta σ B L rInt i L1) (hb : EV K M tb σ B L1 rInt j L2) : EV K M (tOp rEq ta tb) σ B L rBool (decide (i = j)) L2 :=
  ev_op ha hb fun _ _ _ _ _ _ hx hy q => by
    have hx : _ = V.int i := hx
    have hy : _ = V.int j := hy
    subst hx hy
    exact ⟨rfl, q _ (by show V.bl _ = V.bl _; congr 1; simp)⟩
theorem ev_neI (ha : EV K M ta σ B L rInt i L1) (hb : EV K M tb σ B L1 rInt j L2) : EV K M (tOp rNe ta tb) σ B L rBool (!decide (i = j)) L2 :=
  ev_op ha hb fun _ _ _ _ _ _ hx hy q => by
    have hx : _ = V.int i := hx
    have hy : _ = V.int j := hy
    subst hx hy
    exact ⟨rfl, q _ (by show V.bl _ = V.bl _; congr 1; simp)⟩
theorem ev_eqS {x y : Str} (ha : EV K M ta σ B L rStr x L1) (hb : EV K M tb σ B L1 rStr y L2) : EV K M (tOp rEq ta tb) σ B L rBool (decide (x = y)) L2 :=
  ev_op ha hb fun _ _ _ _ _ _ hx hy q => by
    have hx : _ = V.str x := hx
    have hy : _ = V.str y := hy
    subst hx hy
    exact ⟨rfl, q _ (by show V.bl _ = V.bl _; congr 1; simp)⟩
theorem ev_neS {x y : Str} (ha : EV K M ta σ B L rStr x L1) (hb : EV K M tb σ B L1 rStr y L2) : EV K M (tOp rNe ta tb) σ B L rBool (!decide (x = y)) L2 :=
  ev_op ha hb fun _ _ _ _ _ _ hx hy q => by
    have hx : _ = V.str x := hx
    have hy : _ = V.str y := hy
    subst hx hy
    exact ⟨rfl, q _ (by show V.bl _ = V.bl _; congr 1; simp)⟩
theorem ev_eqB {x y : Bool} (ha : EV K M ta σ B L rBool x L1) (hb : EV K M tb σ B L1 rBool y L2) : EV K M (tOp rEq ta tb) σ B L rBool (decide (x = y)) L2 :=
  ev_op ha hb fun _ _ _ _ _ _ hx hy q => by
    have hx : _ = V.bl x := hx
    have hy : _ = V.bl y := hy
    subst hx hy
    exact ⟨rfl, q _ (by show V.bl _ = V.bl _; congr 1; simp)⟩
/-- x is None -/
theorem ev_isN {a : Option α} (ha : EV K M ta σ B L (rOpt r) a L1) (hn : ∀ B v x, r.is K B v x → v ≠ .non) : EV K M (tIsN ta) σ B L rBool a.isNone L1 := fun B1 H e w Q q =>
  ha B1 H e w _ fun x B2 H2 e2 w2 hx => q _ B2 H2 e2 w2 (by
    show V.bl _ = V.bl _
    congr 1
    cases a with
    | none => exact decide_eq_true (show x = V.non from hx)
    | some a => exact decide_eq_false (hn _ _ _ hx))
theorem ev_notN {a : Option α} (ha : EV K M ta σ B L (rOpt r) a L1) (hn : ∀ B v x, r.is K B v x → v ≠ .non) : EV K M (tNotN ta) σ B L rBool a.isSome L1 := fun B1 H e w Q q =>
  ha B1 H e w _ fun x B2 H2 e2 w2 hx => q _ B2 H2 e2 w2 (by
    show V.bl _ = V.bl _
    congr 1
    cases a with
    | none => rw [decide_eq_true (show x = V.non from hx)]; rfl
    | some a => rw [decide_eq_false (hn _ _ _ hx)]; rfl)
/-! ### tuples and lists -/
theorem ea_nil : EA K M tNil σ B L [] L := fun B1 H e w Q q => q [] B1 H (Ex.refl _) w trivial
theorem ea_cons {a : α} {as : List Arg} (ha : EV K M ta σ B L r a L1) (hr : EA K M tA σ B L1 as L2) : EA K M (tCons ta tA) σ B L (⟨r, a⟩ :: as) L2 := fun B1 H e w Q q =>
  ha B1 H e w _ fun x B2 H2 e2 w2 hx => hr B2 H2 (e.trans e2) w2 _ fun vs B3 H3 e3 w3 hvs => q (x :: vs) B3 H3 (e2.trans e3) w3 ⟨r.mono e3 hx, hvs⟩
theorem ev_T2 {a : α} {b : β} (h : EA K M tA σ B L [⟨r, a⟩, ⟨s, b⟩] L') : EV K M (tTup tA) σ B L (rT2 r s) (a, b) L' := fun B1 H e w Q q =>
  h B1 H e w _ fun vs B2 H2 e2 w2 hv => by
    match vs, hv with
    | [_, _], ⟨h1, h2, _⟩ => exact ⟨by show 2 ≤ sizeLine; decide, fun p hp => q _ (upd B2 p _) _ (e2.trans (Ex.new (fresh_back w2.b hp))) (w2.ext hp) ⟨p, _, _, rfl, st_of upd_same, r.mono (Ex.new (fresh_back w2.b hp)) h1, s.mono (Ex.new (fresh_back w2.b hp)) h2⟩⟩
theorem ev_T3 {a : α} {b : β} {c : γ} (h : EA K M tA σ B L [⟨r, a⟩, ⟨s, b⟩, ⟨t, c⟩] L') : EV K M (tTup tA) σ B L (rT3 r s t) (a, b, c) L' := fun B1 H e w Q q =>
  h B1 H e w _ fun vs B2 H2 e2 w2 hv => by
    match vs, hv with
    | [_, _, _], ⟨h1, h2, h3, _⟩ => exact ⟨by show 3 ≤ sizeLine; decide, fun p hp => q _ (upd B2 p _) _ (e2.trans (Ex.new (fresh_back w2.b hp))) (w2.ext hp) ⟨p, _, _, _, rfl, st_of upd_same, r.mono (Ex.new (fresh_back w2.b hp)) h1, s.mono (Ex.new (fresh_back w2.b hp)) h2, t.mono (Ex.new (fresh_back w2.b hp)) h3⟩⟩
theorem homog : ∀ {as : List α} {vs : List V}, ArgsIs K B vs (as.map (Arg.mk r)) → Paired (r.is K B) vs as
  | [], [], _ => .nil
  | _ :: _, _ :: _, h => .cons h.1 (homog h.2)
  | [], _ :: _, h => h.elim
  | _ :: _, [], h => h.elim
theorem ev_tup (as : List α) (h : EA K M tA σ B L (as.map (Arg.mk r)) L') (hl : Nat.ble as.length 100000 = true := by rfl) : EV K M (tTup tA) σ B L (rTup r) as L' := fun B1 H e w Q q =>
  h B1 H e w _ fun vs B2 H2 e2 w2 hv => ⟨by rw [paired_len (homog hv)]; exact Evl.sz_of (Nat.le_of_ble_eq_true hl), fun p hp => q _ (upd B2 p _) _ (e2.trans (Ex.new (fresh_back w2.b hp))) (w2.ext hp) ⟨p, _, rfl, st_of upd_same, paired_mono (Ex.new (fresh_back w2.b hp)) (homog hv)⟩⟩
theorem el_lst (as : List α) (h : EA K M tA σ B L (as.map (Arg.mk r)) L') (hl : Nat.ble as.length 100000 = true := by rfl) : EVL K M (tLst tA) σ B L r as L' := fun B1 H e w Q q =>
  h B1 H e w _ fun vs B2 H2 e2 w2 hv => ⟨by rw [paired_len (homog hv)]; exact Evl.sz_of (Nat.le_of_ble_eq_true hl), fun p hp => q p B2 _ e2 (w2.new hp ⟨vs, rfl, homog hv⟩)⟩
theorem ev_fst {a : α × β} (ha : EV K M ta σ B L (rT2 r s) a L1) : EV K M (tOp (rIx K) ta (tC (.int 0))) σ B L r a.1 L1 := fun B1 H e w Q q =>
  ha B1 H e w _ fun x B2 H2 e2 w2 hx => by
    obtain ⟨p, x0, x1, rfl, hs, h0, h1⟩ := hx
    exact .inr (.inl ⟨p, _, 0, x0, rfl, rfl, ex_t w2.b hs, rfl, q _ B2 H2 e2 w2 h0⟩)
theorem ev_snd {a : α × β} (ha : EV K M ta σ B L (rT2 r s) a L1) : EV K M (tOp (rIx K) ta (tC (.int 1))) σ B L s a.2 L1 := fun B1 H e w Q q =>
  ha B1 H e w _ fun x B2 H2 e2 w2 hx => by
    obtain ⟨p, x0, x1, rfl, hs, h0, h1⟩ := hx
    exact .inr (.inl ⟨p, _, 1, x1, rfl, rfl, ex_t w2.b hs, rfl, q _ B2 H2 e2 w2 h1⟩)
theorem ev_ix {xs : List α} {a : α} (ha : EV K M ta σ B L (rSeq r) xs L1) (hb : EV K M tb σ B L1 rInt i L2) (h : ixL xs i = some a) : EV K M (tOp (rIx K) ta tb) σ B L r a L2 :=
  ev_op ha hb fun B1 H1 x y Q w hx hy q => by
    obtain ⟨p, vs, rfl, hs, hv⟩ := hx
    obtain ⟨x, e, hx⟩ := atI_paired hv h
    rcases hs with hs | hs
    · exact .inl ⟨p, vs, i, x, rfl, hy, ex_l w.b hs, e, q _ hx⟩
    · exact .inr (.inl ⟨p, vs, i, x, rfl, hy, ex_t w.b hs, e, q _ hx⟩)
/-- of a list that may change -/
theorem ev_ixC {n : Nat} {p : Addr} {xs : List α} {a : α} (ha : EV K M ta σ B L rRef p L1) (hb : EV K M tb σ B L1 rInt i L2) (hc : L2[n]? = some ⟨p, cLst r, xs⟩) (h : ixL xs i = some a) : EV K M (tOp (rIx K) ta tb) σ B L r a L2 :=
  ev_op ha hb fun B1 H1 x y Q w hx hy q => by
    obtain ⟨⟨o, h1, vs, h2, hv⟩, _⟩ := w.at hc
    obtain ⟨x, e, hx'⟩ := atI_paired hv h
    exact .inl ⟨p, vs, i, x, hx, hy, sq_of (by rw [h1, h2]), e, q _ hx'⟩
def rLen (K : Fg) : List V → Hp → VK → Prop := fun xs H Q => ∃ p ys, xs = [.ref p] ∧ (SqL K H p ys ∨ SqT K H p ys) ∧ Q (.int ys.length) H
theorem ev_cb {R : List V → Hp → VK → Prop} {as : List Arg} {c : γ} (ha : EA K M tA σ B L as L1) (h : ∀ B1 H1 vs (Q : VK), Own K B1 M L1 H1 → ArgsIs K B1 vs as → (∀ v, t.is K B1 v c → Q v H1) → R vs H1 Q) : EV K M (tCB R tA) σ B L t c L1 := fun B1 H e w Q q =>
  ha B1 H e w _ fun vs B2 H2 e2 w2 hv => h B2 H2 vs Q w2 hv fun v hr => q v B2 H2 e2 w2 hr
theorem ev_cb1 {R : List V → Hp → VK → Prop} {a : α} {c : γ} (ha : EV K M ta σ B L r a L1) (h : ∀ B1 H1 x (Q : VK), Own K B1 M L1 H1 → r.is K B1 x a → (∀ v, t.is K B1 v c → Q v H1) → R [x] H1 Q) : EV K M (tCB R (tCons ta tNil)) σ B L t c L1 := fun B1 H e w Q q =>
  ha B1 H e w _ fun v B2 H2 e2 w2 hv => h B2 H2 v Q w2 hv fun v hr => q v B2 H2 e2 w2 hr
theorem ev_len {xs : List α} (ha : EV K M ta σ B L (rSeq r) xs L1) : EV K M (tCB (rLen K) (tCons ta tNil)) σ B L rInt (xs.length : Int) L1 :=
  ev_cb1 ha fun B1 H1 x Q w hx q => by
    obtain ⟨p, vs, rfl, hs, hv⟩ := hx
    exact ⟨p, vs, rfl, hs.imp (ex_l w.b) (ex_t w.b), q _ (by rw [paired_len hv]; rfl)⟩
theorem ev_lenC {n : Nat} {p : Addr} {xs : List α} (ha : EV K M ta σ B L rRef p L1) (hc : L1[n]? = some ⟨p, cLst r, xs⟩) : EV K M (tCB (rLen K) (tCons ta tNil)) σ B L rInt (xs.length : Int) L1 :=
  ev_cb1 ha fun B1 H1 x Q w hx q => by
    obtain ⟨⟨o, h1, vs, h2, hv⟩, _⟩ := w.at hc
    have h1 : H1 p = some o := h1
    exact ⟨p, vs, congrArg (fun z => [z]) hx, .inl (sq_of (by rw [h1, h2])), q _ (by rw [paired_len hv]; rfl)⟩
theorem ev_abs (ha : EV K M ta σ B L rInt i L1) : EV K M (tCB (fun xs H Q => ∃ i, xs = [.int i] ∧ Q (.int (if i < 0 then -i else i)) H) (tCons ta tNil)) σ B L rInt (if i < 0 then -i else i) L1 :=
  ev_cb1 ha fun B1 H1 x Q w hx q => ⟨i, congrArg (fun z => [z]) hx, q _ rfl⟩
def rInt1 : List V → Hp → VK → Prop := fun xs H Q => (∃ i, xs = [.int i] ∧ Q (.int i) H) ∨ ∃ k, xs = [.bl k] ∧ Q (.int (if k then 1 else 0)) H
theorem ev_intI (ha : EV K M ta σ B L rInt i L1) : EV K M (tCB rInt1 (tCons ta tNil)) σ B L rInt i L1 := ev_cb1 ha fun B1 H1 x Q w hx q => .inl ⟨i, congrArg (fun z => [z]) hx, q _ rfl⟩
theorem ev_intB (ha : EV K M ta σ B L rBool b L1) : EV K M (tCB rInt1 (tCons ta tNil)) σ B L rInt (if b then 1 else 0) L1 := ev_cb1 ha fun B1 H1 x Q w hx q => .inr ⟨b, congrArg (fun z => [z]) hx, q _ rfl⟩
theorem ev_gcd (ha : EV K M ta σ B L rInt i L1) (hb : EV K M tb σ B L1 rInt j L2) : EV K M (tCB rGcd (tCons ta (tCons tb tNil))) σ B L rInt ((Nat.gcd i.natAbs j.natAbs : Nat) : Int) L2 :=
  ev_cb (ea_cons ha (ea_cons hb ea_nil)) fun B1 H1 vs Q w hv q => by
    match vs, hv with
    | [_, _], ⟨h1, h2, _⟩ => exact ⟨i, j, by rw [show _ = V.int i from h1, show _ = V.int j from h2], q _ rfl⟩
/-! ### tests, and, or, not -/
theorem et_test (h : EV K M te σ B L rBool b L') : ET K M (tTest te) σ B L b L' := fun B1 H e w Q q => h B1 H e w _ fun v B2 H2 e2 w2 hv => ⟨b, hv, q B2 H2 e2 w2⟩
theorem et_B (h : EV K M te σ B L rBool b L') : ET K M (tB te) σ B L b L' := fun B1 H e w Q q => h B1 H e w _ fun v B2 H2 e2 w2 hv => ⟨b, hv, q B2 H2 e2 w2⟩
theorem et_not (h : ET K M tt σ B L b L') : ET K M (tNot tt) σ B L (!b) L' := fun B1 H e w Q q => h B1 H e w _ fun B2 H2 e2 w2 => q B2 H2 e2 w2
theorem et_and {b c : Bool} (h1 : ET K M tt σ B L b L1) (h2 : b = true → ET K M tu σ B L1 c L1) : ET K M (tAnd tt tu) σ B L (b && c) L1 := fun B1 H e w Q q => h1 B1 H e w _ fun B2 H2 e2 w2 => by
  cases b with
  | true => exact h2 rfl B2 H2 (e.trans e2) w2 Q fun B3 H3 e3 w3 => q B3 H3 (e2.trans e3) w3
  | false => exact q B2 H2 e2 w2
theorem et_or {b c : Bool} (h1 : ET K M tt σ B L b L1) (h2 : b = false → ET K M tu σ B L1 c L1) : ET K M (tOr tt tu) σ B L (b || c) L1 := fun B1 H e w Q q => h1 B1 H e w _ fun B2 H2 e2 w2 => by
  cases b with
  | true => exact q B2 H2 e2 w2
  | false => exact h2 rfl B2 H2 (e.trans e2) w2 Q fun B3 H3 e3 w3 => q B3 H3 (e2.trans e3) w3
/-- where the right side changes things -/
theorem et_and' {b d : Bool} (h1 : ET K M tt σ B L b L1) (h2 : b = true → ET K M tu σ B L1 d L2) (h3 : b = false → d = false ∧ L2 = L1) : ET K M (tAnd tt tu) σ B L d L2 := fun B1 H e w Q q => h1 B1 H e w _ fun B2 H2 e2 w2 => by
  cases b with
  | true => exact h2 rfl B2 H2 (e.trans e2) w2 Q fun B3 H3 e3 w3 => q B3 H3 (e2.trans e3) w3
  | false => obtain ⟨rfl, rfl⟩ := h3 rfl; exact q B2 H2 e2 w2
theorem et_or' {b d : Bool} (h1 : ET K M tt σ B L b L1) (h2 : b = false → ET K M tu σ B L1 d L2) (h3 : b = true → d = true ∧ L2 = L1) : ET K M (tOr tt tu) σ B L d L2 := fun B1 H e w Q q => h1 B1 H e w _ fun B2 H2 e2 w2 => by
  cases b with
  | true => obtain ⟨rfl, rfl⟩ := h3 rfl; exact q B2 H2 e2 w2
  | false => exact h2 rfl B2 H2 (e.trans e2) w2 Q fun B3 H3 e3 w3 => q B3 H3 (e2.trans e3) w3
theorem ev_andV {b d : Bool} (h1 : EV K M ta σ B L rBool b L1) (h2 : b = true → EV K M tb σ B L1 rBool d L2) (h3 : b = false → d = false ∧ L2 = L1) : EV K M (tAndV ta tb) σ B L rBool d L2 := fun B1 H e w Q q => h1 B1 H e w _ fun x B2 H2 e2 w2 hx => ⟨b, hx, by
  cases b with
  | true => exact h2 rfl B2 H2 (e.trans e2) w2 Q fun v B3 H3 e3 w3 hv => q v B3 H3 (e2.trans e3) w3 hv
  | false => obtain ⟨rfl, rfl⟩ := h3 rfl; exact q _ B2 H2 e2 w2 rfl⟩
theorem ev_orV {b d : Bool} (h1 : EV K M ta σ B L rBool b L1) (h2 : b = false → EV K M tb σ B L1 rBool d L2) (h3 : b = true → d = true ∧ L2 = L1) : EV K M (tOrV ta tb) σ B L rBool d L2 := fun B1 H e w Q q => h1 B1 H e w _ fun x B2 H2 e2 w2 hx => ⟨b, hx, by
  cases b with
  | true => obtain ⟨rfl, rfl⟩ := h3 rfl; exact q _ B2 H2 e2 w2 rfl
  | false => exact h2 rfl B2 H2 (e.trans e2) w2 Q fun v B3 H3 e3 w3 hv => q v B3 H3 (e2.trans e3) w3 hv⟩
theorem ev_notV (h : EV K M ta σ B L rBool b L1) : EV K M (tNotV ta) σ B L rBool (!b) L1 := fun B1 H e w Q q => h B1 H e w _ fun x B2 H2 e2 w2 hx => ⟨b, hx, q _ B2 H2 e2 w2 rfl⟩
theorem ev_if {a : α} (h : ET K M tt σ B L b L1) (h1 : b = true → EV K M ta σ B L1 r a L2) (h2 : b = false → EV K M tb σ B L1 r a L2) : EV K M (tIf tt ta tb) σ B L r a L2 := fun B1 H e w Q q => h B1 H e w _ fun B2 H2 e2 w2 => by
  cases b with
  | true => exact h1 rfl B2 H2 (e.trans e2) w2 Q fun v B3 H3 e3 w3 hv => q v B3 H3 (e2.trans e3) w3 hv
  | false => exact h2 rfl B2 H2 (e.trans e2) w2 Q fun v B3 H3 e3 w3 hv => q v B3 H3 (e2.trans e3) w3 hv
end
end L3

namespace L3
open PySem L2
open Evl (Ex ex_rd ex_l ex_t sq_of st_of fresh_back)

/-! ### promises -/
def spV (K : Fg) (T : List Addr) (C : List Arg → List Cell → Arg → List Cell → Prop) : Sp := fun vs H Q _ => ∃ B M L as r L', M.T = T ∧ Own K B M L H ∧ ArgsIs K B vs as ∧ C as L r L' ∧
  ∀ v B' H', Ex B B' → Own K B' M L' H' → r.is K B' v → Q v H'
theorem args_len {K : Fg} {B : Hp} : ∀ {vs : List V} {as : List Arg}, ArgsIs K B vs as → vs.length = as.length
  | [], [], _ => rfl
  | _ :: _, _ :: _, h => congrArg (· + 1) (args_len h.2)
  | [], _ :: _, h => h.elim
  | _ :: _, [], h => h.elim
theorem FnScope.of {N ps : List Str} {sc : Scope} (h1 : sc.kind = .function) (h2 : sc.isCoroutine = false) (h3 : sc.isGenerator = false) (h : FnScope N ps sc) : FnScope N ps sc := h

section
variable {K : Fg} {M : Fr} {σ : St} {B : Hp} {L L1 L2 L' : List Cell} {α β γ δ : Type} {r : Rep α} {s : Rep β} {t : Rep γ} {ta tb tc te : TE} {tt tu : TT} {tA : TA} {i j k : Int} {b c : Bool}
theorem nodup_one {x : Cell} : ([x].map (·.p)).Nodup := by simp
/-- a def that changes nothing of ours -/
theorem ev_call {C : List Arg → List Cell → Arg → List Cell → Prop} {E : XK} {as : List Arg} {a : α} (ha : EA K M tA σ B L as L1) (h : C as [] ⟨r, a⟩ []) : EV K M (tCall (spV K M.T C) [] E tA) σ B L r a L1 := fun B1 H e w Q q =>
  ha B1 H e w _ fun vs B2 H2 e2 w2 hv => by
    show spV K M.T C (vs ++ []) H2 Q E
    rw [List.append_nil]
    refine ⟨B2, absorb M L1 H2, [], as, ⟨r, a⟩, [], rfl, w2.lend (L1 := []) (L2 := L1) (fun _ h => absurd h (by simp)) (fun _ h => h) (by simp) (fun _ h => absurd h (by simp)), hv, h, fun v B' H' e3 w3 hr => ?_⟩
    exact q v B' H' (e2.trans e3) (w2.back (L1' := []) (fun _ h => h) w2.nd e3 w3 (fun _ h => absurd h (by simp))) hr
theorem erase_mem {x : Cell} {n : Nat} (w : (L.map (·.p)).Nodup) (h : L[n]? = some x) : x.p ∉ (L.eraseIdx n).map (·.p) := fun hm => by
  obtain ⟨y, hy, e⟩ := List.mem_map.mp hm
  obtain ⟨j, hj, hne⟩ := List.mem_eraseIdx_iff_getElem?.mp hy
  exact hj (nodup_at w (by rw [List.getElem?_map, hne]; rfl) (by rw [List.getElem?_map, h]; exact congrArg some e.symm))
theorem set_perm {x x' : Cell} {n : Nat} (h : L[n]? = some x) : ∀ y ∈ L.set n x', y ∈ x' :: L.eraseIdx n := fun y hy => by
  obtain ⟨m, hm⟩ := List.getElem?_of_mem hy
  by_cases e : n = m
  · subst e
    rw [List.getElem?_set_self (List.getElem?_eq_some_iff.mp h).1] at hm
    cases hm
    exact List.mem_cons_self
  · rw [List.getElem?_set_ne e] at hm
    exact List.mem_cons_of_mem _ (List.mem_eraseIdx_iff_getElem?.mpr ⟨m, Ne.symm e, hm⟩)
theorem set_keys {x x' : Cell} {n : Nat} (h : L[n]? = some x) (hp : x'.p = x.p) : (L.set n x').map (·.p) = L.map (·.p) := by
  rw [List.map_set, hp]
  refine List.ext_getElem? fun j => ?_
  by_cases hij : n = j
  · subst hij
    have hl : n < (L.map (·.p)).length := by rw [List.length_map]; exact (List.getElem?_eq_some_iff.mp h).1
    rw [List.getElem?_set_self hl, List.getElem?_map, h]; rfl
  · rw [List.getElem?_set_ne hij]
/-- a def that changes the one at n -/
theorem ev_callC {C : List Arg → List Cell → Arg → List Cell → Prop} {E : XK} {as : List Arg} {a : α} (n : Nat) {x x' : Cell} (ha : EA K M tA σ B L as L1) (hx : L1[n]? = some x) (h : C as [x] ⟨r, a⟩ [x']) (hp : x'.p = x.p) : EV K M (tCall (spV K M.T C) [] E tA) σ B L r a (L1.set n x') := fun B1 H e w Q q =>
  ha B1 H e w _ fun vs B2 H2 e2 w2 hv => by
    show spV K M.T C (vs ++ []) H2 Q E
    rw [List.append_nil]
    have nd := w2.nd
    have hn := erase_mem nd hx
    have sub : ∀ y ∈ L1.eraseIdx n, y ∈ L1 := fun y hy => List.mem_of_mem_eraseIdx hy
    refine ⟨B2, absorb M (L1.eraseIdx n) H2, [x], as, ⟨r, a⟩, [x'], rfl, w2.lend (L1 := [x]) (L2 := L1.eraseIdx n) (fun y h => by rw [List.mem_singleton.mp h]; exact List.mem_of_getElem? hx) sub nodup_one (fun y h => by rw [List.mem_singleton.mp h]; exact hn), hv, h, fun v B' H' e3 w3 hr => ?_⟩
    have w4 : Own K B' M ([x'] ++ L1.eraseIdx n) H' := w2.back (L1' := [x']) sub (nd.sublist ((List.eraseIdx_sublist L1 n).map _)) e3 w3 (fun y h => by rw [List.mem_singleton.mp h, hp]; exact hn)
    exact q v B' H' (e2.trans e3) (w4.perm (set_perm hx) (by rw [set_keys hx hp]; exact nd)) hr

/-! ### statements -/
variable {D : Ends} {tz t1 t2 : TS} {H : Hp}
theorem q_asg {n : Nat} {a : α} (w : Own K B M L H) (h : EV K M te σ B L r a L') (q : ∀ v B' H', Ex B B' → Own K B' M L' H' → r.is K B' v a → tz D (σ.set n (some v)) H') : tSeq (tAsg te (gName n)) tz D σ H := h B H (Ex.refl _) w _ q
theorem q_asgL {n : Nat} {as : List α} (w : Own K B M L H) (h : EVL K M te σ B L r as L') (q : ∀ p B' H', Ex B B' → Own K B' M (⟨p, cLst r, as⟩ :: L') H' → tz D (σ.set n (some (.ref p))) H') : tSeq (tAsg te (gName n)) tz D σ H := h B H (Ex.refl _) w _ q
theorem q_drop {a : α} (w : Own K B M L H) (h : EV K M te σ B L r a L') (q : ∀ B' H', Ex B B' → Own K B' M L' H' → tz D σ H') : tSeq (tDrop te) tz D σ H := h B H (Ex.refl _) w _ fun _ B' H' e w' _ => q B' H' e w'
theorem q_ret {a : α} (w : Own K B M L H) (h : EV K M te σ B L r a L') (q : ∀ v B' H', Ex B B' → Own K B' M L' H' → r.is K B' v a → D.rt v H') : tSeq (tRet te) tz D σ H := h B H (Ex.refl _) w _ q
theorem q_retN (w : Own K B M L H) (q : D.rt .non H) : tSeq tRetN tz D σ H := q
/-- a list of ours goes out -/
theorem q_retC {n m : Nat} {p : Addr} {as : List α} (w : Own K B M L H) (hs : σ[m]? = some (some (.ref p))) (hc : L[n]? = some ⟨p, cLst r, as⟩) (q : ∀ v B', Ex B B' → Own K B' M (L.eraseIdx n) H → (rLst r).is K B' v as → D.rt v H) : tSeq (tRet (tVar m)) tz D σ H := by
  obtain ⟨o, h1, ⟨xs, h2, h3⟩, h4, w'⟩ := w.freeze hc
  have h4 : B p = none := h4
  refine ⟨_, hs, q _ _ (Ex.new h4) w' ⟨p, xs, rfl, sq_of ?_, paired_mono (Ex.new h4) h3⟩⟩
  show upd B p o p = _
  rw [upd_same, h2]
theorem q_if (w : Own K B M L H) (h : ET K M tt σ B L b L') (h1 : b = true → ∀ B' H', Ex B B' → Own K B' M L' H' → t1 { D with nx := tz D } σ H') (h2 : b = false → ∀ B' H', Ex B B' → Own K B' M L' H' → t2 { D with nx := tz D } σ H') : tSeq (tIfS tt t1 t2) tz D σ H :=
  h B H (Ex.refl _) w _ fun B' H' e w' => by
    cases b with
    | true => exact h1 rfl B' H' e w'
    | false => exact h2 rfl B' H' e w'
theorem q_ifc (w : Own K B M L H) (h : ET K M tt σ B L b L') (h1 : b = true → ∀ B' H', Ex B B' → Own K B' M L' H' → t1 D σ H') (h2 : b = false → ∀ B' H', Ex B B' → Own K B' M L' H' → t2 D σ H') : tIfS tt t1 t2 D σ H :=
  h B H (Ex.refl _) w _ fun B' H' e w' => by
    cases b with
    | true => exact h1 rfl B' H' e w'
    | false => exact h2 rfl B' H' e w'
theorem q_cut {t : TS} (Mid : St → Hp → Prop) (h : t { D with nx := Mid } σ H) (k : ∀ σ' H', Mid σ' H' → tz D σ' H') : Evl.tCut t tz D σ H := ⟨Mid, h, k⟩
theorem q_app {n m : Nat} {p : Addr} {as : List α} {a : α} (w : Own K B M L H) (hs : σ[m]? = some (some (.ref p))) (h : EV K M te σ B L r a L') (hc : L'[n]? = some ⟨p, cLst r, as⟩) (hc0 : ∃ n0 : Nat, ∃ a0 : List α, L[n0]? = some ⟨p, cLst r, a0⟩) (hr : room as.length = some ())
    (q : ∀ B' H', Ex B B' → Own K B' M (L'.set n ⟨p, cLst r, as ++ [a]⟩) H' → tz D σ H') : tSeq (tDrop (tBM K "list" rAppend (tVar m) (tCons te tNil))) tz D σ H := by
  obtain ⟨n0, a0, hc0⟩ := hc0
  obtain ⟨⟨o, h1, ys, h2, h3⟩, _⟩ := w.at hc0
  have h1 : H p = some o := h1
  refine ⟨_, hs, .inl ⟨rfl, _, sq_of (xs := ys) (by rw [h1, h2])⟩, h B H (Ex.refl _) w _ fun v B' H' e w' hv => ?_⟩
  obtain ⟨⟨o', g1, xs, g2, g3⟩, _⟩ := w'.at hc
  have g1 : H' p = some o' := g1
  exact ⟨p, xs, v, rfl, rfl, by rw [g1, g2], by rw [paired_len g3]; exact room_some hr, q B' _ e (w'.set hc ⟨_, rfl, paired_app g3 (.cons hv .nil)⟩)⟩
/-- l[i] = e -/
theorem q_setC {n m : Nat} {p : Addr} {as : List α} {a : α} {l : Nat} (w : Own K B M L H) (h : EV K M te σ B L r a L1) (hs : σ[m]? = some (some (.ref p))) (hb : EV K M tb σ B L1 rInt i L2) (hc : L2[n]? = some ⟨p, cLst r, as⟩) (hi : ixN as.length i = some l)
    (q : ∀ B' H', Ex B B' → Own K B' M (L2.set n ⟨p, cLst r, as.set l a⟩) H' → tz D σ H') : tSeq (tAsg te (gSub (tVar m) tb rSetL)) tz D σ H :=
  h B H (Ex.refl _) w _ fun v B1 H1 e1 w1 hv => ⟨_, hs, hb B1 H1 e1 w1 _ fun y B2 H2 e2 w2 hy => by
    obtain ⟨⟨o', g1, xs, g2, g3⟩, _⟩ := w2.at hc
    have g1 : H2 p = some o' := g1
    refine ⟨p, xs, i, l, rfl, hy, by rw [g1, g2], by rw [paired_len g3]; exact hi, q B2 _ (e1.trans e2) (w2.set hc ⟨_, rfl, paired_set (r.mono e2 hv) l g3⟩)⟩⟩
/-- l[1] = e of a list [u, v] -/
theorem q_set1 {n m : Nat} {p : Addr} {a : α × β} {x : β} (w : Own K B M L H) (h : EV K M te σ B L s x L1) (hs : σ[m]? = some (some (.ref p))) (hc : L1[n]? = some ⟨p, cL2 r s, a⟩)
    (q : ∀ B' H', Ex B B' → Own K B' M (L1.set n ⟨p, cL2 r s, (a.1, x)⟩) H' → tz D σ H') : tSeq (tAsg te (gSub (tVar m) (tC (.int 1)) rSetL)) tz D σ H :=
  h B H (Ex.refl _) w _ fun v B1 H1 e1 w1 hv => ⟨_, hs, by
    obtain ⟨⟨o', g1, x0, x1, g2, g3, g4⟩, _⟩ := w1.at hc
    have g1 : H1 p = some o' := g1
    exact ⟨p, [x0, x1], 1, 1, rfl, rfl, by rw [g1, g2], rfl, q B1 _ e1 (w1.set hc ⟨x0, v, rfl, g3, hv⟩)⟩⟩
theorem ev_l2fst {n m : Nat} {p : Addr} {a : α × β} (hs : σ[m]? = some (some (.ref p))) (hc : L[n]? = some ⟨p, cL2 r s, a⟩) : EV K M (tOp (rIx K) (tVar m) (tC (.int 0))) σ B L r a.1 L := fun B1 H e w Q q => by
  obtain ⟨⟨o', g1, x0, x1, g2, g3, g4⟩, _⟩ := w.at hc
  have g1 : H p = some o' := g1
  exact ⟨_, hs, .inl ⟨p, [x0, x1], 0, x0, rfl, rfl, sq_of (by rw [g1, g2]), rfl, q _ B1 H (Ex.refl _) w g3⟩⟩
theorem ev_l2snd {n m : Nat} {p : Addr} {a : α × β} (hs : σ[m]? = some (some (.ref p))) (hc : L[n]? = some ⟨p, cL2 r s, a⟩) : EV K M (tOp (rIx K) (tVar m) (tC (.int 1))) σ B L s a.2 L := fun B1 H e w Q q => by
  obtain ⟨⟨o', g1, x0, x1, g2, g3, g4⟩, _⟩ := w.at hc
  have g1 : H p = some o' := g1
  exact ⟨_, hs, .inl ⟨p, [x0, x1], 1, x1, rfl, rfl, sq_of (by rw [g1, g2]), rfl, q _ B1 H (Ex.refl _) w g4⟩⟩
/-- a new list [u, v] -/
theorem q_asgL2 {n : Nat} {a : α} {b : β} (w : Own K B M L H) (h : EA K M tA σ B L [⟨r, a⟩, ⟨s, b⟩] L') (q : ∀ p B' H', Ex B B' → Own K B' M (⟨p, cL2 r s, (a, b)⟩ :: L') H' → tz D (σ.set n (some (.ref p))) H') : tSeq (tAsg (tLst tA) (gName n)) tz D σ H :=
  h B H (Ex.refl _) w _ fun vs B' H' e w' hv => by
    match vs, hv with
    | [_, _], ⟨h1, h2, _⟩ => exact ⟨by show 2 ≤ sizeLine; decide, fun p hp => q p B' _ e (w'.new hp ⟨_, _, rfl, h1, h2⟩)⟩
theorem q_par {n m : Nat} {a : α} {b : β} (w : Own K B M L H) (h : EA K M tA σ B L [⟨r, a⟩, ⟨s, b⟩] L') (q : ∀ u v B' H', Ex B B' → Own K B' M L' H' → r.is K B' u a → s.is K B' v b → tz D ((σ.set n (some u)).set m (some v)) H') : tSeq (tPar n m tA) tz D σ H :=
  h B H (Ex.refl _) w _ fun vs B' H' e w' hv => by
    match vs, hv with
    | [_, _], ⟨h1, h2, _⟩ => exact ⟨_, _, rfl, q _ _ B' H' e w' h1 h2⟩

/-! ### loops -/
inductive Stp (S R : Type) where
  | nx (s : S)
  | bk (s : S)
  | rt (r : R)
def loopM {S R α : Type} (f : S → α → Option (Stp S R)) : S → List α → Option (Stp S R)
  | s, [] => some (.nx s)
  | s, x :: xs => match f s x with
    | some (.nx s') => loopM f s' xs
    | o => o
def foldO {S α : Type} (f : S → α → Option S) : S → List α → Option S
  | s, [] => some s
  | s, x :: xs => match f s x with
    | some s' => foldO f s' xs
    | none => none
theorem loop_fold {S R α : Type} (f : S → α → Option S) : ∀ (xs : List α) (s : S), loopM (R := R) (fun s x => (f s x).map Stp.nx) s xs = (foldO f s xs).map Stp.nx
  | [], _ => rfl
  | x :: xs, s => by
    unfold loopM foldO
    cases f s x with
    | none => rfl
    | some s' => exact loop_fold f xs s'
/-- what is walked: xs, item by item, whatever is ours -/
structure Wk (K : Fg) (M : Fr) (J : It) (B : Hp) (r : Rep α) (xs : List α) : Prop where
  go : ∀ (i : Nat) a B' L' H', Ex B B' → Own K B' M L' H' → xs[i]? = some a → J.go i H' ∧ ∀ x H2, J.yld i H' x H2 → ∃ B2, Ex B' B2 ∧ Own K B2 M L' H2 ∧ r.is K B2 x a
  stop : ∀ B' L' H', Ex B B' → Own K B' M L' H' → J.stop xs.length H'
def EI (K : Fg) (M : Fr) (wi : TI) (σ : St) (B : Hp) (L : List Cell) (r : Rep α) (xs : List α) (L' : List Cell) : Prop :=
  ∀ B1 H, Ex B B1 → Own K B1 M L H → ∀ R : It → Hp → Prop, (∀ J B2 H2, Ex B1 B2 → Own K B2 M L' H2 → Wk K M J B2 r xs → R J H2) → wi σ H R
theorem ei_tup {xs : List α} (h : EV K M te σ B L (rTup r) xs L') : EI K M (iTup K te) σ B L r xs L' := fun B1 H e w R q => h B1 H e w _ fun v B2 H2 e2 w2 hv => by
  obtain ⟨p, vs, rfl, hs, hp⟩ := hv
  refine ⟨p, rfl, ⟨vs, ex_t w2.b hs⟩, q _ B2 H2 e2 w2 ⟨fun i a B' L' H' e' w' hi => ?_, fun B' L' H' e' w' => ⟨vs, ex_t (e'.trans w'.b) hs, by rw [paired_len hp]; exact Nat.le_refl _⟩⟩⟩
  obtain ⟨x, hx, hr⟩ := paired_get hp hi
  refine ⟨⟨vs, x, ex_t (e'.trans w'.b) hs, hx⟩, fun y H3 hy => ?_⟩
  obtain ⟨rfl, hy⟩ := hy
  have := hy vs (ex_t (e'.trans w'.b) hs)
  rw [hx] at this
  cases this
  exact ⟨B', Ex.refl _, w', r.mono e' hr⟩
theorem ei_lst {xs : List α} (h : EV K M te σ B L (rLst r) xs L') : EI K M (iList K te) σ B L r xs L' := fun B1 H e w R q => h B1 H e w _ fun v B2 H2 e2 w2 hv => by
  obtain ⟨p, vs, rfl, hs, hp⟩ := hv
  refine ⟨p, rfl, ⟨vs, ex_l w2.b hs⟩, q _ B2 H2 e2 w2 ⟨fun i a B' L' H' e' w' hi => ?_, fun B' L' H' e' w' => ⟨vs, ex_l (e'.trans w'.b) hs, by rw [paired_len hp]; exact Nat.le_refl _⟩⟩⟩
  obtain ⟨x, hx, hr⟩ := paired_get hp hi
  refine ⟨⟨vs, x, ex_l (e'.trans w'.b) hs, hx⟩, fun y H3 hy => ?_⟩
  obtain ⟨rfl, hy⟩ := hy
  have := hy vs (ex_l (e'.trans w'.b) hs)
  rw [hx] at this
  cases this
  exact ⟨B', Ex.refl _, w', r.mono e' hr⟩
/-- lo, lo + 1, .. below hi -/
def rng (lo hi : Int) : List Int := (List.range (hi - lo).toNat).map fun (k : Nat) => lo + (k : Int)
theorem rng_len (lo hi : Int) : (rng lo hi).length = (hi - lo).toNat := by simp [rng]
theorem rng_get {lo hi : Int} {i : Nat} {a : Int} (h : (rng lo hi)[i]? = some a) : i < (hi - lo).toNat ∧ a = lo + (i : Int) := by
  unfold rng at h
  rw [List.getElem?_map] at h
  cases e : (List.range (hi - lo).toNat)[i]? with
  | none => rw [e] at h; cases h
  | some k =>
    rw [e] at h
    obtain ⟨h1, h2⟩ := List.getElem?_eq_some_iff.mp e
    rw [List.getElem_range] at h2
    rw [List.length_range] at h1
    subst h2
    exact ⟨h1, (Option.some.inj h).symm⟩
def small62 (i : Int) : Option Unit := if -(2 ^ 62) ≤ i ∧ i < 2 ^ 62 then some () else none
theorem small62_some {u : Unit} (h : small62 i = some u) : -(2 ^ 62) ≤ i ∧ i < 2 ^ 62 := by
  unfold small62 at h
  split at h
  · assumption
  · cases h
theorem wk_rng {lo hi : Int} : Wk K M (Itr lo (hi - lo).toNat) B rInt (rng lo hi) :=
  ⟨fun i a B' L' H' e' w' hi => by
    obtain ⟨h1, rfl⟩ := rng_get hi
    exact ⟨h1, fun x H2 hy => ⟨B', Ex.refl _, by rw [hy.1]; exact w', hy.2⟩⟩, fun B' L' H' e' w' => by rw [rng_len]; exact Nat.le_refl _⟩
theorem ei_rng1 (h : EA K M tA σ B L [⟨rInt, j⟩] L') (hj : small62 j = some ()) : EI K M (iRng1 tA) σ B L rInt (rng 0 j) L' := fun B1 H e w R q => h B1 H e w _ fun vs B2 H2 e2 w2 hv => by
  match vs, hv with
  | [_], ⟨h1, _⟩ =>
    refine ⟨j, by rw [show _ = V.int j from h1], (small62_some hj).1, (small62_some hj).2, q _ B2 H2 e2 w2 ?_⟩
    have := wk_rng (K := K) (M := M) (B := B2) (lo := 0) (hi := j)
    rw [show j - 0 = j by omega] at this
    exact this
theorem ei_rng2 (h : EA K M tA σ B L [⟨rInt, i⟩, ⟨rInt, j⟩] L') (hi : small62 i = some ()) (hj : small62 j = some ()) : EI K M (iRng2 tA) σ B L rInt (rng i j) L' := fun B1 H e w R q => h B1 H e w _ fun vs B2 H2 e2 w2 hv => by
  match vs, hv with
  | [_, _], ⟨h1, h2, _⟩ => exact ⟨i, j, by rw [show _ = V.int i from h1, show _ = V.int j from h2], ⟨(small62_some hi).1, (small62_some hi).2, (small62_some hj).1, (small62_some hj).2⟩, q _ B2 H2 e2 w2 wk_rng⟩

theorem loopM_drop {S R : Type} {f : S → α → Option (Stp S R)} {s s' : S} {xs : List α} {i : Nat} {a : α} (h : xs[i]? = some a) : loopM f s (xs.drop i) = (match f s a with | some (.nx s') => loopM f s' (xs.drop (i + 1)) | o => o) := by
  obtain ⟨h1, h2⟩ := List.getElem?_eq_some_iff.mp h
  rw [List.drop_eq_getElem_cons h1, h2]
  rfl
theorem q_for {S R : Type} {wi : TI} {g : TG} {tb : TS} {xs : List α} (w : Own K B M L H) (hi : EI K M wi σ B L r xs L1) (f : S → α → Option (Stp S R)) (P : S → Hp → St → Prop) (Lf : S → List Cell) (s0 : S) {o : Stp S R} (hm : loopM f s0 xs = some o)
    (h0 : ∀ B', Ex B B' → P s0 B' σ) (hL : Lf s0 = L1)
    (hs : ∀ s x st v B0 B' H' σ', f s x = some st → Ex B B0 → P s B0 σ' → Ex B0 B' → Own K B' M (Lf s) H' → r.is K B' v x → (∀ q, st = .rt q → o = .rt q) → ∀ (N : St → Hp → Prop) (BK : St → Hp → Prop),
      (∀ s3 B3 H3 σ3, st = .nx s3 → Ex B' B3 → Own K B3 M (Lf s3) H3 → P s3 B3 σ3 → N σ3 H3) → (∀ s3 B3 H3 σ3, st = .bk s3 → Ex B' B3 → Own K B3 M (Lf s3) H3 → P s3 B3 σ3 → BK σ3 H3) →
      g v σ' H' fun σ2 H2 => tb { D with nx := N, ct := N, bk := BK } σ2 H2)
    (hd : ∀ s B' H' σ', (o = .nx s ∨ o = .bk s) → Ex B B' → Own K B' M (Lf s) H' → P s B' σ' → tz D σ' H') : tSeq (tFor wi g tb) tz D σ H :=
  hi B H (Ex.refl _) w _ fun J B1 H1 e1 w1 k => by
    refine ⟨fun i m σ' H' => m = xs.length - i ∧ i ≤ xs.length ∧ ∃ s B', Ex B1 B' ∧ Own K B' M (Lf s) H' ∧ P s B' σ' ∧ loopM f s (xs.drop i) = some o, ⟨xs.length, by simp, Nat.zero_le _, s0, B1, Ex.refl _, by rw [hL]; exact w1, h0 B1 e1, hm⟩, ?_⟩
    rintro i m σ' H' ⟨rfl, hle, s, B', e', w', hP, hl⟩
    by_cases hlt : i < xs.length
    · right
      obtain ⟨a, ha⟩ : ∃ a, xs[i]? = some a := ⟨xs[i], List.getElem?_eq_getElem hlt⟩
      obtain ⟨hgo, hy⟩ := k.go i a B' _ H' e' w' ha
      rw [loopM_drop (s' := s) ha] at hl
      cases hst : f s a with
      | none => rw [hst] at hl; cases hl
      | some st =>
        rw [hst] at hl
        refine ⟨hgo, fun σ3 H3 => ∃ s3 B3, st = .nx s3 ∧ Ex B1 B3 ∧ Own K B3 M (Lf s3) H3 ∧ P s3 B3 σ3, fun σ3 H3 ⟨s3, B3, e3, a1, a2, a3⟩ => ?_, fun x H2 hy2 => ?_⟩
        · subst e3
          exact ⟨_, (by omega : xs.length - (i + 1) < xs.length - i), rfl, hlt, s3, B3, a1, a2, a3, hl⟩
        · obtain ⟨B2, e2, w2, hr⟩ := hy x H2 hy2
          refine hs s a st x B' B2 H2 σ' hst (e1.trans e') hP e2 w2 hr (fun q e => by rw [e] at hl; exact (Option.some.inj hl).symm) _ _ (fun s3 B3 H3 σ3 e3 e4 w3 p3 => ⟨s3, B3, e3, (e'.trans e2).trans e4, w3, p3⟩) (fun s3 B3 H3 σ3 e3 e4 w3 p3 => ?_)
          rw [e3] at hl
          exact hd s3 B3 H3 σ3 (.inr (Option.some.inj hl).symm) (((e1.trans e').trans e2).trans e4) w3 p3
    · left
      have : i = xs.length := by omega
      subst this
      rw [List.drop_length] at hl
      have ho : o = .nx s := (Option.some.inj hl).symm
      exact ⟨k.stop B' _ H' e' w', hd s B' H' σ' (.inl ho) (e1.trans e') w' hP⟩
end
end L3

namespace L3
open PySem L2
open Evl (Ex ex_rd ex_l ex_t sq_of st_of fresh_back)

theorem args1 {K : Fg} {B : Hp} {vs : List V} {x : Arg} (h : ArgsIs K B vs [x]) : ∃ u, vs = [u] ∧ x.is K B u := by
  match vs, h with
  | [_], ⟨h1, _⟩ => exact ⟨_, rfl, h1⟩
theorem args2 {K : Fg} {B : Hp} {vs : List V} {x y : Arg} (h : ArgsIs K B vs [x, y]) : ∃ u v, vs = [u, v] ∧ x.is K B u ∧ y.is K B v := by
  match vs, h with
  | [_, _], ⟨h1, h2, _⟩ => exact ⟨_, _, rfl, h1, h2⟩
theorem args3 {K : Fg} {B : Hp} {vs : List V} {x y z : Arg} (h : ArgsIs K B vs [x, y, z]) : ∃ u v w, vs = [u, v, w] ∧ x.is K B u ∧ y.is K B v ∧ z.is K B w := by
  match vs, h with
  | [_, _, _], ⟨h1, h2, h3, _⟩ => exact ⟨_, _, _, rfl, h1, h2, h3⟩
theorem args4 {K : Fg} {B : Hp} {vs : List V} {x y z a : Arg} (h : ArgsIs K B vs [x, y, z, a]) : ∃ u v w t, vs = [u, v, w, t] ∧ x.is K B u ∧ y.is K B v ∧ z.is K B w ∧ a.is K B t := by
  match vs, h with
  | [_, _, _, _], ⟨h1, h2, h3, h4, _⟩ => exact ⟨_, _, _, _, rfl, h1, h2, h3, h4⟩
theorem args5 {K : Fg} {B : Hp} {vs : List V} {x y z a b : Arg} (h : ArgsIs K B vs [x, y, z, a, b]) : ∃ u v w t s, vs = [u, v, w, t, s] ∧ x.is K B u ∧ y.is K B v ∧ z.is K B w ∧ a.is K B t ∧ b.is K B s := by
  match vs, h with
  | [_, _, _, _, _], ⟨h1, h2, h3, h4, h5, _⟩ => exact ⟨_, _, _, _, _, rfl, h1, h2, h3, h4, h5⟩
theorem args6 {K : Fg} {B : Hp} {vs : List V} {x y z a b c : Arg} (h : ArgsIs K B vs [x, y, z, a, b, c]) : ∃ u v w t s r, vs = [u, v, w, t, s, r] ∧ x.is K B u ∧ y.is K B v ∧ z.is K B w ∧ a.is K B t ∧ b.is K B s ∧ c.is K B r := by
  match vs, h with
  | [_, _, _, _, _, _], ⟨h1, h2, h3, h4, h5, h6, _⟩ => exact ⟨_, _, _, _, _, _, rfl, h1, h2, h3, h4, h5, h6⟩
/-- a constant of the module -/
structure GV (K : Fg) (mg : Str → Option Value) (x : Str) {α : Type} (r : Rep α) (a : α) : Prop where
  ex : ∃ (u : Value) (v : V), mg x = some u ∧ RelV v u ∧ ∀ B, r.is K B v a
def absI (i : Int) : Int := if i < 0 then -i else i
def gcdI (i j : Int) : Int := ((Nat.gcd i.natAbs j.natAbs : Nat) : Int)
def ixO (n : Nat) (i : Int) : Option Nat := ixN n i

section
variable {K : Fg} {M : Fr} {σ : St} {B : Hp} {L L1 L2 L' : List Cell} {α β γ δ : Type} {r : Rep α} {s : Rep β} {t : Rep γ} {ta tb tc te : TE} {tt tu : TT} {tA : TA} {i j k : Int} {b c : Bool}
theorem ev_add (ha : EV K M ta σ B L rInt i L1) (hb : EV K M tb σ B L1 rInt j L2) : EV K M (tOp (rI0 fun i j => .int (i + j)) ta tb) σ B L rInt (i + j) L2 := ev_I0 (g := fun i j => i + j) ha hb
theorem ev_sub (ha : EV K M ta σ B L rInt i L1) (hb : EV K M tb σ B L1 rInt j L2) : EV K M (tOp (rI0 fun i j => .int (i - j)) ta tb) σ B L rInt (i - j) L2 := ev_I0 (g := fun i j => i - j) ha hb
theorem ev_bitand (ha : EV K M ta σ B L rInt i L1) (hb : EV K M tb σ B L1 rInt j L2) : EV K M (tOp (rI0 fun i j => .int (Builtin.bitAnd i j)) ta tb) σ B L rInt (Builtin.bitAnd i j) L2 := ev_I0 (g := fun i j => Builtin.bitAnd i j) ha hb
abbrev rLt : R2 := rI0 fun i j => .bl (decide (i < j))
abbrev rLe : R2 := rI0 fun i j => .bl (decide (i ≤ j))
abbrev rGt : R2 := rI0 fun i j => .bl (decide (j < i))
abbrev rGe : R2 := rI0 fun i j => .bl (decide (j ≤ i))
theorem ev_lt (ha : EV K M ta σ B L rInt i L1) (hb : EV K M tb σ B L1 rInt j L2) : EV K M (tOp rLt ta tb) σ B L rBool (decide (i < j)) L2 := ev_B0 (g := fun i j => decide (i < j)) ha hb
theorem ev_le (ha : EV K M ta σ B L rInt i L1) (hb : EV K M tb σ B L1 rInt j L2) : EV K M (tOp rLe ta tb) σ B L rBool (decide (i ≤ j)) L2 := ev_B0 (g := fun i j => decide (i ≤ j)) ha hb
theorem ev_gt (ha : EV K M ta σ B L rInt i L1) (hb : EV K M tb σ B L1 rInt j L2) : EV K M (tOp rGt ta tb) σ B L rBool (decide (i > j)) L2 := ev_B0 (g := fun i j => decide (j < i)) ha hb
theorem ev_ge (ha : EV K M ta σ B L rInt i L1) (hb : EV K M tb σ B L1 rInt j L2) : EV K M (tOp rGe ta tb) σ B L rBool (decide (i ≥ j)) L2 := ev_B0 (g := fun i j => decide (j ≤ i)) ha hb
theorem ev_ch {g g' : Int → Int → Bool} (ha : EV K M ta σ B L rInt i L1) (hb : EV K M tb σ B L1 rInt j L2) (hc : EV K M tc σ B L2 rInt k L2) : EV K M (tChain (rI0 fun i j => .bl (g i j)) (rI0 fun i j => .bl (g' i j)) ta tb tc) σ B L rBool (g i j && g' j k) L2 := fun B1 H e w Q q =>
  ha B1 H e w _ fun x B2 H2 e2 w2 hx => hb B2 H2 (e.trans e2) w2 _ fun y B3 H3 e3 w3 hy => ⟨i, j, hx, hy, g i j, rfl, by
    cases hg : g i j with
    | true => exact hc B3 H3 ((e.trans e2).trans e3) w3 _ fun z B4 H4 e4 w4 hz => ⟨j, k, hy, hz, q _ B4 H4 ((e2.trans e3).trans e4) w4 (by show V.bl _ = V.bl _; rw [hg]; rfl)⟩
    | false => exact q _ B3 H3 (e2.trans e3) w3 (by show V.bl _ = V.bl _; rw [hg]; rfl)⟩
theorem ev_ch_lt_lt (ha : EV K M ta σ B L rInt i L1) (hb : EV K M tb σ B L1 rInt j L2) (hc : EV K M tc σ B L2 rInt k L2) : EV K M (tChain rLt rLt ta tb tc) σ B L rBool (decide (i < j) && decide (j < k)) L2 := ev_ch (g := fun i j => decide (i < j)) (g' := fun i j => decide (i < j)) ha hb hc
theorem ev_ch_le_lt (ha : EV K M ta σ B L rInt i L1) (hb : EV K M tb σ B L1 rInt j L2) (hc : EV K M tc σ B L2 rInt k L2) : EV K M (tChain rLe rLt ta tb tc) σ B L rBool (decide (i ≤ j) && decide (j < k)) L2 := ev_ch (g := fun i j => decide (i ≤ j)) (g' := fun i j => decide (i < j)) ha hb hc
theorem ev_ch_lt_le (ha : EV K M ta σ B L rInt i L1) (hb : EV K M tb σ B L1 rInt j L2) (hc : EV K M tc σ B L2 rInt k L2) : EV K M (tChain rLt rLe ta tb tc) σ B L rBool (decide (i < j) && decide (j ≤ k)) L2 := ev_ch (g := fun i j => decide (i < j)) (g' := fun i j => decide (i ≤ j)) ha hb hc
theorem ev_ch_le_le (ha : EV K M ta σ B L rInt i L1) (hb : EV K M tb σ B L1 rInt j L2) (hc : EV K M tc σ B L2 rInt k L2) : EV K M (tChain rLe rLe ta tb tc) σ B L rBool (decide (i ≤ j) && decide (j ≤ k)) L2 := ev_ch (g := fun i j => decide (i ≤ j)) (g' := fun i j => decide (i ≤ j)) ha hb hc
theorem ev_and0 {d : Bool} (h1 : EV K M ta σ B L rBool b L1) (h2 : b = true → EV K M tb σ B L1 rBool d L1) : EV K M (tAndV ta tb) σ B L rBool (b && d) L1 := fun B1 H e w Q q => h1 B1 H e w _ fun x B2 H2 e2 w2 hx => ⟨b, hx, by
  cases b with
  | true => exact h2 rfl B2 H2 (e.trans e2) w2 Q fun v B3 H3 e3 w3 hv => q v B3 H3 (e2.trans e3) w3 hv
  | false => exact q _ B2 H2 e2 w2 rfl⟩
theorem ev_or0 {d : Bool} (h1 : EV K M ta σ B L rBool b L1) (h2 : b = false → EV K M tb σ B L1 rBool d L1) : EV K M (tOrV ta tb) σ B L rBool (b || d) L1 := fun B1 H e w Q q => h1 B1 H e w _ fun x B2 H2 e2 w2 hx => ⟨b, hx, by
  cases b with
  | true => exact q _ B2 H2 e2 w2 rfl
  | false => exact h2 rfl B2 H2 (e.trans e2) w2 Q fun v B3 H3 e3 w3 hv => q v B3 H3 (e2.trans e3) w3 hv⟩
/-! ### targets -/
variable {H : Hp} {Qs : St → Hp → Prop} {g : TG} {gs : TGs}
theorem g_T2 {a : α × β} {v : V} {gs : TGs} (h : (rT2 r s).is K B v a) (w : Own K B M L H) (q : ∀ x y, r.is K B x a.1 → s.is K B y a.2 → gs [x, y] σ H Qs) : gTup K 2 gs v σ H Qs := by
  obtain ⟨p, x, y, rfl, h1, h2, h3⟩ := h
  exact ⟨p, _, rfl, ex_t w.b h1, rfl, q x y h2 h3⟩
theorem g_T3 {a : α × β × γ} {v : V} {gs : TGs} (h : (rT3 r s t).is K B v a) (w : Own K B M L H) (q : ∀ x y z, r.is K B x a.1 → s.is K B y a.2.1 → t.is K B z a.2.2 → gs [x, y, z] σ H Qs) : gTup K 3 gs v σ H Qs := by
  obtain ⟨p, x, y, z, rfl, h1, h2, h3, h4⟩ := h
  exact ⟨p, _, rfl, ex_t w.b h1, rfl, q x y z h2 h3 h4⟩
theorem g_cons {v : V} {vs : List V} (h : g v σ H fun σ' H' => gs vs σ' H' Qs) : gCons g gs (v :: vs) σ H Qs := ⟨v, vs, rfl, h⟩
theorem g_name {n : Nat} {v : V} (h : Qs (σ.set n (some v)) H) : gName n v σ H Qs := h
theorem g_nil (h : Qs σ H) : gNil [] σ H Qs := ⟨rfl, h⟩
/-! ### more statements -/
variable {D : Ends} {tz t1 t2 : TS}
theorem q_aug {n : Nat} {v : V} {f : Int → Int → Int} (w : Own K B M L H) (hs : σ[n]? = some (some v)) (hv : v = .int i) (h : EV K M te σ B L rInt j L') (q : ∀ v B' H', Ex B B' → Own K B' M L' H' → rInt.is K B' v (f i j) → tz D (σ.set n (some v)) H') : tSeq (tAug n te (ipI f)) tz D σ H :=
  ⟨v, hs, h B H (Ex.refl _) w _ fun y B' H' e w' hy => ⟨i, j, hv, hy, q _ B' H' e w' rfl⟩⟩
theorem q_unp {a : α} (w : Own K B M L H) (h : EV K M te σ B L r a L') (q : ∀ v B' H', Ex B B' → Own K B' M L' H' → r.is K B' v a → g v σ H' (tz D)) : tSeq (tAsg te g) tz D σ H := h B H (Ex.refl _) w _ q
def Stp.out {S R : Type} : Stp S R → S ⊕ R
  | .nx s => .inl s
  | .bk s => .inl s
  | .rt q => .inr q
def Stp.st {S : Type} : Stp S Empty → S
  | .nx s => s
  | .bk s => s
  | .rt q => nomatch q
def loopR {S R α : Type} (f : S → α → Option (Stp S R)) (s : S) (xs : List α) : Option (S ⊕ R) := (loopM f s xs).map Stp.out
def loopB {S α : Type} (f : S → α → Option (Stp S Empty)) (s : S) (xs : List α) : Option S := (loopM f s xs).map Stp.st
theorem q_forR {S R : Type} {wi : TI} {g : TG} {tb : TS} {xs : List α} (w : Own K B M L H) (hi : EI K M wi σ B L r xs L1) (f : S → α → Option (Stp S R)) (P : S → Hp → St → Prop) (Lf : S → List Cell) (s0 : S) {o : S ⊕ R} (hm : loopR f s0 xs = some o)
    (h0 : ∀ B', Ex B B' → P s0 B' σ) (hL : Lf s0 = L1)
    (hs : ∀ s x st v B0 B' H' σ', f s x = some st → Ex B B0 → P s B0 σ' → Ex B0 B' → Own K B' M (Lf s) H' → r.is K B' v x → (∀ q, st = .rt q → o = .inr q) → ∀ (N : St → Hp → Prop) (BK : St → Hp → Prop),
      (∀ s3 B3 H3 σ3, st = .nx s3 → Ex B' B3 → Own K B3 M (Lf s3) H3 → P s3 B3 σ3 → N σ3 H3) → (∀ s3 B3 H3 σ3, st = .bk s3 → Ex B' B3 → Own K B3 M (Lf s3) H3 → P s3 B3 σ3 → BK σ3 H3) →
      g v σ' H' fun σ2 H2 => tb { D with nx := N, ct := N, bk := BK } σ2 H2)
    (hd : ∀ s B' H' σ', o = .inl s → Ex B B' → Own K B' M (Lf s) H' → P s B' σ' → tz D σ' H') : tSeq (tFor wi g tb) tz D σ H := by
  unfold loopR at hm
  cases h : loopM f s0 xs with
  | none => rw [h] at hm; cases hm
  | some o' =>
    rw [h] at hm
    have hm : o'.out = o := Option.some.inj hm
    refine q_for w hi f P Lf s0 h h0 hL (fun s x st v B0 B' H' σ' a1 a2 a3 a4 a5 a6 a7 => hs s x st v B0 B' H' σ' a1 a2 a3 a4 a5 a6 fun q e => ?_) fun s B' H' σ' a1 => hd s B' H' σ' ?_
    · rw [← hm, a7 q e]; rfl
    · rcases a1 with rfl | rfl
      · exact hm.symm
      · exact hm.symm
theorem q_forB {S : Type} {wi : TI} {g : TG} {tb : TS} {xs : List α} (w : Own K B M L H) (hi : EI K M wi σ B L r xs L1) (f : S → α → Option (Stp S Empty)) (P : S → Hp → St → Prop) (Lf : S → List Cell) (s0 : S) {s1 : S} (hm : loopB f s0 xs = some s1)
    (h0 : ∀ B', Ex B B' → P s0 B' σ) (hL : Lf s0 = L1)
    (hs : ∀ s x st v B0 B' H' σ', f s x = some st → Ex B B0 → P s B0 σ' → Ex B0 B' → Own K B' M (Lf s) H' → r.is K B' v x → ∀ (N : St → Hp → Prop) (BK : St → Hp → Prop),
      (∀ s3 B3 H3 σ3, st = .nx s3 → Ex B' B3 → Own K B3 M (Lf s3) H3 → P s3 B3 σ3 → N σ3 H3) → (∀ s3 B3 H3 σ3, st = .bk s3 → Ex B' B3 → Own K B3 M (Lf s3) H3 → P s3 B3 σ3 → BK σ3 H3) →
      g v σ' H' fun σ2 H2 => tb { D with nx := N, ct := N, bk := BK } σ2 H2)
    (hd : ∀ B' H' σ', Ex B B' → Own K B' M (Lf s1) H' → P s1 B' σ' → tz D σ' H') : tSeq (tFor wi g tb) tz D σ H := by
  unfold loopB at hm
  cases h : loopM f s0 xs with
  | none => rw [h] at hm; cases hm
  | some o' =>
    rw [h] at hm
    have hm : o'.st = s1 := Option.some.inj hm
    refine q_for w hi f P Lf s0 h h0 hL (fun s x st v B0 B' H' σ' a1 a2 a3 a4 a5 a6 _ => hs s x st v B0 B' H' σ' a1 a2 a3 a4 a5 a6) fun s B' H' σ' a1 => ?_
    have e : s1 = s := by
      rcases a1 with rfl | rfl
      · exact hm.symm
      · exact hm.symm
    subst e
    exact hd B' H' σ'
theorem q_fold {S : Type} {wi : TI} {g : TG} {tb : TS} {xs : List α} (w : Own K B M L H) (hi : EI K M wi σ B L r xs L1) (f : S → α → Option S) (P : S → Hp → St → Prop) (Lf : S → List Cell) (s0 : S) {s1 : S} (hm : foldO f s0 xs = some s1)
    (h0 : ∀ B', Ex B B' → P s0 B' σ) (hL : Lf s0 = L1)
    (hs : ∀ s x s' v B0 B' H' σ', f s x = some s' → Ex B B0 → P s B0 σ' → Ex B0 B' → Own K B' M (Lf s) H' → r.is K B' v x → ∀ (N : St → Hp → Prop) (BK : St → Hp → Prop),
      (∀ B3 H3 σ3, Ex B' B3 → Own K B3 M (Lf s') H3 → P s' B3 σ3 → N σ3 H3) →
      g v σ' H' fun σ2 H2 => tb { D with nx := N, ct := N, bk := BK } σ2 H2)
    (hd : ∀ B' H' σ', Ex B B' → Own K B' M (Lf s1) H' → P s1 B' σ' → tz D σ' H') : tSeq (tFor wi g tb) tz D σ H := by
  have h := loop_fold (R := Empty) f xs s0
  rw [hm] at h
  refine q_for w hi _ P Lf s0 h h0 hL (fun s x st v B0 B' H' σ' a1 a2 a3 a4 a5 a6 _ N BK hN hB => ?_) fun s B' H' σ' a1 => ?_
  · cases e : f s x with
    | none => rw [e] at a1; cases a1
    | some s' =>
      rw [e] at a1
      have a1 : st = .nx s' := (Option.some.inj a1).symm
      exact hs s x s' v B0 B' H' σ' e a2 a3 a4 a5 a6 N BK fun B3 H3 σ3 => hN s' B3 H3 σ3 a1
  · have e : s1 = s := by
      rcases a1 with h | h
      · cases h; rfl
      · cases h
    subst e
    exact hd B' H' σ'
end
/-- a def that may be called by its name -/
structure Cl (P : Program) (w : World) (K : Fg) (mg : Str → Option Value) (base : Heap) (k : Nat) (x : Str) (sp : Sp) (dvs : List V) : Prop where
  ex : ∃ (f : Addr) (fd : FuncData) (ps : List Str) (ds : List Value), FnOk P w K mg base CX0 k f fd ps sp ∧ mg x = some (.ref f) ∧ PySem.W.keepIn K (.ref f) = true ∧ Binds K fd ps ds ∧ Vals dvs ds
theorem pe_c {X : Cx} {k j : Nat} {x : Str} {sp : Sp} {dvs : List V} {p pos : Pos} {e : Expr} {es : List Expr} {t : TA} (c : Cl X.prog X.w X.K X.mg X.base k x sp dvs) (hr : Room j X.A) (hk : k ≤ j) (hg : Gl X x) (ha : PA X (e :: es) t)
    (hdb : (x == ("__debug__" : Str)) = false := by decide) (he : starEach (e :: es) X.env = (false, eval e X.env) :: starEach es X.env := by rfl) (hpl : (backTo pos (starEach es X.env)).any (·.1) = false := by rfl) :
    PE X (.Call (.Name x p) (e :: es) [] pos) (tCall sp dvs E0 t) := by
  obtain ⟨f, fd, ps, ds, F, hm, kp, b, d⟩ := c.ex
  exact pe_call F (hr.mono hk) hg hm kp b d pass0 ha hdb he hpl
theorem bt_len : bootBuiltins "len" = some (.builtin "len") := by decide +kernel
theorem bt_abs : bootBuiltins "abs" = some (.builtin "abs") := by decide +kernel
theorem bt_int : bootBuiltins "int" = some (.type "int") := by decide +kernel
theorem bt_isinstance : bootBuiltins "isinstance" = some (.builtin "isinstance") := by decide +kernel
theorem bt_sum : bootBuiltins "sum" = some (.builtin "sum") := by decide +kernel
theorem bt_any : bootBuiltins "any" = some (.builtin "any") := by decide +kernel
theorem bt_all : bootBuiltins "all" = some (.builtin "all") := by decide +kernel
theorem bt_list : bootBuiltins "list" = some (.type "list") := by decide +kernel
theorem bt_bool : bootBuiltins "bool" = some (.type "bool") := by decide +kernel
theorem bt_tuple : bootBuiltins "tuple" = some (.type "tuple") := by decide +kernel
theorem bt_sorted : bootBuiltins "sorted" = some (.builtin "sorted") := by decide +kernel
theorem bt_set : bootBuiltins "set" = some (.type "set") := by decide +kernel
theorem bt_str : bootBuiltins "str" = some (.type "str") := by decide +kernel
theorem bt_max : bootBuiltins "max" = some (.builtin "max") := by decide +kernel
theorem bt_min : bootBuiltins "min" = some (.builtin "min") := by decide +kernel
theorem bt_enumerate : bootBuiltins "enumerate" = some (.type "enumerate") := by decide +kernel
theorem bt_zip : bootBuiltins "zip" = some (.type "zip") := by decide +kernel
theorem bt_dict : bootBuiltins "dict" = some (.type "dict") := by decide +kernel
theorem room_hu {A : Around} {k : Nat} (hr : Room k A) : A.units + 64 < cLine := hr.units
theorem nn_rInt {K : Fg} {B : Hp} {v : V} {x : Int} (h : rInt.is K B v x) : v ≠ .non := by
  have h : v = .int x := h
  subst h; intro e; cases e
end L3

namespace L3
open PySem L2
open Evl (Ex ex_rd ex_l ex_t sq_of st_of fresh_back)

/-! ### data of any form -/
theorem exl {K : Fg} {B B' : Hp} {a : Addr} {xs : List V} (e : Ex B B') (h : SqL K B a xs) : SqL K B' a xs := ex_l e h
mutual
theorem dp_mono {K : Fg} {B B' : Hp} (e : Ex B B') : ∀ {v : V} {d : PyData}, Dp K B v d → Dp K B' v d
  | _, _, .non => .non
  | _, _, .bl b => .bl b
  | _, _, .int i => .int i
  | _, _, .str x => .str x
  | _, _, .lst h t => .lst (ex_l e h) (dpAll_mono e t)
  | _, _, .tup h t => .tup (ex_t e h) (dpAll_mono e t)
theorem dpAll_mono {K : Fg} {B B' : Hp} (e : Ex B B') : ∀ {vs : List V} {ds : List PyData}, DpAll K B vs ds → DpAll K B' vs ds
  | _, _, .nil => .nil
  | _, _, .cons h t => .cons (dp_mono e h) (dpAll_mono e t)
end
def rDat : Rep PyData := ⟨fun K B v d => Dp K B v d, fun e h => dp_mono e h⟩
theorem dpAll_paired {K : Fg} {B : Hp} : ∀ {vs : List V} {ds : List PyData}, DpAll K B vs ds → Paired (rDat.is K B) vs ds
  | _, _, .nil => .nil
  | _, _, .cons h t => .cons h (dpAll_paired t)
theorem dpAll_of {K : Fg} {B : Hp} {α : Type} {r : Rep α} {f : α → PyData} (h : ∀ v a, r.is K B v a → Dp K B v (f a)) : ∀ {vs : List V} {as : List α}, Paired (r.is K B) vs as → DpAll K B vs (as.map f)
  | _, _, .nil => .nil
  | _, _, .cons r t => .cons (h _ _ r) (dpAll_of h t)
/-- typed data as data -/
structure DR {α : Type} (r : Rep α) (f : α → PyData) (n : Nat) : Prop where
  dp : ∀ K B v a, r.is K B v a → Dp K B v (f a)
  lay : ∀ a, (f a).canLay0 = true
  dep : ∀ a, (f a).depth ≤ n
  eqv : ∀ a b, PyData.eqv (f a) (f b) = true ↔ a = b
  inj : ∀ a b, f a = f b → a = b
theorem layAll {α : Type} {f : α → PyData} (h : ∀ a, (f a).canLay0 = true) : ∀ l : List α, PyData.canLayAll0 (l.map f) = true
  | [] => rfl
  | a :: l => by simp only [List.map_cons, PyData.canLayAll0, h a, layAll h l, Bool.and_self]
theorem depAll {α : Type} {f : α → PyData} {n : Nat} (h : ∀ a, (f a).depth ≤ n) : ∀ l : List α, PyData.depthAll (l.map f) ≤ n
  | [] => by simp [PyData.depthAll]
  | a :: l => by simp only [List.map_cons, PyData.depthAll]; have := h a; have := depAll h l; omega
theorem eqvAll {α : Type} {f : α → PyData} (h : ∀ a b, PyData.eqv (f a) (f b) = true ↔ a = b) : ∀ l m : List α, PyData.eqvAll (l.map f) (m.map f) = true ↔ l = m
  | [], [] => by simp [PyData.eqvAll]
  | [], b :: m => by simp [PyData.eqvAll]
  | a :: l, [] => by simp [PyData.eqvAll]
  | a :: l, b :: m => by simp only [List.map_cons, PyData.eqvAll, Bool.and_eq_true, h a b, eqvAll h l m, List.cons.injEq]
theorem map_inj {α β : Type} {f : α → β} (h : ∀ a b, f a = f b → a = b) : ∀ l m : List α, l.map f = m.map f → l = m
  | [], [], _ => rfl
  | [], _ :: _, e => by simp at e
  | _ :: _, [], e => by simp at e
  | a :: l, b :: m, e => by
    rw [List.map_cons, List.map_cons, List.cons.injEq] at e
    rw [h _ _ e.1, map_inj h l m e.2]
theorem dr_int : DR rInt PyData.int 1 := ⟨fun _ _ _ a h => by have h : _ = V.int a := h; subst h; exact .int a, fun _ => rfl, fun _ => by simp [PyData.depth], fun a b => by simp [PyData.eqv], fun a b h => by injection h⟩
theorem dr_bool : DR rBool PyData.bool 1 := ⟨fun _ _ _ a h => by have h : _ = V.bl a := h; subst h; exact .bl a, fun _ => rfl, fun _ => by simp [PyData.depth], fun a b => by simp [PyData.eqv], fun a b h => by injection h⟩
def dNon : Unit → PyData := fun _ => .none
theorem dr_non : DR rNon dNon 1 := ⟨fun _ _ _ a h => by have h : _ = V.non := h; subst h; exact .non, fun _ => rfl, fun _ => by simp [PyData.depth, dNon], fun a b => by simp [PyData.eqv, dNon], fun a b h => rfl⟩
def dTup {α : Type} (f : α → PyData) (l : List α) : PyData := .tuple (l.map f)
def dLst {α : Type} (f : α → PyData) (l : List α) : PyData := .list (l.map f)
def dT2 {α β : Type} (f : α → PyData) (g : β → PyData) (a : α × β) : PyData := .tuple [f a.1, g a.2]
def dT3 {α β γ : Type} (f : α → PyData) (g : β → PyData) (h : γ → PyData) (a : α × β × γ) : PyData := .tuple [f a.1, g a.2.1, h a.2.2]
def dOpt {α : Type} (f : α → PyData) : Option α → PyData
  | none => .none
  | some a => f a
section
variable {α β γ : Type} {r : Rep α} {s : Rep β} {t : Rep γ} {f : α → PyData} {g : β → PyData} {h : γ → PyData} {n m k : Nat}
theorem dr_tup (d : DR r f n) : DR (rTup r) (dTup f) (n + 1) := ⟨fun K B v a ⟨p, xs, h1, h2, h3⟩ => by subst h1; exact .tup h2 (dpAll_of (d.dp K B) h3), fun a => by simpa [dTup, PyData.canLay0] using layAll d.lay a,
  fun a => by have := depAll d.dep a; simp only [dTup, PyData.depth]; omega, fun a b => by simpa [dTup, PyData.eqv] using eqvAll d.eqv a b, fun a b e => by unfold dTup at e; injection e with e; exact map_inj d.inj a b e⟩
theorem dr_lst (d : DR r f n) : DR (rLst r) (dLst f) (n + 1) := ⟨fun K B v a ⟨p, xs, h1, h2, h3⟩ => by subst h1; exact .lst h2 (dpAll_of (d.dp K B) h3), fun a => by simpa [dLst, PyData.canLay0] using layAll d.lay a,
  fun a => by have := depAll d.dep a; simp only [dLst, PyData.depth]; omega, fun a b => by simpa [dLst, PyData.eqv] using eqvAll d.eqv a b, fun a b e => by unfold dLst at e; injection e with e; exact map_inj d.inj a b e⟩
theorem dr_T2 (d : DR r f n) (e : DR s g m) : DR (rT2 r s) (dT2 f g) (max n m + 1) := ⟨fun K B v a ⟨p, x, y, h1, h2, h3, h4⟩ => by subst h1; exact .tup h2 (.cons (d.dp _ _ _ _ h3) (.cons (e.dp _ _ _ _ h4) .nil)),
  fun a => by simp [dT2, PyData.canLay0, PyData.canLayAll0, d.lay, e.lay], fun a => by have := d.dep a.1; have := e.dep a.2; simp only [dT2, PyData.depth, PyData.depthAll]; omega,
  fun a b => by simp only [dT2, PyData.eqv, PyData.eqvAll, Bool.and_true, Bool.and_eq_true, d.eqv, e.eqv]; exact ⟨fun ⟨x, y⟩ => Prod.ext x y, fun e => by rw [e]; exact ⟨rfl, rfl⟩⟩,
  fun a b q => by unfold dT2 at q; injection q with q; injection q with q1 q2; injection q2 with q2 _; exact Prod.ext (d.inj _ _ q1) (e.inj _ _ q2)⟩
theorem dr_T3 (d : DR r f n) (e : DR s g m) (c : DR t h k) : DR (rT3 r s t) (dT3 f g h) (max n (max m k) + 1) := ⟨fun K B v a ⟨p, x, y, z, h1, h2, h3, h4, h5⟩ => by subst h1; exact .tup h2 (.cons (d.dp _ _ _ _ h3) (.cons (e.dp _ _ _ _ h4) (.cons (c.dp _ _ _ _ h5) .nil))),
  fun a => by simp [dT3, PyData.canLay0, PyData.canLayAll0, d.lay, e.lay, c.lay], fun a => by have := d.dep a.1; have := e.dep a.2.1; have := c.dep a.2.2; simp only [dT3, PyData.depth, PyData.depthAll]; omega,
  fun a b => by simp only [dT3, PyData.eqv, PyData.eqvAll, Bool.and_true, Bool.and_eq_true, d.eqv, e.eqv, c.eqv]; exact ⟨fun ⟨x, y, z⟩ => Prod.ext x (Prod.ext y z), fun e => by rw [e]; exact ⟨rfl, rfl, rfl⟩⟩,
  fun a b q => by unfold dT3 at q; injection q with q; injection q with q1 q2; injection q2 with q2 q3; injection q3 with q3 _; exact Prod.ext (d.inj _ _ q1) (Prod.ext (e.inj _ _ q2) (c.inj _ _ q3))⟩
theorem DR.dec [DecidableEq α] (d : DR r f n) (a b : α) : PyData.eqv (f a) (f b) = decide (a = b) := by
  rw [Bool.eq_iff_iff, d.eqv, decide_eq_true_iff]
theorem DR.sh (d : DR r f n) (hn : n ≤ 64) (a : α) : SeqAt.shaped (f a) = true := by
  unfold SeqAt.shaped
  rw [d.lay a, decide_eq_true (Nat.le_trans (d.dep a) hn)]; rfl
end
/-! ### operations on data -/
def isNoneD : PyData → Bool
  | .none => true
  | _ => false
def isBoolD : PyData → Bool
  | .bool _ => true
  | _ => false
def isIntD : PyData → Bool
  | .bool _ => true
  | .int _ => true
  | _ => false
def isStrD : PyData → Bool
  | .str _ => true
  | _ => false
def isTupD : PyData → Bool
  | .tuple _ => true
  | _ => false
def isLstD : PyData → Bool
  | .list _ => true
  | _ => false
def tyName : PyData → String
  | .none => "NoneType"
  | .bool _ => "bool"
  | .int _ => "int"
  | .str _ => "str"
  | .list _ => "list"
  | .tuple _ => "tuple"
  | .dict _ => "dict"
def eqvD (a b : PyData) : Option Bool := if SeqAt.shaped a = true ∧ SeqAt.shaped b = true then some (PyData.eqv a b) else none
def lenD : PyData → Option Int
  | .list xs => some xs.length
  | .tuple xs => some xs.length
  | _ => none
def ixD : PyData → Int → Option PyData
  | .list xs, i => atI xs i
  | .tuple xs, i => atI xs i
  | _, _ => none
theorem dp_ty {K : Fg} {B H : Hp} {v : V} {d : PyData} (e : Ex B H) (h : Dp K B v d) : TyX K H v (.type (tyName d)) := by
  cases h with
  | non => exact .base .non
  | bl b => exact .base (.bl b)
  | int i => exact .base (.int i)
  | str x => exact .base (.str x)
  | lst h t =>
    rcases ex_l e h with (h | ⟨o, h⟩) | ⟨o, its, n, h, hc, _⟩
    · exact .base (.lst h)
    · exact .base (.frz h)
    · exact .kList h hc
  | tup h t =>
    rcases ex_t e h with (h | ⟨o, h⟩) | ⟨o, its, n, h, hc, _⟩
    · exact .base (.tup h)
    · exact .fTuple h
    · exact .kTuple h hc
section
variable {K : Fg} {M : Fr} {σ : St} {B : Hp} {L L1 L2 L' : List Cell} {α β γ δ : Type} {r : Rep α} {s : Rep β} {t : Rep γ} {ta tb tc te : TE} {tt tu : TT} {tA : TA} {i j k : Int} {b c : Bool} {d d' : PyData}
theorem ev_dat {f : α → PyData} {n : Nat} {a : α} (h : EV K M te σ B L r a L') (D : DR r f n) : EV K M te σ B L rDat (f a) L' := ev_as h fun _ _ h => D.dp _ _ _ _ h
theorem ev_isND (ha : EV K M ta σ B L rDat d L1) : EV K M (tIsN ta) σ B L rBool (isNoneD d) L1 := fun B1 H e w Q q =>
  ha B1 H e w _ fun x B2 H2 e2 w2 hx => q _ B2 H2 e2 w2 (by
    show V.bl _ = V.bl _
    congr 1
    have hx : Dp K B2 x d := hx
    cases hx <;> rfl)
theorem ev_isi (T : String) (g : PyData → Bool) (hg : ∀ n d, tyName d = n → kitB n T = some (g d)) (ha : EV K M ta σ B L rDat d L1) : EV K M (tCB (rIsi K) (tCons ta (tCons (tC (.ty T)) tNil))) σ B L rBool (g d) L1 := fun B1 H e w Q q =>
  ha B1 H e w _ fun x B2 H2 e2 w2 hx => ⟨x, .ty T, .type (tyName d), .type T, g d, rfl, .ty T, dp_ty w2.b hx, kit_ty (hg _ d rfl), q _ B2 H2 e2 w2 rfl⟩
def kt (T : String) (g : String → Bool) : Bool := (kitB "NoneType" T == some (g "NoneType")) && (kitB "bool" T == some (g "bool")) && (kitB "int" T == some (g "int")) && (kitB "str" T == some (g "str")) && (kitB "list" T == some (g "list")) && (kitB "tuple" T == some (g "tuple")) && (kitB "dict" T == some (g "dict"))
theorem kt_of {T : String} {g : String → Bool} (h : kt T g = true) (d : PyData) : kitB (tyName d) T = some (g (tyName d)) := by
  unfold kt at h
  simp only [Bool.and_eq_true, beq_iff_eq] at h
  cases d <;> simp only [tyName] <;> simp_all
theorem isi_bool : ∀ n d, tyName d = n → kitB n "bool" = some (isBoolD d) := fun n d e => by
  subst e
  rw [kt_of (g := fun n => n == "bool") (by decide +kernel) d]
  cases d <;> rfl
theorem isi_int : ∀ n d, tyName d = n → kitB n "int" = some (isIntD d) := fun n d e => by
  subst e
  rw [kt_of (g := fun n => n == "bool" || n == "int") (by decide +kernel) d]
  cases d <;> rfl
theorem isi_str : ∀ n d, tyName d = n → kitB n "str" = some (isStrD d) := fun n d e => by
  subst e
  rw [kt_of (g := fun n => n == "str") (by decide +kernel) d]
  cases d <;> rfl
theorem isi_tuple : ∀ n d, tyName d = n → kitB n "tuple" = some (isTupD d) := fun n d e => by
  subst e
  rw [kt_of (g := fun n => n == "tuple") (by decide +kernel) d]
  cases d <;> rfl
theorem isi_list : ∀ n d, tyName d = n → kitB n "list" = some (isLstD d) := fun n d e => by
  subst e
  rw [kt_of (g := fun n => n == "list") (by decide +kernel) d]
  cases d <;> rfl
theorem ev_eqvD (ha : EV K M ta σ B L rDat d L1) (hb : EV K M tb σ B L1 rDat d' L2) (h : eqvD d d' = some b) : EV K M (tOp (rEqD K) ta tb) σ B L rBool b L2 :=
  ev_op ha hb fun B1 H1 x y Q w hx hy q => by
    unfold eqvD at h
    split at h
    · rename_i hc
      exact ⟨d, d', dp_mono w.b hx, dp_mono w.b hy, hc.1, hc.2, q _ (by rw [Option.some.inj h]; rfl)⟩
    · cases h
/-- == of typed data -/
theorem ev_eqT {f : α → PyData} {n : Nat} {a a' : α} [DecidableEq α] (D : DR r f n) (hn : n ≤ 64) (ha : EV K M ta σ B L r a L1) (hb : EV K M tb σ B L1 r a' L2) : EV K M (tOp (rEqD K) ta tb) σ B L rBool (decide (a = a')) L2 :=
  ev_op ha hb fun B1 H1 x y Q w hx hy q => ⟨f a, f a', dp_mono w.b (D.dp _ _ _ _ hx), dp_mono w.b (D.dp _ _ _ _ hy), D.sh hn a, D.sh hn a', q _ (by rw [D.dec]; rfl)⟩
theorem ev_neT {f : α → PyData} {n : Nat} {a a' : α} [DecidableEq α] (D : DR r f n) (hn : n ≤ 64) (ha : EV K M ta σ B L r a L1) (hb : EV K M tb σ B L1 r a' L2) : EV K M (tOp (rNeD K) ta tb) σ B L rBool (!decide (a = a')) L2 :=
  ev_op ha hb fun B1 H1 x y Q w hx hy q => ⟨f a, f a', dp_mono w.b (D.dp _ _ _ _ hx), dp_mono w.b (D.dp _ _ _ _ hy), D.sh hn a, D.sh hn a', q _ (by rw [D.dec]; rfl)⟩
theorem dpAll_len {vs : List V} {ds : List PyData} (h : DpAll K B vs ds) : vs.length = ds.length := paired_len (dpAll_paired h)
theorem ev_lenD (ha : EV K M ta σ B L rDat d L1) (h : lenD d = some i) : EV K M (tCB (rLen K) (tCons ta tNil)) σ B L rInt i L1 :=
  ev_cb1 ha fun B1 H1 x Q w hx q => by
    have hx : Dp K B1 x d := hx
    cases hx with
    | lst h1 t =>
      rw [← (Option.some.inj h : _ = i)] at q
      exact ⟨_, _, rfl, .inl (ex_l w.b h1), q _ (by rw [dpAll_len t]; rfl)⟩
    | tup h1 t =>
      rw [← (Option.some.inj h : _ = i)] at q
      exact ⟨_, _, rfl, .inr (ex_t w.b h1), q _ (by rw [dpAll_len t]; rfl)⟩
    | _ => cases h
theorem ev_ixD (ha : EV K M ta σ B L rDat d L1) (hb : EV K M tb σ B L1 rInt i L2) (h : ixD d i = some d') : EV K M (tOp (rIx K) ta tb) σ B L rDat d' L2 :=
  ev_op ha hb fun B1 H1 x y Q w hx hy q => by
    have hx : Dp K B1 x d := hx
    cases hx with
    | lst h1 t =>
      obtain ⟨z, e, hz⟩ := atI_paired (dpAll_paired t) h
      exact .inl ⟨_, _, i, z, rfl, hy, ex_l w.b h1, e, q _ hz⟩
    | tup h1 t =>
      obtain ⟨z, e, hz⟩ := atI_paired (dpAll_paired t) h
      exact .inr (.inl ⟨_, _, i, z, rfl, hy, ex_t w.b h1, e, q _ hz⟩)
    | _ => cases h
end
/-- nothing is promised: at any level -/
theorem fn_none {P : Program} {w : World} {K : Fg} {mg : Str → Option Value} {base : Heap} {k : Nat} {f : Addr} {fd : FuncData} {ps : List Str} {T : List Addr} {C : List Arg → List Cell → Arg → List Cell → Prop} (h : ∀ as L r L', ¬ C as L r L') : FnOk P w K mg base CX0 k f fd ps (spV K T C) :=
  ⟨fun vs H Q E ⟨_, _, _, _, _, _, _, _, _, c, _⟩ => (h _ _ _ _ c).elim, fun A outer s H args us vs Q E _ _ _ _ ⟨_, _, _, _, _, _, _, _, _, c, _⟩ => (h _ _ _ _ c).elim⟩
end L3

namespace L3
open PySem L2

/-! ### the mirrors: they answer, and the answer is as told -/
def Yes {α : Type} (o : Option α) (P : α → Prop) : Prop := ∃ a, o = some a ∧ P a
section
variable {α β S R : Type} {o : Option α} {P Q : α → Prop} {i j : Int}
theorem Yes.mono (h : Yes o P) (f : ∀ a, P a → Q a) : Yes o Q := by obtain ⟨a, h1, h2⟩ := h; exact ⟨a, h1, f a h2⟩
theorem y_some {a : α} (h : P a) : Yes (some a) P := ⟨a, rfl, h⟩
theorem y_bind {f : α → Option β} {T : β → Prop} (h : Yes o Q) (k : ∀ a, Q a → Yes (f a) T) : Yes (Option.bind o f) T := by
  obtain ⟨a, rfl, h2⟩ := h
  exact k a h2
theorem y_eq {a : α} {f : α → Option β} {T : β → Prop} (h : o = some a) (k : Yes (f a) T) : Yes (Option.bind o f) T := by
  subst h; exact k
theorem y_if {c : Prop} [Decidable c] {p q : Option α} (h1 : c → Yes p P) (h2 : ¬ c → Yes q P) : Yes (if c then p else q) P := by
  split
  · exact h1 (by assumption)
  · exact h2 (by assumption)
theorem y_and {c : Prop} [Decidable c] {p q : Option α} (h1 : c → p = q) : (if c then p else q) = q := by
  split
  · exact h1 (by assumption)
  · rfl
theorem mulI_l (h1 : -(2 ^ 64) < i) (h2 : i < 2 ^ 64) : mulI i j = some (i * j) := if_pos (Or.inl (Or.inl ⟨h1, h2⟩))
theorem mulI_r (h1 : -(2 ^ 64) < j) (h2 : j < 2 ^ 64) : mulI i j = some (i * j) := if_pos (Or.inl (Or.inr ⟨h1, h2⟩))
theorem mulI_w {a b : Nat} (ha : i.natAbs < 2 ^ a) (hb : j.natAbs < 2 ^ b) (h0 : 0 < a) (h1 : 0 < b) (h : a + b ≤ 1000000) : mulI i j = some (i * j) := if_pos (Or.inr (wide_mul ha hb h0 h1 h))
theorem divI_s (h1 : 0 < j) (h2 : j < 2 ^ 64) : divI i j = some (i / j) := if_pos ⟨h1, by
  have : j.natAbs < 2 ^ 64 := by omega
  have := PySem.Flt.log2_lt_of (by decide) this
  omega⟩
theorem divI_w {b : Nat} (h1 : 0 < j) (hb : j.natAbs < 2 ^ b) (h0 : 0 < b) (h9 : b ≤ 9000) : divI i j = some (i / j) := if_pos (wide_div (i := i) h1 hb h0 h9)
theorem modI_s (h : 0 < j) : modI i j = some (i % j) := if_pos h
theorem room_s {n : Nat} (h : n ≤ 1000000) : room n = some () := if_pos (Nat.lt_of_le_of_lt h (by decide))
theorem small62_s (h1 : -(2 ^ 62) ≤ i) (h2 : i < 2 ^ 62) : small62 i = some () := if_pos ⟨h1, h2⟩
theorem ixL_s {xs : List α} {n : Nat} {a : α} (h : xs[n]? = some a) (hi : i = n) : ixL xs i = some a := by
  subst hi
  unfold ixL atI
  have hl := (List.getElem?_eq_some_iff.mp h).1
  simp [ixN]
  have h2 := (List.getElem?_eq_some_iff.mp h).2
  simp_all
/-- with a number of the item -/
theorem y_foldI (f : S → α → Option S) (I : Nat → S → Prop) {xs : List α} {s : S} (h0 : I 0 s) (hs : ∀ (i : Nat) x s, xs[i]? = some x → I i s → Yes (f s x) (I (i + 1))) : Yes (foldO f s xs) (I xs.length) := by
  induction xs generalizing s I with
  | nil => exact ⟨s, rfl, h0⟩
  | cons x xs ih =>
    obtain ⟨s', h1, h2⟩ := hs 0 x s rfl h0
    unfold foldO
    rw [h1]
    exact ih (fun i => I (i + 1)) h2 fun i y s hy hI => hs (i + 1) y s (by simpa using hy) hI
theorem y_fold (f : S → α → Option S) (I : S → Prop) {xs : List α} {s : S} (h0 : I s) (hs : ∀ x s, x ∈ xs → I s → Yes (f s x) I) : Yes (foldO f s xs) I :=
  y_foldI f (fun _ => I) h0 fun i x s hx hI => hs x s (List.mem_of_getElem? hx) hI
/-- a loop that may return -/
theorem y_loopI (f : S → α → Option (Stp S R)) (I : Nat → S → Prop) (E : Stp S R → Prop) {xs : List α} {s : S} (h0 : I 0 s)
    (hs : ∀ (i : Nat) x s, xs[i]? = some x → I i s → Yes (f s x) fun t => match t with | .nx s' => I (i + 1) s' | t => E t) (hE : ∀ s, I xs.length s → E (.nx s)) : Yes (loopM f s xs) E := by
  induction xs generalizing s I with
  | nil => exact ⟨.nx s, rfl, hE s h0⟩
  | cons x xs ih =>
    obtain ⟨t, h1, h2⟩ := hs 0 x s rfl h0
    unfold loopM
    rw [h1]
    match t, h2 with
    | .nx s', h2 => exact ih (fun i => I (i + 1)) h2 (fun i y s hy hI => hs (i + 1) y s (by simpa using hy) hI) hE
    | .bk s', h2 => exact ⟨_, rfl, h2⟩
    | .rt r, h2 => exact ⟨_, rfl, h2⟩
theorem rng_mem {lo hi : Int} {x : Int} (h : x ∈ rng lo hi) : lo ≤ x ∧ x < hi := by
  obtain ⟨i, hi⟩ := List.getElem?_of_mem h
  obtain ⟨h1, h2⟩ := rng_get hi
  omega
theorem rng_at {lo hi : Int} {i : Nat} {x : Int} (h : (rng lo hi)[i]? = some x) : x = lo + i ∧ lo + i < hi := by
  obtain ⟨h1, h2⟩ := rng_get h
  exact ⟨h2, by omega⟩
theorem y_loopR (f : S → α → Option (Stp S R)) (I : Nat → S → Prop) (E : S ⊕ R → Prop) {xs : List α} {s : S} (h0 : I 0 s)
    (hs : ∀ (i : Nat) x s, xs[i]? = some x → I i s → Yes (f s x) fun t => match t with | .nx s' => I (i + 1) s' | .bk s' => E (.inl s') | .rt r => E (.inr r)) (hE : ∀ s, I xs.length s → E (.inl s)) : Yes (loopR f s xs) E := by
  obtain ⟨t, h1, h2⟩ := y_loopI f I (fun t => match t with | .nx s' => E (.inl s') | .bk s' => E (.inl s') | .rt r => E (.inr r)) h0 (fun i x s hx hI => (hs i x s hx hI).mono fun t ht => by
    cases t <;> exact ht) hE
  unfold loopR
  rw [h1]
  cases t <;> exact ⟨_, rfl, h2⟩
theorem y_loopB (f : S → α → Option (Stp S Empty)) (I : Nat → S → Prop) (E : S → Prop) {xs : List α} {s : S} (h0 : I 0 s)
    (hs : ∀ (i : Nat) x s, xs[i]? = some x → I i s → Yes (f s x) fun t => match t with | .nx s' => I (i + 1) s' | .bk s' => E s' | .rt r => False) (hE : ∀ s, I xs.length s → E s) : Yes (loopB f s xs) E := by
  obtain ⟨t, h1, h2⟩ := y_loopI f I (fun t => match t with | .nx s' => E s' | .bk s' => E s' | .rt r => False) h0 (fun i x s hx hI => (hs i x s hx hI).mono fun t ht => by
    cases t <;> exact ht) hE
  unfold loopB
  rw [h1]
  cases t with
  | nx s => exact ⟨_, rfl, h2⟩
  | bk s => exact ⟨_, rfl, h2⟩
  | rt r => exact h2.elim
end
end L3
namespace L3
open PySem L2
theorem paired_ints {K : Fg} {B : Hp} : ∀ ns : List Int, Paired (rInt.is K B) (ns.map V.int) ns
  | [] => .nil
  | _ :: l => .cons rfl (paired_ints l)
end L3

/-! a generator expression in any, all, sum: what is walked and the element are any -/
namespace L3G
open PySem PySem.Spec PyProof.Rows L2 GxR

structure GSc (sc scope : Scope) : Prop where
  kind : scope.kind = .function
  co : scope.isCoroutine = false
  cell : ∀ y ∈ scope.names, y.2 ≠ .cell
  dot : scope.names.lookup (".0" : Str) = some NameKind.local
  free : ∀ y ∈ scope.names, y.2 = .free → sc.names.lookup y.1 = some .cell ∨ sc.names.lookup y.1 = some .free
def gsB (sc scope : Scope) : Bool :=
  decide (scope.kind = .function) && !scope.isCoroutine && decide (scope.names.lookup (".0" : Str) = some NameKind.local) && scope.names.all fun y => !decide (y.2 = .cell) && (!decide (y.2 = .free) || decide (sc.names.lookup y.1 = some .cell) || decide (sc.names.lookup y.1 = some .free))
theorem gs_by {sc scope : Scope} (h : gsB sc scope = true) : GSc sc scope := by
  unfold gsB at h
  simp only [Bool.and_eq_true, Bool.or_eq_true, Bool.not_eq_true', decide_eq_true_eq, decide_eq_false_iff_not, List.all_eq_true] at h
  obtain ⟨⟨⟨h1, h2⟩, h3⟩, h4⟩ := h
  refine ⟨h1, h2, fun y hy => (h4 y hy).1, h3, fun y hy e => ?_⟩
  rcases (h4 y hy).2 with (z | z) | z
  · exact absurd e z
  · exact .inl z
  · exact .inr z
/-- the slots of the generator's frame: none, or a captured slot -/
def capS (js : List (Option Nat)) (σ : L2.St) : L2.St := js.map fun
  | none => none
  | some j => (σ[j]?).getD none
def capB (N NG : List Str) (scope : Scope) (js : List (Option Nat)) : Bool :=
  decide (js.length = NG.length) && (List.range js.length).all fun i => match js[i]? with
    | some (some j) => (match NG[i]? with
      | some y => decide (N[j]? = some y) && decide (scope.names.lookup y = some .free)
      | none => false)
    | _ => true
theorem capB_at {N NG : List Str} {scope : Scope} {js : List (Option Nat)} (h : capB N NG scope js = true) {σ : L2.St} {i : Nat} {y : Str} {v : V} (hy : NG[i]? = some y) (hv : (capS js σ)[i]? = some (some v)) :
    ∃ j : Nat, N[j]? = some y ∧ σ[j]? = some (some v) ∧ scope.names.lookup y = some .free := by
  unfold capB at h
  rw [Bool.and_eq_true, List.all_eq_true] at h
  unfold capS at hv
  rw [List.getElem?_map] at hv
  cases e : js[i]? with
  | none => rw [e] at hv; cases hv
  | some o =>
    rw [e] at hv
    have hi : i < js.length := (List.getElem?_eq_some_iff.mp e).1
    have q := h.2 i (List.mem_range.mpr hi)
    rw [e, hy] at q
    cases o with
    | none => cases hv
    | some j =>
      have q : (decide (N[j]? = some y) && decide (scope.names.lookup y = some .free)) = true := q
      rw [Bool.and_eq_true, decide_eq_true_eq, decide_eq_true_eq] at q
      refine ⟨j, q.1, ?_, q.2⟩
      have hv : (σ[j]?).getD none = some v := Option.some.inj hv
      cases e2 : σ[j]? with
      | none => rw [e2] at hv; cases hv
      | some u => rw [e2] at hv; exact congrArg some hv
theorem capB_len {N NG : List Str} {scope : Scope} {js : List (Option Nat)} (h : capB N NG scope js = true) : js.length = NG.length := by
  unfold capB at h
  rw [Bool.and_eq_true] at h
  exact of_decide_eq_true h.1

abbrev gEnv (X : Cx) (scope : Scope) (C : Addr) (code : Value) : Env := genEnv scope (cloFrom X.env.cells scope.names []) C code builtinsNs X.env
abbrev gCode (X : Cx) (elt tg iter : Expr) (scope : Scope) (gpos : Pos) (it : Addr) (C : Addr) (code : Value) : Code :=
  .compLoop (.GeneratorExp elt [⟨tg, iter, [], 0⟩] scope gpos) 0 (.ref it) .none (gEnv X scope C code)
abbrev gCode0 (X : Cx) (elt tg iter : Expr) (scope : Scope) (gpos : Pos) (it : Addr) (C : Addr) (code : Value) : Code :=
  .compStart (.GeneratorExp elt [⟨tg, iter, [], 0⟩] scope gpos) 0 (.ref it) .none (gEnv X scope C code)
/-- the Around of the generator's frame -/
abbrev gA (X : Cx) (cenv : Env) : Around := ⟨X.A.handled, X.A.depth + 1, pushEnvs [cenv] X.A.frames, X.A.guards, X.A.units + 5⟩
/-- the context of the generator's frame, made at s -/
abbrev gCx (X : Cx) (s : Shared) (H : Hp) (NG : List Str) (ex : List Addr) (cenv : Env) : Cx where
  prog := X.prog
  w := X.w
  K := X.K
  mg := X.mg
  base := X.base
  A := gA X cenv
  N := NG
  s_0 := s
  H_0 := H
  env := cenv
  outer := X.stack
  stack := cenv :: X.stack
  ex := ex
  fn := fun _ => false
  calm := true
  pn := []
  xe := fun _ _ => False
section
variable {X : Cx} {pins : List (Addr × Obj)} {σ : L2.St} {H : Hp} {s : Shared}
theorem gA_eq (X : Cx) (elt tg iter : Expr) (scope : Scope) (gpos : Pos) (it C : Addr) (code : Value) : X.A.in1.in1.over (gCode X elt tg iter scope gpos it C code) [] = gA X (gEnv X scope C code) := rfl
theorem gA_eq0 (X : Cx) (elt tg iter : Expr) (scope : Scope) (gpos : Pos) (it C : Addr) (code : Value) : X.A.in1.in1.over (gCode0 X elt tg iter scope gpos it C code) [] = gA X (gEnv X scope C code) := rfl
theorem room_g {k : Nat} {cenv : Env} (r : Room (k + 1) X.A) : Room k (gA X cenv) := ⟨r.hd, by have := r.dp; show X.A.depth + 1 + 3 * k + 5 < _; omega, by have := r.un; show X.A.units + 5 + 16 * k + 200 < _; omega⟩
theorem inv_gens {g' : Array GenState} {t' : Nat} (I : Inv X pins σ H s) (hg : AllBare g') : Inv X pins σ H { s with gens := g', toks := t' } :=
  ⟨I.ok, I.os, hg, I.base, I.loc, I.cell, I.free, I.freeC, I.pin, I.hok, I.len⟩
theorem gen_start {NG : List Str} {fp : List Addr} {scope : Scope} {code : Value} {it : Addr} {js : List (Option Nat)} {h₁ : Heap} {g₁ : Array GenState} {tk : Nat} (I : Inv X pins σ H s) (G : GSc X.env.scope scope) (hf : ∀ b ∈ fp, FpOk X pins H b) (hfl : ∀ b ∈ fp, b < s.heap.objs.size) (hd : X.A.handled = none)
    (hns : h₁.Ns s.heap.objs.size fun y => if y = (".0" : Str) then some (.ref it) else none) (kp : ∀ b o, s.heap.get? b = some o → h₁.get? b = some o) (hg : AllBare g₁) (hN : capB X.N NG scope js = true) :
    Inv (gCx X s H NG fp (gEnv X scope s.heap.objs.size code)) [] (capS js σ) H { s with heap := h₁, gens := g₁, toks := tk } := by
  have hfree : ∀ y ∈ scope.names, y.2 = .free → ∃ c, X.env.cells.lookup y.1 = some c := fun y hy e => by
    rcases G.free y hy e with k | k
    · exact I.ok.has _ (.inl k)
    · exact I.ok.has _ (.inr k)
  have cm : ∀ {y c}, (cloFrom X.env.cells scope.names []).lookup y = some c → X.env.cells.lookup y = some c := fun {y c} e => by
    rcases cloFrom_mem (PySem.mem_of_lookup e) with hm | ⟨h1, h2⟩
    · cases hm
    · obtain ⟨c1, hc⟩ := hfree _ h1 rfl
      have hc : X.env.cells.lookup y = some c1 := hc
      have e2 : c = c1 := by
        rw [h2, hc] <;> rfl
      rw [e2]
      exact hc
  have look : ∀ {y}, scope.names.lookup y = some .free → ∃ c, (cloFrom X.env.cells scope.names []).lookup y = some c := fun {y} hl => by
    have hy : (y, NameKind.free) ∈ scope.names := PySem.mem_of_lookup hl
    exact mem_lookup (cloFrom_has (cells := X.env.cells) (acc := []) hy)
  have cellK : ∀ {c : Addr} {v : Option Value}, s.heap.IsCell c v → h₁.IsCell c v := fun {c v} ⟨o, ho, hd⟩ => ⟨o, kp _ _ ho, hd⟩
  refine ⟨⟨I.ok.mod, G.kind, I.ok.glob, rfl, Nat.le_refl _, fun y z c e1 e2 => I.ok.inj y z c (cm e1) (cm e2), fun y hy => ?_, fun y c z _ => ?_, fun _ => hd, ?_, .inr ⟨rfl, rfl⟩, fun b hb => ⟨Nat.ne_of_lt (hfl b hb), fun y c e => (hf b hb).2.2.2.2.1 y c (cm e)⟩, I.bs, Nat.le_trans I.ok.bsz I.sz, fun b o e hb => ?_,
      fun b hb z => ?_, I.stack, I.stkFree⟩,
    rfl, hg, Un.kept kp, ⟨_, hns, fun i y v e1 e2 e3 => ?_⟩, fun y c e => ?_, I.hok.fresh (Nat.le_refl _), fun y c e => I.freeC y c (cm e), fun q hq => absurd (show q ∈ ([] : List (Addr × Obj)) ++ [] from hq) (by simp), I.hok.kept kp, ?_⟩
  · have hy : scope.names.lookup y = some .cell ∨ scope.names.lookup y = some .free := hy
    rcases hy with hy | hy
    · exact absurd rfl (G.cell _ (PySem.mem_of_lookup hy))
    · exact look hy
  · have z : false = true := z
    cases z
  · show pushEnvs [_] X.A.frames = _
    rw [I.ok.frames]
    rfl
  · rcases (hf b hb).2.2.2.1 with z | z
    · exact I.ok.noex b o e z
    · exact absurd (Nat.lt_of_lt_of_le (Heap.lt_size (I.ok.bs b o e).1) z) (Nat.lt_irrefl _)
  · rcases List.mem_cons.mp (I.stkSub b z) with e | e
    · exact (hf b hb).2.1 e
    · exact (hf b hb).2.2.1 e
  · obtain ⟨j, h1, h2, h3⟩ := capB_at hN e1 e2
    obtain ⟨m, hn, hl⟩ := I.loc
    have hfr := G.free _ (PySem.mem_of_lookup h3) rfl
    have hvis : Vis X.env.scope y := hfr.elim (fun k => .inr (.inl k)) (fun k => .inr (.inr k))
    obtain ⟨w', r, q⟩ := hl j y v h1 h2 hvis
    obtain ⟨c2, h4⟩ := look h3
    refine ⟨w', r, .inr ⟨.inr h3, c2, h4, ?_⟩⟩
    have c1 := cm h4
    rcases q with ⟨k', _⟩ | ⟨_, c3, e', z⟩
    · have k' : X.env.scope.names.lookup y = some .local := k'
      rcases hfr with k2 | k2 <;> rw [show X.env.scope.names.lookup y = _ from k2] at k' <;> cases k'
    · rw [c1] at e'
      cases e'
      exact cellK z
  · obtain ⟨w', z⟩ := I.cell y c (cm e)
    exact ⟨w', cellK z⟩
  · show (capS js σ).length = NG.length
    unfold capS
    rw [List.length_map]
    exact capB_len hN
end
/-! ### the run -/
/-- the consumer's own objects -/
def SOk (S : List Addr) (H : Hp) (s : Shared) : Prop := ∀ b ∈ S, H b = none ∧ ∃ o, s.heap.get? b = some o ∧ ∀ v, o.data ≠ .cell v
section
variable (X : Cx) (s0 : Shared) (H0 : Hp) (NG : List Str) (fp : List Addr) (cenv : Env) (a : Addr) (ob : Obj) (S : List Addr) (tn : Nat → Heap → Prop) (N : Nat) (Z : Nat → L2.St → Hp → Prop) (P : Nat → V → L2.St → Hp → Prop) (F : Nat → L2.St → Hp → Prop)
def gR : GenEnd := fun n s₀ r s => r = .ok .next ∧ ∃ i σ H, n + i = N + 1 ∧ F i σ H ∧ Inv (gCx X s0 H0 NG fp cenv) ([(a, ob)] ++ pinsAt S s₀.heap) σ H s
def gY : Protocol := fun n s₀ v s kap => ∃ i y σ H, n + i = N ∧ i < N ∧ RelV y v ∧ P i y σ H ∧ Inv (gCx X s0 H0 NG fp cenv) ([(a, ob)] ++ pinsAt S s₀.heap) σ H s ∧ tn (i + 1) s.heap ∧ (∀ b ∈ fp, H b = none) ∧ (∀ b ∈ S, H b = none) ∧
  ∀ s'' : Shared, Z (i + 1) σ H → Inv (gCx X s0 H0 NG fp cenv) [(a, ob)] σ H s'' → tn (i + 1) s''.heap → SOk S H s'' → kap (.send .none) s''
end
structure GFix (X : Cx) (s0 : Shared) (fp : List Addr) (cenv : Env) (a : Addr) (S : List Addr) : Prop where
  f : ∀ b ∈ fp, b ≠ cenv.locals ∧ b ∉ frs X.stack ∧ (∀ x c, cenv.cells.lookup x = some c → c ≠ b) ∧ b ≠ a ∧ b ∉ S
  s : ∀ b ∈ S, s0.heap.objs.size ≤ b ∧ b ≠ cenv.locals ∧ b ∉ frs X.stack ∧ (∀ x c, cenv.cells.lookup x = some c → c ≠ b) ∧ b ≠ a
section
variable {X : Cx} {s0 : Shared} {H0 : Hp} {NG : List Str} {fp : List Addr} {cenv : Env} {a : Addr} {ob : Obj} {S : List Addr} {tn : Nat → Heap → Prop} {N : Nat} {Z : Nat → L2.St → Hp → Prop} {P : Nat → V → L2.St → Hp → Prop} {F : Nat → L2.St → Hp → Prop}
theorem seg_loop {elt tg iter : Expr} {scope : Scope} {gpos : Pos} {it C : Addr} {code : Value} {J : It} {g : TG} {te : TE} (hce : cenv = gEnv X scope C code) (hco : scope.isCoroutine = false) (fx : GFix X s0 fp cenv a S)
    (T : Turn X.prog X.w X.K tg J fp it tn) (hg : PG (gCx X s0 H0 NG fp cenv) tg g) (he : PE (gCx X s0 H0 NG fp cenv) elt te)
    (turn : ∀ i σ H, Z i σ H → (J.stop i H ∧ F i σ H) ∨ (J.go i H ∧ i < N ∧ ∀ x H2, J.yld i H x H2 → g x σ H2 fun σ2 H3 => te σ2 H3 fun y H4 => P i y σ2 H4)) :
    ∀ (k i : Nat) (s : Shared) (σ : L2.St) (H : Hp), N - i = k → i ≤ N → Z i σ H → Inv (gCx X s0 H0 NG fp cenv) [(a, ob)] σ H s → tn i s.heap → (∀ b ∈ fp, H b = none) → SOk S H s →
      Seg (model X.prog X.w) X.A.in1.in1 (gR X s0 H0 NG fp cenv a ob S N F) (gY X s0 H0 NG fp cenv a ob S tn N Z P) (N + 1 - i) s (gCode X elt tg iter scope gpos it C code) ((model X.prog X.w).den (gCode X elt tg iter scope gpos it C code)) [] s := by
  subst hce
  intro k
  induction k with
  | zero =>
    intro i s σ H hk hi hZ I st fr so
    have fS : ∀ b ∈ S, FpOk (gCx X s0 H0 NG fp (gEnv X scope C code)) [(a, ob)] H b := fun b hb => ⟨(so b hb).1, (fx.s b hb).2.1, (fx.s b hb).2.2.1, .inr (fx.s b hb).1, (fx.s b hb).2.2.2.1, fun p hp => by
      have hp : p ∈ [(a, ob)] := hp
      rw [List.mem_singleton.mp hp]; exact Ne.symm (fx.s b hb).2.2.2.2⟩
    have I1 := I.pinned fS fun b hb => (so b hb).2
    have fF : ∀ {H' : Hp}, (∀ b ∈ fp, H' b = none) → ∀ b ∈ fp, FpOk (gCx X s0 H0 NG fp (gEnv X scope C code)) ([(a, ob)] ++ pinsAt S s.heap) H' b := fun hn b hb => ⟨hn b hb, (fx.f b hb).1, (fx.f b hb).2.1, .inl hb, (fx.f b hb).2.2.1, fun p hp => by
      have hp : p ∈ [(a, ob)] ++ pinsAt S s.heap := hp
      rcases List.mem_append.mp hp with hp | hp
      · rw [List.mem_singleton.mp hp]; exact Ne.symm (fx.f b hb).2.2.2.1
      · exact fun z => (fx.f b hb).2.2.2.2 (by rw [← z]; exact (of_pinsAt hp).1)⟩
    show Seg _ X.A.in1.in1 _ _ _ s _ ((compTurn (.GeneratorExp elt [⟨tg, iter, [], 0⟩] scope gpos) 0 (.ref it) .none (gEnv X scope C code)).onRaise (leaving (gEnv X scope C code))) [] s
    rw [compTurn_gen, Sem.onRaise_eq_wrap]
    refine seg_bind_wrap (wpAny_standAt ?_)
    rcases turn i σ H hZ with ⟨stop, hF⟩ | ⟨_, hlt, _⟩
    · refine seg_bind_wrap (thn (T.done (gCx X s0 H0 NG fp (gEnv X scope C code)) rfl rfl rfl rfl i _ s σ H _ I1 (fF fr) st stop) fun r s1 ⟨hr, J1⟩ => ?_)
      subst hr
      exact seg_end (.ok .next) ⟨rfl, i, σ, H, by omega, hF, J1⟩
    · omega
  | succ k ih =>
    intro i s σ H hk hi hZ I st fr so
    have fS : ∀ b ∈ S, FpOk (gCx X s0 H0 NG fp (gEnv X scope C code)) [(a, ob)] H b := fun b hb => ⟨(so b hb).1, (fx.s b hb).2.1, (fx.s b hb).2.2.1, .inr (fx.s b hb).1, (fx.s b hb).2.2.2.1, fun p hp => by
      have hp : p ∈ [(a, ob)] := hp
      rw [List.mem_singleton.mp hp]; exact Ne.symm (fx.s b hb).2.2.2.2⟩
    have I1 := I.pinned fS fun b hb => (so b hb).2
    have fF : ∀ {H' : Hp}, (∀ b ∈ fp, H' b = none) → ∀ b ∈ fp, FpOk (gCx X s0 H0 NG fp (gEnv X scope C code)) ([(a, ob)] ++ pinsAt S s.heap) H' b := fun hn b hb => ⟨hn b hb, (fx.f b hb).1, (fx.f b hb).2.1, .inl hb, (fx.f b hb).2.2.1, fun p hp => by
      have hp : p ∈ [(a, ob)] ++ pinsAt S s.heap := hp
      rcases List.mem_append.mp hp with hp | hp
      · rw [List.mem_singleton.mp hp]; exact Ne.symm (fx.f b hb).2.2.2.1
      · exact fun z => (fx.f b hb).2.2.2.2 (by rw [← z]; exact (of_pinsAt hp).1)⟩
    show Seg _ X.A.in1.in1 _ _ _ s _ ((compTurn (.GeneratorExp elt [⟨tg, iter, [], 0⟩] scope gpos) 0 (.ref it) .none (gEnv X scope C code)).onRaise (leaving (gEnv X scope C code))) [] s
    rw [compTurn_gen, Sem.onRaise_eq_wrap]
    refine seg_bind_wrap (wpAny_standAt ?_)
    rcases turn i σ H hZ with ⟨stop, hF⟩ | ⟨go, hlt, step⟩
    · refine seg_bind_wrap (thn (T.done (gCx X s0 H0 NG fp (gEnv X scope C code)) rfl rfl rfl rfl i _ s σ H _ I1 (fF fr) st stop) fun r s1 ⟨hr, J1⟩ => ?_)
      subst hr
      exact seg_end (.ok .next) ⟨rfl, i, σ, H, by omega, hF, J1⟩
    · refine seg_bind_wrap (thn (T.item (gCx X s0 H0 NG fp (gEnv X scope C code)) rfl rfl rfl rfl i _ s σ H _ I1 (fF fr) st go) fun r s1 ⟨u, hr, h1⟩ => ?_)
      subst hr
      refine seg_bind_wrap (thn h1 fun _ s2 ⟨x, H2, I2, r2, y2, st2, fr2⟩ => ?_)
      have I2' := I2.pinned (fF fr2) (T.obj _ _ st2)
      refine seg_bind_wrap (wpAny_mono (hg.run _ s2 σ H2 x u _ I2' r2 (step x H2 y2)) (fun _ s3 ⟨σ3, H3, I3, q3⟩ => ?_) fun _ _ z => z.elim)
      simp only [List.forIn_nil]
      refine seg_bind_wrap (wpAny_pure ?_)
      simp only [if_true]
      have hy : ∀ v, yieldOut (gEnv X scope C code) v = yieldValue v := fun v => by
        show (if scope.isCoroutine = true then _ else _) = _
        simp only [hco, Bool.false_eq_true, if_false]
      simp only [hy]
      rw [Sem.bind_eq_wrap', Sem.bind_eq_wrap', Sem.wrap_wrap, Sem.wrap_wrap]
      refine seg_wrap (wpAny_mono (he.run _ s3 σ3 H3 _ I3 q3) (fun v s4 ⟨y, H4, I4, r4, q4⟩ => ?_) fun _ _ z => z.elim)
      have en : N + 1 - i = (N + 1 - (i + 1)) + 1 := by omega
      rw [en]
      have pinF : ∀ b ∈ fp, ∃ o, s2.heap.get? b = some o ∧ s4.heap.get? b = some o ∧ H4 b = none := fun b hb => by
        obtain ⟨o, e, d⟩ := T.obj _ _ st2 b hb
        have := I4.pin (b, o) (List.mem_append_right _ (List.mem_append_right _ (mem_pinsAt hb e)))
        exact ⟨o, e, this.1, this.2.1⟩
      have st4 : tn (i + 1) s4.heap := T.keep _ _ _ st2 fun b hb o e => by
        obtain ⟨o', e1, e2, _⟩ := pinF b hb
        rw [e] at e1; cases e1
        exact e2
      have fr4 : ∀ b ∈ fp, H4 b = none := fun b hb => (pinF b hb).elim fun _ h => h.2.2
      have fS4 : ∀ b ∈ S, H4 b = none := fun b hb => by
        obtain ⟨_, o, e, _⟩ := so b hb
        exact (I4.pin (b, o) (List.mem_append_right _ (List.mem_append_left _ (List.mem_append_right _ (mem_pinsAt hb e))))).2.1
      refine seg_at (seg_yield rfl rfl rfl ⟨i, y, σ3, H4, by omega, hlt, r4, q4, I4.unpinned, st4, fr4, fS4, fun s'' z1 z2 z3 z4 => ?_⟩)
      exact seg_again rfl (ih (i + 1) s'' σ3 H4 (by omega) hlt z1 z2 z3 fr4 z4)
theorem seg_start {elt tg iter : Expr} {scope : Scope} {gpos : Pos} {it C : Addr} {code : Value} {J : It} {g : TG} {te : TE} (hce : cenv = gEnv X scope C code) (hco : scope.isCoroutine = false) (fx : GFix X s0 fp cenv a S)
    (T : Turn X.prog X.w X.K tg J fp it tn) (hg : PG (gCx X s0 H0 NG fp cenv) tg g) (he : PE (gCx X s0 H0 NG fp cenv) elt te)
    (turn : ∀ i σ H, Z i σ H → (J.stop i H ∧ F i σ H) ∨ (J.go i H ∧ i < N ∧ ∀ x H2, J.yld i H x H2 → g x σ H2 fun σ2 H3 => te σ2 H3 fun y H4 => P i y σ2 H4))
    (s : Shared) (σ : L2.St) (H : Hp) (hZ : Z 0 σ H) (I : Inv (gCx X s0 H0 NG fp cenv) [(a, ob)] σ H s) (st : tn 0 s.heap) (fr : ∀ b ∈ fp, H b = none) (so : SOk S H s) :
      Seg (model X.prog X.w) X.A.in1.in1 (gR X s0 H0 NG fp cenv a ob S N F) (gY X s0 H0 NG fp cenv a ob S tn N Z P) (N + 1) s (gCode0 X elt tg iter scope gpos it C code) ((model X.prog X.w).den (gCode0 X elt tg iter scope gpos it C code)) [] s := by
  have loop := seg_loop (elt := elt) (tg := tg) (iter := iter) (gpos := gpos) (it := it) hce hco fx T hg he turn N 0 s σ H rfl (Nat.zero_le _) hZ I st fr so
  show Seg _ X.A.in1.in1 _ _ _ s _ ((compStart (.GeneratorExp elt [⟨tg, iter, [], 0⟩] scope gpos) 0 (.ref it) .none (gEnv X scope C code)).onRaise (leaving (gEnv X scope C code))) [] s
  unfold compStart
  rw [Sem.onRaise_eq_wrap]
  show Seg _ X.A.in1.in1 _ _ _ s _ ((ask >>= _).wrap _ _ _ _) [] s
  refine seg_bind_wrap (wpAny_askSetting ?_)
  split
  · exact seg_again rfl loop
  · first
      | exact seg_bind_wrap (wpAny_rule (seg_bind_wrap (wpAny_standAt (seg_bind_wrap (T.self _ 0 s _ _ st (seg_again rfl loop))))))
      | (refine seg_bind_wrap (wpAny_rule ?_); show Seg _ X.A.in1.in1 _ _ _ s _ ((standAt iter.pos >>= _).wrap _ _ _ _) [] s; exact seg_bind_wrap (wpAny_standAt (seg_bind_wrap (T.self _ 0 s _ _ st (seg_again rfl loop)))))
end
theorem bare_set {gens : Array GenState} {g : Nat} {x : GenState} (h : AllBare gens) (hx : x.bare = true) : AllBare (gens.setIfInBounds g x) := fun y hy => by
  rcases Array.mem_or_eq_of_mem_setIfInBounds hy with h1 | h1
  · exact h y h1
  · rw [h1]; exact hx
section
variable (X : Cx) (s0 : Shared) (H0 : Hp) (NG : List Str) (fp : List Addr) (cenv : Env) (a : Addr) (ob : Obj) (g : Nat) (S : List Addr) (tn : Nat → Heap → Prop) (N : Nat) (Z : Nat → L2.St → Hp → Prop) (P : Nat → V → L2.St → Hp → Prop) (F : Nat → L2.St → Hp → Prop)
/-- the generator sleeps at turn i -/
def GenSt (i : Nat) (s : Shared) : Prop := ∃ σ H, i ≤ N ∧ Z i σ H ∧ Inv (gCx X s0 H0 NG fp cenv) [(a, ob)] σ H s ∧ tn i s.heap ∧ (∀ b ∈ fp, H b = none) ∧ SOk S H s ∧ ∃ gs, s.gens[g]? = some gs ∧
  ∀ s'' : Shared, Inv (gCx X s0 H0 NG fp cenv) [(a, ob)] σ H s'' → tn i s''.heap → SOk S H s'' → gs.Goes (model X.prog X.w) X.A.in1.in1 (gR X s0 H0 NG fp cenv a ob S N F) (gY X s0 H0 NG fp cenv a ob S tn N Z P) (N + 1 - i) (.send .none) s''
def GenNext (i : Nat) (s : Shared) (r : Option Value) (s' : Shared) : Prop :=
  (r = none ∧ ∃ σ H, F i σ H ∧ Inv (gCx X s0 H0 NG fp cenv) [(a, ob)] σ H s' ∧ SOk S H s' ∧ ∀ b ∈ S, s'.heap.get? b = s.heap.get? b) ∨
  ∃ v y σ H, r = some v ∧ i < N ∧ RelV y v ∧ P i y σ H ∧ Inv (gCx X s0 H0 NG fp cenv) [(a, ob)] σ H s' ∧ SOk S H s' ∧ (∀ b ∈ S, s'.heap.get? b = s.heap.get? b) ∧
    (Z (i + 1) σ H → ∀ s'' : Shared, Inv (gCx X s0 H0 NG fp cenv) [(a, ob)] σ H s'' → (∀ b ∈ fp, s''.heap.get? b = s'.heap.get? b) → SOk S H s'' → s''.gens = s'.gens → GenSt X s0 H0 NG fp cenv a ob g S tn N Z P F (i + 1) s'')
end
section
variable {X : Cx} {s0 : Shared} {H0 : Hp} {NG : List Str} {fp : List Addr} {cenv : Env} {a : Addr} {ob : Obj} {g : Nat} {S : List Addr} {tn : Nat → Heap → Prop} {N : Nat} {Z : Nat → L2.St → Hp → Prop} {P : Nat → V → L2.St → Hp → Prop} {F : Nat → L2.St → Hp → Prop}
theorem gen_next {tg : Expr} {J : It} {it : Addr} (T : Turn X.prog X.w X.K tg J fp it tn) (hob : ∀ h : Heap, h.get? a = some ob → h.IsGen a g) (hd : X.A.handled = none) (hroom : X.A.depth < recursionLimit) {i : Nat} {s : Shared} {E : Value → Shared → Prop}
    (h : GenSt X s0 H0 NG fp cenv a ob g S tn N Z P F i s) : wpAny (model X.prog X.w) X.A.in1 (pyNext (.ref a)) (GenNext X s0 H0 NG fp cenv a ob g S tn N Z P F i s) E s := by
  obtain ⟨σ, H, hi, hZ, I, st, fr, so, gs, hgs, hgo⟩ := h
  have pa := I.pin (a, ob) (List.mem_append_right _ (List.mem_singleton.mpr rfl))
  have hbs : AllBare (s.setGen g .running).gens := bare_set I.bare rfl
  have hgl : g < s.gens.size := (Array.getElem?_eq_some_iff.mp hgs).1
  refine GenW.wpAny_gsz (n := g + 1) hgl ?_
  refine wpAny_pyNext_genexpQ (P := fun n s₀ s => ∃ i σ H, n + i = N + 1 ∧ F i σ H ∧ Inv (gCx X s0 H0 NG fp cenv) ([(a, ob)] ++ pinsAt S s₀.heap) σ H s) hd I.nolimit hroom (hob _ pa.1) hgs (hgo _ (inv_gens (t' := s.toks) I hbs) st so) (fun v s₁ gs' hb hv => ?_) (fun s₁ hp h' hk => ?_)
  · intro hsz
    obtain ⟨i', y, σ2, H2, e1, hlt, rv, hP, I2, st2, fr2, fS2, kap⟩ := hv
    have ei : i' = i := by omega
    subst ei
    have pS : ∀ b ∈ S, ∃ o, s.heap.get? b = some o ∧ s₁.heap.get? b = some o ∧ ∀ v, o.data ≠ .cell v := fun b hb => by
      obtain ⟨_, o, e, d⟩ := so b hb
      exact ⟨o, e, (I2.pin (b, o) (List.mem_append_right _ (List.mem_append_right _ (mem_pinsAt hb e)))).1, d⟩
    have hb2 : AllBare (s₁.setGen g gs').gens := bare_set I2.bare hb
    refine .inr ⟨v, y, σ2, H2, rfl, hlt, rv, hP, inv_gens (t' := s₁.toks) I2.unpinned hb2, fun b hb => ⟨fS2 b hb, (pS b hb).elim fun o h => ⟨o, h.2.1, h.2.2⟩⟩, fun b hb => ?_, fun hZ2 s'' J1 kf so2 eg => ?_⟩
    · obtain ⟨o, e, e2, _⟩ := pS b hb
      exact e2.trans e.symm
    · have stn : tn (i' + 1) s''.heap := T.keep _ _ _ st2 fun b hb o e => (kf b hb).trans e
      refine ⟨σ2, H2, hlt, hZ2, J1, stn, fr2, so2, gs', ?_, fun s3 J3 st3 so3 => ?_⟩
      · rw [eg]
        exact L2.setGen_at (by
          have q : (s₁.setGen g gs').gens.size = s₁.gens.size := GenW.setGen_size _ _ _
          have hsz' : g + 1 ≤ (s₁.setGen g gs').gens.size := hsz
          omega)
      · have e3 : N + 1 - i' = (N + 1 - (i' + 1)) + 1 := by omega
        have := kap s3 hZ2 J3 st3 so3
        rw [e3] at this
        exact this
  · intro _
    obtain ⟨i', σ2, H2, e1, hF, I2⟩ := hp
    have ei : i' = i := by omega
    subst ei
    have pS : ∀ b ∈ S, ∃ o, s.heap.get? b = some o ∧ s₁.heap.get? b = some o ∧ (∀ v, o.data ≠ .cell v) ∧ H2 b = none := fun b hb => by
      obtain ⟨_, o, e, d⟩ := so b hb
      have p := I2.pin (b, o) (List.mem_append_right _ (List.mem_append_right _ (mem_pinsAt hb e)))
      exact ⟨o, e, p.1, d, p.2.1⟩
    have hb2 : AllBare (s₁.setGen g .finished).gens := bare_set I2.bare rfl
    have J1 := (inv_gens (t' := s₁.toks) I2.unpinned hb2).kept (t' := s₁.toks) hk
    refine .inl ⟨rfl, σ2, H2, hF, J1, fun b hb => ⟨(pS b hb).elim fun _ h => h.2.2.2, (pS b hb).elim fun o h => ⟨o, hk _ _ h.2.1, h.2.2.1⟩⟩, fun b hb => ?_⟩
    obtain ⟨o, e, e2, _⟩ := pS b hb
    exact (hk _ _ e2).trans e.symm
theorem all_loop {tg : Expr} {J : It} {it : Addr} {Q : VK} (T : Turn X.prog X.w X.K tg J fp it tn) (hob : ∀ h : Heap, h.get? a = some ob → h.IsGen a g) (hd : X.A.handled = none) (hroom : X.A.depth < recursionLimit) : ∀ (k i : Nat) (s : Shared), N - i = k →
    GenSt X s0 H0 NG fp cenv a ob g [] tn N Z (fun i y σ H => (y = .bl true ∧ Z (i + 1) σ H) ∨ (y = .bl false ∧ Q (.bl false) H)) (fun _ _ H => Q (.bl true) H) i s →
    codeAny (model X.prog X.w) X.A (.builtin "all.loop" ⟨[.ref a], []⟩) (fun r s' => ∃ b σ H, r = .ok (.ret (.bool b)) ∧ Inv (gCx X s0 H0 NG fp cenv) [(a, ob)] σ H s' ∧ Q (.bl b) H) s := by
  intro k
  induction k with
  | zero =>
    intro i s hk h
    refine codeAny_builtin F.entry_all_loop ?_
    rw [Around.under_plainId F.plain_all_loop _]
    show wpAny _ X.A.in1 (pyNext (.ref a) >>= _) _ _ s
    refine wpAny_bind (thn (gen_next T hob hd hroom h) fun r s' hn => ?_)
    rcases hn with ⟨rfl, σ, H, hF, I, _⟩ | ⟨v, y, σ, H, rfl, hlt, _⟩
    · exact wpAny_bind (wpAny_rule (wpAny_pure ⟨true, σ, H, rfl, I, hF⟩))
    · omega
  | succ k ih =>
    intro i s hk h
    refine codeAny_builtin F.entry_all_loop ?_
    rw [Around.under_plainId F.plain_all_loop _]
    show wpAny _ X.A.in1 (pyNext (.ref a) >>= _) _ _ s
    refine wpAny_bind (thn (gen_next T hob hd hroom h) fun r s' hn => ?_)
    rcases hn with ⟨rfl, σ, H, hF, I, _⟩ | ⟨v, y, σ, H, rfl, hlt, rv, hP, I, so, _, next⟩
    · exact wpAny_bind (wpAny_rule (wpAny_pure ⟨true, σ, H, rfl, I, hF⟩))
    · rcases hP with ⟨rfl, hZ⟩ | ⟨rfl, hQ⟩
      · obtain rfl : v = .bool true := rv
        refine wpAny_bind (wpAny_holding (wpAny_truthy_bool ?_))
        refine wpAny_bind (wpAny_letGo ?_)
        simp only [if_true]
        exact wpAny_pure ⟨plainId_quiet F.plain_all_loop _, ih (i + 1) _ (by omega) (next hZ s' I (fun _ _ => rfl) so rfl)⟩
      · obtain rfl : v = .bool false := rv
        refine wpAny_bind (wpAny_holding (wpAny_truthy_bool ?_))
        refine wpAny_bind (wpAny_letGo ?_)
        simp only [Bool.false_eq_true, if_false]
        exact wpAny_bind (wpAny_rule (wpAny_pure ⟨false, σ, H, rfl, I, hQ⟩))
theorem any_loop {tg : Expr} {J : It} {it : Addr} {Q : VK} (T : Turn X.prog X.w X.K tg J fp it tn) (hob : ∀ h : Heap, h.get? a = some ob → h.IsGen a g) (hd : X.A.handled = none) (hroom : X.A.depth < recursionLimit) : ∀ (k i : Nat) (s : Shared), N - i = k →
    GenSt X s0 H0 NG fp cenv a ob g [] tn N Z (fun i y σ H => (y = .bl false ∧ Z (i + 1) σ H) ∨ (y = .bl true ∧ Q (.bl true) H)) (fun _ _ H => Q (.bl false) H) i s →
    codeAny (model X.prog X.w) X.A (.builtin "any.loop" ⟨[.ref a], []⟩) (fun r s' => ∃ b σ H, r = .ok (.ret (.bool b)) ∧ Inv (gCx X s0 H0 NG fp cenv) [(a, ob)] σ H s' ∧ Q (.bl b) H) s := by
  intro k
  induction k with
  | zero =>
    intro i s hk h
    refine codeAny_builtin F.entry_any_loop ?_
    rw [Around.under_plainId F.plain_any_loop _]
    show wpAny _ X.A.in1 (pyNext (.ref a) >>= _) _ _ s
    refine wpAny_bind (thn (gen_next T hob hd hroom h) fun r s' hn => ?_)
    rcases hn with ⟨rfl, σ, H, hF, I, _⟩ | ⟨v, y, σ, H, rfl, hlt, _⟩
    · exact wpAny_bind (wpAny_rule (wpAny_pure ⟨false, σ, H, rfl, I, hF⟩))
    · omega
  | succ k ih =>
    intro i s hk h
    refine codeAny_builtin F.entry_any_loop ?_
    rw [Around.under_plainId F.plain_any_loop _]
    show wpAny _ X.A.in1 (pyNext (.ref a) >>= _) _ _ s
    refine wpAny_bind (thn (gen_next T hob hd hroom h) fun r s' hn => ?_)
    rcases hn with ⟨rfl, σ, H, hF, I, _⟩ | ⟨v, y, σ, H, rfl, hlt, rv, hP, I, so, _, next⟩
    · exact wpAny_bind (wpAny_rule (wpAny_pure ⟨false, σ, H, rfl, I, hF⟩))
    · rcases hP with ⟨rfl, hZ⟩ | ⟨rfl, hQ⟩
      · obtain rfl : v = .bool false := rv
        refine wpAny_bind (wpAny_holding (wpAny_truthy_bool ?_))
        refine wpAny_bind (wpAny_letGo ?_)
        simp only [Bool.false_eq_true, if_false]
        exact wpAny_pure ⟨plainId_quiet F.plain_any_loop _, ih (i + 1) _ (by omega) (next hZ s' I (fun _ _ => rfl) so rfl)⟩
      · obtain rfl : v = .bool true := rv
        refine wpAny_bind (wpAny_holding (wpAny_truthy_bool ?_))
        refine wpAny_bind (wpAny_letGo ?_)
        simp only [if_true]
        exact wpAny_bind (wpAny_rule (wpAny_pure ⟨true, σ, H, rfl, I, hQ⟩))
/-- the sum so far stands in the list at S -/
theorem sum_loop {tg : Expr} {J : It} {it : Addr} {Q : VK} {S : Addr} {vals : List Int} (hfp : ∀ b ∈ fp, b ≠ S) (hSa : S ≠ a) (T : Turn X.prog X.w X.K tg J fp it tn) (hob : ∀ h : Heap, h.get? a = some ob → h.IsGen a g) (hd : X.A.handled = none) (hroom : X.A.depth < recursionLimit)
    (hS : s0.heap.objs.size ≤ S ∧ S ≠ cenv.locals ∧ S ∉ frs X.stack ∧ (∀ x c, cenv.cells.lookup x = some c → c ≠ S))
    (hfit : ∀ j v, vals[j]? = some v → InLong v ∧ InLong ((vals.take j).sum + v)) : ∀ (k i : Nat) (s : Shared) (tA : Tok) (c : Nat), N - i = k →
    GenSt X s0 H0 NG fp cenv a ob g [S] tn N Z (fun i y σ H => ∃ v, vals[i]? = some v ∧ y = .int v ∧ Z (i + 1) σ H) (fun i _ H => i = vals.length ∧ Q (.int vals.sum) H) i s → s.heap.get? S = some { cls := .type "list", dict := none, data := .seq #[.int (vals.take i).sum tA] c, slots := #[] } →
    codeAny (model X.prog X.w) X.A (.builtin "sum.loop" ⟨[.ref a, .ref S, rawInt 0, rawInt 0], []⟩) (fun r s' => ∃ t σ H, r = .ok (.ret (.int vals.sum t)) ∧ Inv (gCx X s0 H0 NG fp cenv) [(a, ob)] σ H s' ∧ Q (.int vals.sum) H) s := by
  intro k
  have fin : ∀ (i : Nat) (tA : Tok), i = vals.length → (vals.take i).sum = vals.sum := fun i _ e => by rw [e, List.take_length]
  induction k with
  | zero =>
    intro i s tA c hk h hs
    refine codeAny_builtin F.entry_sum_loop ?_
    rw [Around.under_plainId F.plain_sum_loop _]
    show wpAny _ X.A.in1 (seqItems? (.ref S) >>= _) _ _ s
    refine wpAny_bind (wpAny_seqItems hs rfl ?_)
    show wpAny _ X.A.in1 (tryCatch (pyNext (.ref a)) _ >>= _) _ _ s
    refine wpAny_bind (wpAny_tryCatch (thn (gen_next T hob hd hroom h) fun r s' hn => ?_))
    rcases hn with ⟨rfl, σ, H, ⟨e, hF⟩, I, _⟩ | ⟨v, y, σ, H, rfl, hlt, _⟩
    · exact wpAny_pure ⟨tA, σ, H, by rw [← fin i tA e]; rfl, I, hF⟩
    · omega
  | succ k ih =>
    intro i s tA c hk h hs
    refine codeAny_builtin F.entry_sum_loop ?_
    rw [Around.under_plainId F.plain_sum_loop _]
    show wpAny _ X.A.in1 (seqItems? (.ref S) >>= _) _ _ s
    refine wpAny_bind (wpAny_seqItems hs rfl ?_)
    show wpAny _ X.A.in1 (tryCatch (pyNext (.ref a)) _ >>= _) _ _ s
    refine wpAny_bind (wpAny_tryCatch (thn (gen_next T hob hd hroom h) fun r s' hn => ?_))
    rcases hn with ⟨rfl, σ, H, ⟨e, hF⟩, I, _⟩ | ⟨v, y, σ, H, rfl, hlt, rv, ⟨z, hz, rfl, hZ⟩, I, so, same, next⟩
    · exact wpAny_pure ⟨tA, σ, H, by rw [← fin i tA e]; rfl, I, hF⟩
    · obtain ⟨t, rfl⟩ := _root_.id rv
      have hS' : s'.heap.get? S = some { cls := .type "list", dict := none, data := .seq #[.int (vals.take i).sum tA] c, slots := #[] } := (same S (List.mem_singleton.mpr rfl)).trans hs
      obtain ⟨⟨f1, f2⟩, f3, f4⟩ := hfit i z hz
      have hc : ((decide (-(2 ^ 63) ≤ z) && decide (z < 2 ^ 63)) && (decide (-(2 ^ 63) ≤ (vals.take i).sum + z) && decide ((vals.take i).sum + z < 2 ^ 63))) = true := by
        simp only [Bool.and_eq_true, decide_eq_true_eq]
        exact ⟨⟨f1, f2⟩, f3, f4⟩
      have es : (vals.take (i + 1)).sum = (vals.take i).sum + z := by
        rw [List.take_succ, hz]; simp
      show wpAny _ X.A.in1 (if (_ : Bool) = true then (mkInt ((vals.take i).sum + z) >>= _) else _) _ _ _
      split
      · refine wpAny_bind (wpAny_mkInt ?_)
        show wpAny _ X.A.in1 (updateSeq S (fun _ => #[.int ((vals.take i).sum + z) s'.toks]) >>= _) _ _ _
        refine wpAny_bind ?_
        refine wpAny_updateSeq hS' rfl (wpAny_pure ⟨plainId_quiet F.plain_sum_loop _, ih (i + 1) _ s'.toks _ (by omega) (next hZ _ ?_ (fun b hb => ?_) ?_ rfl) (by rw [es]; exact Heap.get?_update_self _ hS' rfl)⟩)
        · refine (inv_gens (t' := s'.toks + 1) I I.bare).turned (it := S) (fun b o hb e => (Heap.get?_update_other _ _ (Ne.symm hb)).trans e) (so S (List.mem_singleton.mpr rfl)).1 hS.2.1 (.inr hS.1) hS.2.2.2 fun p hp => ?_
          have hp : p ∈ [(a, ob)] := hp
          rw [List.mem_singleton.mp hp]
          exact Ne.symm hSa
        · exact Heap.get?_update_other _ _ (Ne.symm (hfp b hb))
        · intro b hb
          rw [List.mem_singleton.mp hb]
          exact ⟨(so S (List.mem_singleton.mpr rfl)).1, _, Heap.get?_update_self _ hS' rfl, fun v e => by cases e⟩
      · rename_i hn
        exact absurd hc hn
end
/-! ### the making -/
/-- a generator has been made: a, at s5; H3 is what is held from then on -/
def Made (X : Cx) (pins : List (Addr × Obj)) (σ : L2.St) (NG : List Str) (js : List (Option Nat)) (elt tg iter : Expr) (scope : Scope) (gpos : Pos) (J : It) (H3 : Hp) (a : Addr) (s5 : Shared) : Prop :=
  ∃ (s3 : Shared) (it : Addr) (fp : List Addr) (tn : Nat → Heap → Prop) (C : Addr) (code : Value) (ob : Obj) (g : Nat), Inv X pins σ H3 s3 ∧ Turn X.prog X.w X.K tg J fp it tn ∧ tn 0 s5.heap ∧ (∀ b ∈ fp, FpOk X pins H3 b) ∧ (∀ b ∈ fp, b < s3.heap.objs.size) ∧ C = s3.heap.objs.size ∧ C < a ∧
    Inv (gCx X s3 H3 NG fp (gEnv X scope C code)) [(a, ob)] (capS js σ) H3 s5 ∧ s5.gens[g]? = some (.fresh (gCode0 X elt tg iter scope gpos it C code)) ∧ (∀ h : Heap, h.get? a = some ob → h.IsGen a g)
section
variable {X : Cx} {pins : List (Addr × Obj)} {σ : L2.St} {H : Hp} {s : Shared}
theorem gen_make {c P : Addr} {elt tg iter : Expr} {gpos : Pos} {scope : Scope} {NG : List Str} {js : List (Option Nat)} {wi : TI} {k : Nat} {Q' : Value → Shared → Prop} {R : It → Hp → Prop}
    (hr : Room k X.A) (TB : TabB X.base X.mg c P) (hcode : X.env.code = .ref c) (G : GSc X.env.scope scope) (hi : PI X tg iter wi) (hN : capB X.N NG scope js = true)
    (hs : ∀ v, genFold iter X.env v = pure v) (I : Inv X pins σ H s) (h : wi σ H fun J H1 => TabG H1 P ∧ R J H1)
    (hQ : ∀ J H1 H3 a s5, Tabbed P H1 H3 → R J H1 → Made X pins σ NG js elt tg iter scope gpos J H3 a s5 → Q' (.ref a) s5) :
    wpAny (model X.prog X.w) X.A (eval (.GeneratorExp elt [⟨tg, iter, [], 0⟩] scope gpos) X.env) Q' X.xe s := by
  have hfree : ∀ y ∈ scope.names, y.2 = .free → ∃ c, X.env.cells.lookup y.1 = some c := fun y hy e => by
    rcases G.free y hy e with k | k
    · exact I.ok.has _ (.inl k)
    · exact I.ok.has _ (.inr k)
  refine wpAny_GeneratorExp_make G.co (closure_ok hfree) G.cell G.dot G.kind (by have := hr.dp; omega) ?_ hs
  refine thn (hi.run pins s σ H _ I h) fun xv s1 h1 => thn h1 fun itv s2 h2 => ?_
  obtain ⟨it, fp, tn, J, H2, rfl, I2, T, st2, f2, ⟨ps, hP, ht⟩, hR⟩ := h2
  have hPs : s2.heap.get? P = some { cls := .none, data := .fields ps } := I2.hok P _ hP
  have cd : PySem.W.CodeHd s2.heap c P := TB.code.keeps I2.bk
  refine ⟨I2.nolimit, ?_⟩
  have cont : ∀ (code : Value) (h3 : Heap) (tk : Nat) (more : Array Value), (∀ b o, b ≠ P → s2.heap.get? b = some o → h3.get? b = some o) → h3.get? P = some { cls := .none, data := .fields (ps ++ more) } → TriplesOk (ps ++ more).toList →
      wpAny (model X.prog X.w) X.A (builtinsFor X.env.globals X.env.builtins) (fun bi s₄ =>
        ∀ h' : Heap, h'.Ns s₄.heap.objs.size (fun y => if y = ".0" then some (.ref it) else none) → Heap.SameBut s₄.heap.objs.size (s₄.heap.push { cls := .type "frame", data := .dict #[] }) h' →
          Q' (.ref h'.objs.size) { s₄ with
            gens := s₄.gens.push (.fresh (.compStart (.GeneratorExp elt [⟨tg, iter, [], 0⟩] scope gpos) 0 (.ref it) .none (genEnv scope (cloFrom X.env.cells scope.names []) s₄.heap.objs.size code bi X.env))),
            toks := s₄.toks + 1 + 1 + 1,
            heap := h'.push { cls := .type "generator", data := .fields #[.int s₄.gens.size 0, .str "<genexpr>" (s₄.toks + 1), .str (X.env.qual ++ "<genexpr>") (s₄.toks + 1 + 1)] } }) X.xe { s2 with heap := h3, toks := tk } := by
    intro code h3 tk more hx hP3 ht3
    have J3 : Inv X pins σ (upd H2 P (.tbl (ps ++ more))) { s2 with heap := h3, toks := tk } := inv_tab (g' := s2.gens) (d' := s2.drawn) I2 hP hx hP3 I2.bare
    obtain ⟨bm, ob, e1, e2, e3, e4, e5, e6, e7, e8⟩ := TB.bm
    refine wpAny_builtinsFor (m := X.mg) (by rw [J3.ok.glob]; exact J3.mod.glob.keeps J3.bk) e1 e2 (J3.bk _ _ e5) e6 e7 e8 ?_
    intro h' hn' hs'
    have hfP : ∀ b ∈ fp, b ≠ P := fun b hb z => by
      have := (f2 b hb).1
      rw [z, hP] at this
      cases this
    have hsz : h'.objs.size = h3.objs.size + 1 := by rw [hs'.1, Heap.size_push]
    have keep' : ∀ b o, h3.get? b = some o → h'.get? b = some o := fun b o e => hs'.extBut b o (Nat.ne_of_lt (Heap.lt_size e)) (Heap.get?_push_of_some _ e)
    have keep₅ : ∀ b o, h3.get? b = some o → (h'.push { cls := .type "generator", data := .fields #[.int s2.gens.size 0, .str "<genexpr>" (tk + 1), .str (X.env.qual ++ "<genexpr>") (tk + 1 + 1)] }).get? b = some o :=
      fun b o e => Heap.get?_push_of_some _ (keep' b o e)
    have f3 : ∀ b ∈ fp, FpOk X pins (upd H2 P (.tbl (ps ++ more))) b := fun b hb => ⟨by rw [upd_ne (hfP b hb)]; exact (f2 b hb).1, (f2 b hb).2⟩
    have fl : ∀ b ∈ fp, b < h3.objs.size := fun b hb => by
      obtain ⟨o, e, _⟩ := T.obj _ _ st2 b hb
      exact Heap.lt_size (hx b o (hfP b hb) e)
    have IX := gen_start (s := { s2 with heap := h3, toks := tk }) (NG := NG) (code := code) (it := it) (js := js) (tk := tk + 1 + 1 + 1) (g₁ := s2.gens.push (.fresh (.compStart (.GeneratorExp elt [⟨tg, iter, [], 0⟩] scope gpos) 0 (.ref it) .none (gEnv X scope h3.objs.size code)))) J3 G f3 fl hr.hd (hn'.push _) keep₅ (I2.bare.push rfl) hN
    have aF : h3.objs.size ≤ h'.objs.size := by omega
    refine hQ J H2 _ h'.objs.size _ ⟨⟨ps ++ more, upd_same, ht3⟩, fun b hb => upd_ne hb⟩ hR ⟨{ s2 with heap := h3, toks := tk }, it, fp, tn, h3.objs.size, code, { cls := .type "generator", data := .fields #[.int s2.gens.size 0, .str "<genexpr>" (tk + 1), .str (X.env.qual ++ "<genexpr>") (tk + 1 + 1)] }, s2.gens.size, J3, T, T.keep _ _ _ st2 fun b hb o e => keep₅ b o (hx b o (hfP b hb) e), f3, fl, rfl, (by show h3.objs.size < h'.objs.size; omega), IX.pins_of fun p hp => ?_, Array.getElem?_push_size .., fun h e => ⟨_, _, _, e, rfl, rfl, rfl⟩⟩
    rw [List.mem_singleton.mp hp]
    have nfr : h'.objs.size ∉ frs X.stack := fun z => by
      rcases List.mem_cons.mp (J3.stkSub _ z) with e | e
      · have h1 : X.env.locals < h3.objs.size := J3.lt
        have e : (h'.objs.size : Nat) = X.env.locals := e
        rw [← e] at h1
        exact absurd (Nat.lt_of_lt_of_le h1 aF) (Nat.lt_irrefl _)
      · exact J3.nofs (a := h'.objs.size) aF e
    refine ⟨Heap.get?_push_size _ rfl, J3.hok.fresh aF, ?_, nfr, fun v e => by cases e⟩
    show h'.objs.size ≠ h3.objs.size
    omega
  cases hf : codeAmong gpos ps.toList with
  | none =>
    refine wpAny_genexprCodeX hcode (cd.code hPs ht) (cd.tab hPs) hf fun c' h' tk hx hge hlt hco' _ htab' _ => ?_
    obtain ⟨o1, vs, f1, tf, fl, tg, inF, tx, tt, op, _, _, _, _, _, _, _, _, _, htr, _⟩ := hco'
    exact cont _ h' tk _ (fun b o hb e => hx b o hb e) htab'.2 htr
  | some cv =>
    refine wpAny_genexprCode_hit hcode (cd.code hPs ht) hf ?_
    exact cont cv s2.heap s2.toks #[] (fun _ _ _ e => e) (by rw [Array.append_empty]; exact hPs) (by rw [Array.append_empty]; exact ht)
/-- behind it -/
theorem gen_after {s3 s' : Shared} {H3 H' : Hp} {NG : List Str} {fp : List Addr} {cenv : Env} {pins' : List (Addr × Obj)} {σ' : L2.St} (I : Inv X pins σ H3 s3) (hf : ∀ b ∈ fp, FpOk X pins H3 b) (J : Inv (gCx X s3 H3 NG fp cenv) pins' σ' H' s') : Inv X pins σ H' s' :=
  I.call' J.os J.base J.hok J.bare fun b hb => ⟨(hf b hb).2.2.2.1, (hf b hb).2.1, (hf b hb).2.2.2.2.1, (hf b hb).2.2.2.2.2⟩
end
/-! ### any, all, sum -/
/-- what a generator's frame hangs on -/
structure GPar where
  s : Shared
  H : Hp
  fp : List Addr
  C : Addr
  code : Value
def tQG (al : Bool) (P : Addr) (js : List (Option Nat)) (wi : TI) (g : GPar → TG) (te : GPar → TE) : TE := fun σ H Q => wi σ H fun J H1 => TabG H1 P ∧ ∀ a H3, Tabbed P H1 H3 → ∃ (N : Nat) (Z : Nat → L2.St → Hp → Prop), Z 0 (capS js σ) H3 ∧
  ∀ i σ' H', Z i σ' H' → (J.stop i H' ∧ Q (.bl al) H') ∨ (J.go i H' ∧ i < N ∧ ∀ x H2, J.yld i H' x H2 → g a x σ' H2 fun σ2 H4 => te a σ2 H4 fun y H5 => (y = .bl al ∧ Z (i + 1) σ2 H5) ∨ (y = .bl (!al) ∧ Q (.bl (!al)) H5))
def tSumG (P : Addr) (js : List (Option Nat)) (wi : TI) (g : GPar → TG) (te : GPar → TE) : TE := fun σ H Q => wi σ H fun J H1 => TabG H1 P ∧ ∀ a H3, Tabbed P H1 H3 → ∃ (vals : List Int) (Z : Nat → L2.St → Hp → Prop), (∀ (j : Nat) (v : Int), vals[j]? = some v → InLong v ∧ InLong ((vals.take j).sum + v)) ∧ Z 0 (capS js σ) H3 ∧
  ∀ i σ' H', Z i σ' H' → (J.stop i H' ∧ i = vals.length ∧ Q (.int vals.sum) H') ∨ (J.go i H' ∧ i < vals.length ∧ ∀ x H2, J.yld i H' x H2 → g a x σ' H2 fun σ2 H4 => te a σ2 H4 fun y H5 => ∃ v, vals[i]? = some v ∧ y = .int v ∧ Z (i + 1) σ2 H5)
section
variable {X : Cx} {c P : Addr} {elt tg iter : Expr} {p gpos pos : Pos} {scope : Scope} {NG : List Str} {js : List (Option Nat)} {wi : TI} {g : GPar → TG} {te : GPar → TE} {k : Nat}
theorem gfix {s3 : Shared} {H3 : Hp} {pins : List (Addr × Obj)} {σ : L2.St} {fp : List Addr} {code : Value} {a : Addr} (I : Inv X pins σ H3 s3) (G : GSc X.env.scope scope) (f : ∀ b ∈ fp, FpOk X pins H3 b) (fl : ∀ b ∈ fp, b < s3.heap.objs.size) (ha : s3.heap.objs.size < a) {S : List Addr} (hS : ∀ b ∈ S, a < b) :
    GFix X s3 fp (gEnv X scope s3.heap.objs.size code) a S := by
  have hfree : ∀ y ∈ scope.names, y.2 = .free → ∃ c, X.env.cells.lookup y.1 = some c := fun y hy e => by
    rcases G.free y hy e with k | k
    · exact I.ok.has _ (.inl k)
    · exact I.ok.has _ (.inr k)
  have cm : ∀ {y c}, (cloFrom X.env.cells scope.names []).lookup y = some c → X.env.cells.lookup y = some c := fun {y c} e => by
    rcases cloFrom_mem (PySem.mem_of_lookup e) with hm | ⟨h1, h2⟩
    · cases hm
    · obtain ⟨c1, hc⟩ := hfree _ h1 rfl
      have hc : X.env.cells.lookup y = some c1 := hc
      have e2 : c = c1 := by
        rw [h2, hc] <;> rfl
      rw [e2]
      exact hc
  have nfr : ∀ b, s3.heap.objs.size ≤ b → b ∉ frs X.stack := fun b hb z => by
    rcases List.mem_cons.mp (I.stkSub _ z) with e | e
    · have h1 := I.lt
      rw [← e] at h1
      exact Nat.lt_irrefl _ (Nat.lt_of_lt_of_le h1 hb)
    · exact I.nofs hb e
  refine ⟨fun b hb => ⟨Nat.ne_of_lt (fl b hb), fun z => ?_, fun x c e => (f b hb).2.2.2.2.1 x c (cm e), Nat.ne_of_lt (Nat.lt_trans (fl b hb) ha), fun z => absurd (Nat.lt_trans (Nat.lt_trans (fl b hb) ha) (hS b z)) (Nat.lt_irrefl _)⟩,
    fun b hb => ⟨Nat.le_of_lt (Nat.lt_trans ha (hS b hb)), Nat.ne_of_gt (Nat.lt_trans ha (hS b hb)), nfr b (Nat.le_of_lt (Nat.lt_trans ha (hS b hb))), fun x c e z => ?_, Nat.ne_of_gt (hS b hb)⟩⟩
  · rcases List.mem_cons.mp (I.stkSub b z) with e | e
    · exact (f b hb).2.1 e
    · exact (f b hb).2.2.1 e
  · obtain ⟨v, q⟩ := I.cell x c (cm e)
    have h1 : c < s3.heap.objs.size := q.lt
    rw [z] at h1
    exact Nat.lt_irrefl _ (Nat.lt_trans (Nat.lt_trans ha (hS b hb)) h1)
theorem pe_allG (hr : Room (k + 1) X.A) (hgl : Gl X "all") (hm : X.mg "all" = none) (hb : bootBuiltins "all" = some (.builtin "all")) (TB : TabB X.base X.mg c P) (hcode : X.env.code = .ref c) (G : GSc X.env.scope scope) (hi : PI X tg iter wi) (hN : capB X.N NG scope js = true)
    (hg : ∀ a : GPar, PG (gCx X a.s a.H NG a.fp (gEnv X scope a.C a.code)) tg (g a)) (he : ∀ a : GPar, Room k (gA X (gEnv X scope a.C a.code)) → PE (gCx X a.s a.H NG a.fp (gEnv X scope a.C a.code)) elt (te a)) (hs : ∀ v, genFold iter X.env v = pure v)
    (hst : starEach [.GeneratorExp elt [⟨tg, iter, [], 0⟩] scope gpos] X.env = (false, eval (.GeneratorExp elt [⟨tg, iter, [], 0⟩] scope gpos) X.env) :: starEach [] X.env := by rfl) :
    PE X (.Call (.Name "all" p) [.GeneratorExp elt [⟨tg, iter, [], 0⟩] scope gpos] [] pos) (tQG true P js wi g te) := by
  refine ⟨fun pins s σ H Q I h => ?_⟩
  refine wpAny_Call_Name_kw (ld_blt I hgl hm hb ?_)
  refine PyProof.Rows.callWith_builtin1 ?_ hst (by rfl)
  rw [hst]
  show wpAny _ _ (spliced ((false, eval (.GeneratorExp elt [⟨tg, iter, [], 0⟩] scope gpos) X.env) :: backTo pos (starEach [] X.env))) _ _ s
  refine Calls.spliced_cons (gen_make hr TB hcode G hi hN hs I h fun J H1 H3 a s5 hT hR M => ?_)
  refine Calls.spliced_nil ?_
  obtain ⟨s3, it, fp, tn, C, code, ob, gn, I3, T, st5, f3, fl, rfl, ha, I5, hgs, hob⟩ := M
  obtain ⟨N, Z, z0, turn⟩ := hR ⟨s3, H3, fp, s3.heap.objs.size, code⟩ H3 hT
  have fx : GFix X s3 fp (gEnv X scope s3.heap.objs.size code) a [] := gfix I3 G f3 fl ha (fun b hb => absurd hb (by simp))
  have pa := I5.pin (a, ob) (List.mem_append_right _ (List.mem_singleton.mpr rfl))
  have g0 : GenSt X s3 H3 NG fp (gEnv X scope s3.heap.objs.size code) a ob gn [] tn N Z (fun i y σ H => (y = .bl true ∧ Z (i + 1) σ H) ∨ (y = .bl false ∧ Q (.bl false) H)) (fun _ _ H => Q (.bl true) H) 0 s5 :=
    ⟨_, _, Nat.zero_le _, z0, I5, st5, fun b hb => (f3 b hb).1, fun b hb => absurd hb (by simp), _, hgs, fun s'' J2 st2 so2 => ⟨rfl, seg_start rfl G.co fx T (hg ⟨s3, H3, fp, s3.heap.objs.size, code⟩) (he ⟨s3, H3, fp, s3.heap.objs.size, code⟩ (room_g hr)) turn s'' _ _ z0 J2 st2 (fun b hb => (f3 b hb).1) so2⟩⟩
  refine call_function_tree F.kind_all F.plain_all F.entry_all (F.args_all1 _) ?_
  unfold Builtin.«all»
  refine wpAny_bind (m := oneArg "all" _) (wpAny_pure ?_)
  refine wpAny_bind (wpAny_pyIter_gen (hob _ pa.1) ?_)
  refine wpAny_pure ⟨plainId_quiet F.plain_all_loop _, codeAny_mono (all_loop (Q := Q) T hob hr.hd (by have := hr.dp; omega) N 0 s5 rfl g0) fun r s' hq => ?_⟩
  obtain ⟨b, σ', H', rfl, J2, q⟩ := hq
  exact ⟨.bl b, H', gen_after I3 f3 J2, rfl, q⟩
theorem pe_anyG (hr : Room (k + 1) X.A) (hgl : Gl X "any") (hm : X.mg "any" = none) (hb : bootBuiltins "any" = some (.builtin "any")) (TB : TabB X.base X.mg c P) (hcode : X.env.code = .ref c) (G : GSc X.env.scope scope) (hi : PI X tg iter wi) (hN : capB X.N NG scope js = true)
    (hg : ∀ a : GPar, PG (gCx X a.s a.H NG a.fp (gEnv X scope a.C a.code)) tg (g a)) (he : ∀ a : GPar, Room k (gA X (gEnv X scope a.C a.code)) → PE (gCx X a.s a.H NG a.fp (gEnv X scope a.C a.code)) elt (te a)) (hs : ∀ v, genFold iter X.env v = pure v)
    (hst : starEach [.GeneratorExp elt [⟨tg, iter, [], 0⟩] scope gpos] X.env = (false, eval (.GeneratorExp elt [⟨tg, iter, [], 0⟩] scope gpos) X.env) :: starEach [] X.env := by rfl) :
    PE X (.Call (.Name "any" p) [.GeneratorExp elt [⟨tg, iter, [], 0⟩] scope gpos] [] pos) (tQG false P js wi g te) := by
  refine ⟨fun pins s σ H Q I h => ?_⟩
  refine wpAny_Call_Name_kw (ld_blt I hgl hm hb ?_)
  refine PyProof.Rows.callWith_builtin1 ?_ hst (by rfl)
  rw [hst]
  show wpAny _ _ (spliced ((false, eval (.GeneratorExp elt [⟨tg, iter, [], 0⟩] scope gpos) X.env) :: backTo pos (starEach [] X.env))) _ _ s
  refine Calls.spliced_cons (gen_make hr TB hcode G hi hN hs I h fun J H1 H3 a s5 hT hR M => ?_)
  refine Calls.spliced_nil ?_
  obtain ⟨s3, it, fp, tn, C, code, ob, gn, I3, T, st5, f3, fl, rfl, ha, I5, hgs, hob⟩ := M
  obtain ⟨N, Z, z0, turn⟩ := hR ⟨s3, H3, fp, s3.heap.objs.size, code⟩ H3 hT
  have fx : GFix X s3 fp (gEnv X scope s3.heap.objs.size code) a [] := gfix I3 G f3 fl ha (fun b hb => absurd hb (by simp))
  have pa := I5.pin (a, ob) (List.mem_append_right _ (List.mem_singleton.mpr rfl))
  have g0 : GenSt X s3 H3 NG fp (gEnv X scope s3.heap.objs.size code) a ob gn [] tn N Z (fun i y σ H => (y = .bl false ∧ Z (i + 1) σ H) ∨ (y = .bl true ∧ Q (.bl true) H)) (fun _ _ H => Q (.bl false) H) 0 s5 :=
    ⟨_, _, Nat.zero_le _, z0, I5, st5, fun b hb => (f3 b hb).1, fun b hb => absurd hb (by simp), _, hgs, fun s'' J2 st2 so2 => ⟨rfl, seg_start rfl G.co fx T (hg ⟨s3, H3, fp, s3.heap.objs.size, code⟩) (he ⟨s3, H3, fp, s3.heap.objs.size, code⟩ (room_g hr)) turn s'' _ _ z0 J2 st2 (fun b hb => (f3 b hb).1) so2⟩⟩
  refine call_function_tree F.kind_any F.plain_any F.entry_any (F.args_any1 _) ?_
  unfold Builtin.«any»
  refine wpAny_bind (m := oneArg "any" _) (wpAny_pure ?_)
  refine wpAny_bind (wpAny_pyIter_gen (hob _ pa.1) ?_)
  refine wpAny_pure ⟨plainId_quiet F.plain_any_loop _, codeAny_mono (any_loop (Q := Q) T hob hr.hd (by have := hr.dp; omega) N 0 s5 rfl g0) fun r s' hq => ?_⟩
  obtain ⟨b, σ', H', rfl, J2, q⟩ := hq
  exact ⟨.bl b, H', gen_after I3 f3 J2, rfl, q⟩
theorem pe_sumG (hr : Room (k + 1) X.A) (hgl : Gl X "sum") (hm : X.mg "sum" = none) (hb : bootBuiltins "sum" = some (.builtin "sum")) (TB : TabB X.base X.mg c P) (hcode : X.env.code = .ref c) (G : GSc X.env.scope scope) (hi : PI X tg iter wi) (hN : capB X.N NG scope js = true)
    (hg : ∀ a : GPar, PG (gCx X a.s a.H NG a.fp (gEnv X scope a.C a.code)) tg (g a)) (he : ∀ a : GPar, Room k (gA X (gEnv X scope a.C a.code)) → PE (gCx X a.s a.H NG a.fp (gEnv X scope a.C a.code)) elt (te a)) (hs : ∀ v, genFold iter X.env v = pure v)
    (hst : starEach [.GeneratorExp elt [⟨tg, iter, [], 0⟩] scope gpos] X.env = (false, eval (.GeneratorExp elt [⟨tg, iter, [], 0⟩] scope gpos) X.env) :: starEach [] X.env := by rfl) :
    PE X (.Call (.Name "sum" p) [.GeneratorExp elt [⟨tg, iter, [], 0⟩] scope gpos] [] pos) (tSumG P js wi g te) := by
  refine ⟨fun pins s σ H Q I h => ?_⟩
  refine wpAny_Call_Name_kw (ld_blt I hgl hm hb ?_)
  refine PyProof.Rows.callWith_builtin1 ?_ hst (by rfl)
  rw [hst]
  show wpAny _ _ (spliced ((false, eval (.GeneratorExp elt [⟨tg, iter, [], 0⟩] scope gpos) X.env) :: backTo pos (starEach [] X.env))) _ _ s
  refine Calls.spliced_cons (gen_make hr TB hcode G hi hN hs I h fun J H1 H3 a s5 hT hR M => ?_)
  refine Calls.spliced_nil ?_
  obtain ⟨s3, it, fp, tn, C, code, ob, gn, I3, T, st5, f3, fl, rfl, ha, I5, hgs, hob⟩ := M
  obtain ⟨vals, Z, hfit, z0, turn⟩ := hR ⟨s3, H3, fp, s3.heap.objs.size, code⟩ H3 hT
  have pa := I5.pin (a, ob) (List.mem_append_right _ (List.mem_singleton.mpr rfl))
  have ha5 : a < s5.heap.objs.size := Heap.lt_size pa.1
  have fx : GFix X s3 fp (gEnv X scope s3.heap.objs.size code) a [s5.heap.objs.size] := gfix I3 G f3 fl ha (fun b hb => by rw [List.mem_singleton.mp hb]; exact ha5)
  refine call_function_tree F.kind_sum F.plain_sum F.entry_sum (F.args_sum1 _) ?_
  unfold Builtin.«sum»
  simp only [List.length_cons, List.length_nil]
  rw [if_neg (by decide)]
  refine wpAny_bind (wpAny_of_eq (show Builtin.Builtins.bindParams "sum" ["start"] 0 { } = pure [none] from rfl) ?_)
  refine wpAny_bind (wpAny_pyIter_gen (hob _ pa.1) ?_)
  refine wpAny_bind (wpAny_mkInt ?_)
  refine wpAny_bind (wpAny_pure ?_)
  simp only [List.forIn_cons, List.forIn_nil]
  refine wpAny_bind (wpAny_bind (wpAny_bind (wpAny_isInstance (T := "int") (b := false) (typeIs_int _ _ _) PySem.sub_int_str ?_)))
  simp only [Bool.false_eq_true, if_false]
  refine wpAny_pure (wpAny_bind (wpAny_bind (wpAny_isInstance (T := "int") (b := false) (typeIs_int _ _ _) PySem.sub_int_bytes ?_)))
  simp only [Bool.false_eq_true, if_false]
  refine wpAny_pure (wpAny_bind (wpAny_bind (wpAny_isInstance (T := "int") (b := false) (typeIs_int _ _ _) PySem.sub_int_bytearray ?_)))
  simp only [Bool.false_eq_true, if_false]
  refine wpAny_pure (wpAny_pure ?_)
  refine wpAny_bind (wpAny_newObj_type ?_)
  have I6 : Inv (gCx X s3 H3 NG fp (gEnv X scope s3.heap.objs.size code)) [(a, ob)] (capS js σ) H3 { s5 with heap := s5.heap.push { cls := .type "list", data := .seq #[.int 0 s5.toks] }, toks := s5.toks + 1 } := I5.kept fun b o e => Heap.get?_push_of_some _ e
  have hS6 : (s5.heap.push { cls := .type "list", data := .seq #[.int 0 s5.toks] }).get? s5.heap.objs.size = some { cls := .type "list", data := .seq #[.int 0 s5.toks] } := Heap.get?_push_size _ rfl
  have g0 : GenSt X s3 H3 NG fp (gEnv X scope s3.heap.objs.size code) a ob gn [s5.heap.objs.size] tn vals.length Z (fun i y σ H => ∃ v, vals[i]? = some v ∧ y = .int v ∧ Z (i + 1) σ H) (fun i _ H => i = vals.length ∧ Q (.int vals.sum) H) 0 { s5 with heap := s5.heap.push { cls := .type "list", data := .seq #[.int 0 s5.toks] }, toks := s5.toks + 1 } :=
    ⟨_, _, Nat.zero_le _, z0, I6, T.keep _ _ _ st5 fun b _ o e => Heap.get?_push_of_some _ e, fun b hb => (f3 b hb).1, fun b hb => by
      rw [List.mem_singleton.mp hb]
      exact ⟨I5.hok.fresh (Nat.le_refl _), _, hS6, fun v e => by cases e⟩, _, hgs, fun s'' J2 st2 so2 => ⟨rfl, seg_start rfl G.co fx T (hg ⟨s3, H3, fp, s3.heap.objs.size, code⟩) (he ⟨s3, H3, fp, s3.heap.objs.size, code⟩ (room_g hr)) turn s'' _ _ z0 J2 st2 (fun b hb => (f3 b hb).1) so2⟩⟩
  have hfS := fx.s s5.heap.objs.size (List.mem_singleton.mpr rfl)
  refine wpAny_pure ⟨plainId_quiet F.plain_sum_loop _, codeAny_mono (sum_loop (Q := Q) (fun b hb z => (fx.f b hb).2.2.2.2 (by rw [z]; exact List.mem_singleton.mpr rfl)) hfS.2.2.2.2 T hob hr.hd (by have := hr.dp; omega) ⟨hfS.1, hfS.2.1, hfS.2.2.1, hfS.2.2.2.1⟩ hfit vals.length 0 _ s5.toks _ rfl g0 hS6) fun r s' hq => ?_⟩
  obtain ⟨t, σ', H', rfl, J2, q⟩ := hq
  exact ⟨.int vals.sum, H', gen_after I3 f3 J2, ⟨t, rfl⟩, q⟩
end
end L3G

namespace L3
open PySem L2
open Evl (Ex ex_rd ex_l ex_t sq_of st_of fresh_back)

/-! ### generator expressions -/
def allM {α : Type} (f : α → Option Bool) : List α → Option Bool
  | [] => some true
  | x :: xs => match f x with
    | some true => allM f xs
    | o => o
def anyM {α : Type} (f : α → Option Bool) : List α → Option Bool
  | [] => some false
  | x :: xs => match f x with
    | some false => anyM f xs
    | o => o
def quM {α : Type} (al : Bool) (f : α → Option Bool) : List α → Option Bool
  | [] => some al
  | x :: xs => match f x with
    | some b => if b = al then quM al f xs else some b
    | none => none
theorem quM_all {α : Type} (f : α → Option Bool) : ∀ xs : List α, quM true f xs = allM f xs
  | [] => rfl
  | x :: xs => by
    unfold quM allM
    cases f x with
    | none => rfl
    | some b => cases b with
      | true => exact quM_all f xs
      | false => rfl
theorem quM_any {α : Type} (f : α → Option Bool) : ∀ xs : List α, quM false f xs = anyM f xs
  | [] => rfl
  | x :: xs => by
    unfold quM anyM
    cases f x with
    | none => rfl
    | some b => cases b with
      | false => exact quM_any f xs
      | true => rfl
def mapO {α β : Type} (f : α → Option β) : List α → Option (List β)
  | [] => some []
  | x :: xs => match f x, mapO f xs with
    | some y, some ys => some (y :: ys)
    | _, _ => none
theorem mapO_get {α β : Type} {f : α → Option β} : ∀ {xs : List α} {ys : List β}, mapO f xs = some ys → xs.length = ys.length ∧ ∀ (i : Nat) (x : α), xs[i]? = some x → ∃ y, f x = some y ∧ ys[i]? = some y
  | [], ys, h => by
    obtain rfl : [] = ys := Option.some.inj h
    exact ⟨rfl, fun i x e => by simp at e⟩
  | x :: xs, ys, h => by
    unfold mapO at h
    split at h
    · rename_i y ys' e1 e2
      obtain rfl := Option.some.inj h
      obtain ⟨h1, h2⟩ := mapO_get e2
      refine ⟨congrArg (· + 1) h1, fun i z e => ?_⟩
      cases i with
      | zero => obtain rfl : x = z := by simpa using e
                exact ⟨y, e1, rfl⟩
      | succ i => exact h2 i z (by simpa using e)
    · cases h
def longI (i : Int) : Bool := decide (-(2 ^ 63) ≤ i) && decide (i < 2 ^ 63)
def fits (acc : Int) : List Int → Bool
  | [] => true
  | v :: vs => longI v && longI (acc + v) && fits (acc + v) vs
def sumM {α : Type} (f : α → Option Int) (xs : List α) : Option Int := match mapO f xs with
  | some vs => if fits 0 vs = true then some vs.sum else none
  | none => none
theorem longI_ok {i : Int} (h : longI i = true) : InLong i := by
  unfold longI at h
  rw [Bool.and_eq_true, decide_eq_true_eq, decide_eq_true_eq] at h
  exact h
theorem fits_ok : ∀ {vs : List Int} {acc : Int}, fits acc vs = true → ∀ (j : Nat) (v : Int), vs[j]? = some v → InLong v ∧ InLong (acc + (vs.take j).sum + v)
  | [], _, _, _, _, e => by simp at e
  | w :: vs, acc, h, j, v, e => by
    unfold fits at h
    rw [Bool.and_eq_true, Bool.and_eq_true] at h
    cases j with
    | zero =>
      obtain rfl : w = v := by simpa using e
      exact ⟨longI_ok h.1.1, by simpa using longI_ok h.1.2⟩
    | succ j =>
      have := fits_ok h.2 j v (by simpa using e)
      refine ⟨this.1, ?_⟩
      rw [List.take_succ_cons, List.sum_cons, ← Int.add_assoc]
      exact this.2
section
variable {K : Fg} {M : Fr} {σ : St} {B : Hp} {L L1 L2 L' : List Cell} {α β γ δ : Type} {r : Rep α} {s : Rep β} {t : Rep γ} {ta tb tc te : TE} {tt tu : TT} {tA : TA} {i j k : Int} {b c : Bool} {P : Addr} {js : List (Option Nat)} {wi : TI} {g : L3G.GPar → TG} {ge : L3G.GPar → TE}
theorem Own.tabbed {H H' : Hp} (w : Own K B M L H) (hP : P ∈ M.T) (h : GxR.Tabbed P H H') : Own K B M L H' := by
  obtain ⟨h1, h2⟩ := h
  obtain ⟨t1, t2, t3, t4⟩ := w.t P hP
  refine ⟨fun a u e => ?_, fun a u e => ?_, w.bm, fun x hx => ?_, w.nd, fun R hR => ?_⟩
  · rw [h2 a (ne_of_none e t2)]; exact w.b a u e
  · rw [h2 a (ne_of_none e t3)]; exact w.m a u e
  · obtain ⟨⟨o, a1, a2⟩, a3, a4⟩ := w.l x hx
    exact ⟨⟨o, by rw [h2 x.p (fun e => t4 (by rw [← e]; exact List.mem_map.mpr ⟨x, hx, rfl⟩))]; exact a1, a2⟩, a3, a4⟩
  · obtain ⟨s1, s2, s3, s4⟩ := w.t R hR
    refine ⟨?_, s2, s3, s4⟩
    by_cases e : R = P
    · rw [e]; exact h1
    · obtain ⟨ps, q1, q2⟩ := s1
      exact ⟨ps, by rw [h2 R e]; exact q1, q2⟩
theorem ev_quG (al : Bool) {xs : List α} (hP : P ∈ M.T) (hi : EI K M wi σ B L r xs L1) (f : α → Option Bool) (Sg : St → Prop) (h0 : Sg (L3G.capS js σ)) (hm : quM al f xs = some b)
    (hs : ∀ a x c v B' H' σ', f x = some c → Ex B B' → Sg σ' → Own K B' M L1 H' → r.is K B' v x → ∀ Q : St → VK, (∀ σ2 B2 H2, Sg σ2 → Ex B' B2 → Own K B2 M L1 H2 → Q σ2 (.bl c) H2) → g a v σ' H' fun σ2 H2 => ge a σ2 H2 (Q σ2)) :
    EV K M (L3G.tQG al P js wi g ge) σ B L rBool b L1 := fun B1 H e w Q q =>
  hi B1 H e w _ fun J B2 H2 e2 w2 wk => by
    refine ⟨(w2.t P hP).1, fun a H3 hT => ?_⟩
    have w3 := w2.tabbed hP hT
    refine ⟨xs.length, fun i σ' H' => Sg σ' ∧ (∃ B', Ex B2 B' ∧ Own K B' M L1 H') ∧ i ≤ xs.length ∧ quM al f (xs.drop i) = some b, ⟨h0, ⟨B2, Ex.refl _, w3⟩, Nat.zero_le _, hm⟩, ?_⟩
    rintro i σ' H' ⟨sg, ⟨B', eb, w'⟩, hi, hq⟩
    by_cases hl : i = xs.length
    · subst hl
      refine .inl ⟨wk.stop B' L1 H' eb w', ?_⟩
      rw [List.drop_length] at hq
      obtain rfl : al = b := Option.some.inj hq
      exact q _ B' H' (e2.trans eb) w' rfl
    · have hlt : i < xs.length := by omega
      rw [List.drop_eq_getElem_cons hlt] at hq
      have hx : xs[i]? = some xs[i] := List.getElem?_eq_getElem hlt
      obtain ⟨g1, g2⟩ := wk.go i xs[i] B' L1 H' eb w' hx
      unfold quM at hq
      cases hf : f xs[i] with
      | none => rw [hf] at hq; cases hq
      | some c =>
        rw [hf] at hq
        refine .inr ⟨g1, hlt, fun x H4 hy => ?_⟩
        obtain ⟨B4, e4, w4, hr⟩ := g2 x H4 hy
        refine hs a xs[i] c x B4 H4 σ' hf ((e.trans e2).trans (eb.trans e4)) sg w4 hr _ fun σ2 B5 H5 sg5 e5 w5 => ?_
        have hq : (if c = al then quM al f (xs.drop (i + 1)) else some c) = some b := hq
        by_cases hc : c = al
        · rw [if_pos hc] at hq
          exact .inl ⟨by rw [hc], sg5, ⟨B5, (eb.trans e4).trans e5, w5⟩, hlt, hq⟩
        · rw [if_neg hc] at hq
          obtain rfl : c = b := Option.some.inj hq
          have hn : c = !al := by revert hc; cases c <;> cases al <;> simp
          exact .inr ⟨by rw [hn], hn ▸ q _ B5 H5 (((e2.trans eb).trans e4).trans e5) w5 rfl⟩
theorem ev_allG {xs : List α} (hP : P ∈ M.T) (hi : EI K M wi σ B L r xs L1) (f : α → Option Bool) (Sg : St → Prop) (h0 : Sg (L3G.capS js σ)) (hm : allM f xs = some b)
    (hs : ∀ a x c v B' H' σ', f x = some c → Ex B B' → Sg σ' → Own K B' M L1 H' → r.is K B' v x → ∀ Q : St → VK, (∀ σ2 B2 H2, Sg σ2 → Ex B' B2 → Own K B2 M L1 H2 → Q σ2 (.bl c) H2) → g a v σ' H' fun σ2 H2 => ge a σ2 H2 (Q σ2)) :
    EV K M (L3G.tQG true P js wi g ge) σ B L rBool b L1 := ev_quG true hP hi f Sg h0 (by rw [quM_all]; exact hm) hs
theorem ev_anyG {xs : List α} (hP : P ∈ M.T) (hi : EI K M wi σ B L r xs L1) (f : α → Option Bool) (Sg : St → Prop) (h0 : Sg (L3G.capS js σ)) (hm : anyM f xs = some b)
    (hs : ∀ a x c v B' H' σ', f x = some c → Ex B B' → Sg σ' → Own K B' M L1 H' → r.is K B' v x → ∀ Q : St → VK, (∀ σ2 B2 H2, Sg σ2 → Ex B' B2 → Own K B2 M L1 H2 → Q σ2 (.bl c) H2) → g a v σ' H' fun σ2 H2 => ge a σ2 H2 (Q σ2)) :
    EV K M (L3G.tQG false P js wi g ge) σ B L rBool b L1 := ev_quG false hP hi f Sg h0 (by rw [quM_any]; exact hm) hs
theorem ev_sumG {xs : List α} (hP : P ∈ M.T) (hi : EI K M wi σ B L r xs L1) (f : α → Option Int) (Sg : St → Prop) (h0 : Sg (L3G.capS js σ)) (hm : sumM f xs = some k)
    (hs : ∀ a x c v B' H' σ', f x = some c → Ex B B' → Sg σ' → Own K B' M L1 H' → r.is K B' v x → ∀ Q : St → VK, (∀ σ2 B2 H2, Sg σ2 → Ex B' B2 → Own K B2 M L1 H2 → Q σ2 (.int c) H2) → g a v σ' H' fun σ2 H2 => ge a σ2 H2 (Q σ2)) :
    EV K M (L3G.tSumG P js wi g ge) σ B L rInt k L1 := fun B1 H e w Q q =>
  hi B1 H e w _ fun J B2 H2 e2 w2 wk => by
    unfold sumM at hm
    split at hm
    · rename_i vs hvs
      split at hm
      · rename_i hfit
        obtain rfl := Option.some.inj hm
        obtain ⟨hlen, hget⟩ := mapO_get hvs
        refine ⟨(w2.t P hP).1, fun a H3 hT => ?_⟩
        have w3 := w2.tabbed hP hT
        refine ⟨vs, fun i σ' H' => Sg σ' ∧ (∃ B', Ex B2 B' ∧ Own K B' M L1 H') ∧ i ≤ vs.length, fun j v hv => by simpa using fits_ok hfit j v hv, ⟨h0, ⟨B2, Ex.refl _, w3⟩, Nat.zero_le _⟩, ?_⟩
        rintro i σ' H' ⟨sg, ⟨B', eb, w'⟩, hi⟩
        by_cases hl : i = vs.length
        · subst hl
          refine .inl ⟨by rw [← hlen]; exact wk.stop B' L1 H' eb w', rfl, q _ B' H' (e2.trans eb) w' rfl⟩
        · have hlt : i < vs.length := by omega
          have hlt' : i < xs.length := by omega
          have hx : xs[i]? = some xs[i] := List.getElem?_eq_getElem hlt'
          obtain ⟨g1, g2⟩ := wk.go i xs[i] B' L1 H' eb w' hx
          obtain ⟨y, f1, f2⟩ := hget i _ hx
          refine .inr ⟨g1, hlt, fun x H4 hy => ?_⟩
          obtain ⟨B4, e4, w4, hr⟩ := g2 x H4 hy
          refine hs a xs[i] y x B4 H4 σ' f1 ((e.trans e2).trans (eb.trans e4)) sg w4 hr _ fun σ2 B5 H5 sg5 e5 w5 => ?_
          exact ⟨y, f2, rfl, sg5, ⟨B5, (eb.trans e4).trans e5, w5⟩, hlt⟩
      · cases hm
    · cases hm
end
/-! ### a def with its code object -/
structure FunC (K : Fg) (x : Str) (st : Stmt) (f : Addr) (fd : FuncData) (c : Addr) : Prop where
  ex : ∃ (oc : Value) (od : Option Addr) (kV doc pm : Value) (an : Option Addr) (ct : Value) (osl : Array (Option Value)),
    fd = PySem.W.fnOf x x (defArgs st) (defBody st) (defScope st) .none kV doc pm an (.ref c) ct ∧ K.lookup f = some ⟨oc, od, .func fd, osl⟩ ∧ PySem.W.codeIn K (.ref c) x = true
  kp : PySem.W.keepIn K (.ref f) = true
theorem FunC.ok {P : Program} {w : World} {K : Fg} {mg : Str → Option Value} {base : Heap} {x : Str} {st : Stmt} {f : Addr} {fd : FuncData} {c : Addr} {N ps : List Str} {k : Nat} {sp : Sp} (F : FunC K x st f fd c) (S : FnScope N ps (defScope st)) (len : ∀ vs H Q E, sp vs H Q E → vs.length = ps.length)
    (hbody : ∀ (A : Around) (outer : List Env) (s : Shared) (H : Hp) (vs : List V) (Q : VK) (E : XK), Room k (A.deeper (PyProof.Rows.envOfC x (defScope st) s.heap.objs.size f (.ref c))) → sp vs H Q E →
      ∃ t, PSs (cxOf CX0 P w K mg base N x (defScope st) f (.ref c) A outer s H E).nox (defBody st) t ∧ t { nx := fun _ H' => Q .non H', rt := Q } (start N vs) H) : FnOk P w K mg base CX0 (k + 1) f fd ps sp := by
  obtain ⟨oc, od, kV, doc, pm, an, ct, osl, rfl, lk, hcd⟩ := F.ex
  refine fn_of lk hcd S len fun A outer s H vs Q E hr hsp => ?_
  obtain ⟨t, h, q⟩ := hbody A outer s H vs Q E hr hsp
  exact ⟨t, h.nox, q⟩
theorem FunC.binds {K : Fg} {x : Str} {st : Stmt} {f : Addr} {fd : FuncData} {c : Addr} {ps : List Str} (F : FunC K x st f fd c)
    (h : ∀ (kV doc pm : Value) (an : Option Addr) (cdv ct : Value) (us : List Value), us.length = ps.length → bindArgs (PySem.W.fnOf x x (defArgs st) (defBody st) (defScope st) .none kV doc pm an cdv ct) ⟨us, []⟩ = pure (ps.zip us)) : Binds K fd ps [] := by
  obtain ⟨oc, od, kV, doc, pm, an, ct, osl, rfl, lk, hcd⟩ := F.ex
  exact .all (h kV doc pm an _ ct)
theorem FunC.bindsA {K : Fg} {x : Str} {st : Stmt} {f : Addr} {fd : FuncData} {c : Addr} {ps : List Str} (F : FunC K x st f fd c)
    (h : ∀ (kV doc pm : Value) (an : Option Addr) (cdv ct : Value) (us : List Value), us.length = ps.length → bindArgs (PySem.W.fnOf x x (defArgs st) (defBody st) (defScope st) .none kV doc pm an cdv ct) ⟨us, []⟩ = pure (ps.zip us)) (s : Shared) (us : List Value) (hl : us.length = ps.length) : PySem.BindsTo s fd ⟨us, []⟩ (ps.zip us) := by
  obtain ⟨oc, od, kV, doc, pm, an, ct, osl, rfl, lk, hcd⟩ := F.ex
  exact .of_eq (h kV doc pm an _ ct us hl)
theorem funC_of {K : Fg} {x : Str} {st : Stmt} {fd : FuncData} (F : FunD K x x (defArgs st) (defBody st) (defScope st) [] [] (He.fAd K (x, none)) fd) : FunC K x st (He.fAd K (x, none)) fd (He.codeOf K (x, none)) := by
  obtain ⟨oc, od, dV, kV, doc, pm, an, cdv, ct, osl, rfl, lk, hcd, hD, hK⟩ := F.ex
  obtain ⟨c, rfl⟩ := He.codeIn_ref hcd
  rcases hD with ⟨_, rfl⟩ | ⟨e, _⟩
  · have e := He.codeOf_eq (p := (x, none)) lk (c := c) rfl
    rw [e]
    exact ⟨⟨oc, od, kV, doc, pm, an, ct, osl, rfl, lk, hcd⟩, F.kp⟩
  · exact absurd rfl e
end L3

/-! enumerate of a tuple -/
namespace L3G
open PySem PySem.Spec PyProof.Rows L2
set_option maxHeartbeats 4000000 in
theorem meets_enumT (t : Addr) (items : Array Value) :
    Meets (Builtin.«enumerate.__new__» ⟨[.type "enumerate", .ref t], []⟩) (fun _ R s => s.heap.IsTuple t items ∧
      R (.ok (.ret (.ref (s.heap.push { cls := .type "tuple_iterator", data := .fields #[.ref t, .int 0 0] }).objs.size)))
        { s with heap := (s.heap.push { cls := .type "tuple_iterator", data := .fields #[.ref t, .int 0 0] }).push { cls := .type "enumerate", data := .fields #[.none, .bool false, .ref s.heap.objs.size, rawInt 0, .none, .none] } }) :=
  .of_wp fun prog w A R s h => by
    obtain ⟨hp, g, d, tk, os⟩ := s; obtain ⟨hL, h⟩ := h
    have hsub := sub_enumerate
    obtain ⟨o, hl, hc, n, hd⟩ := id hL
    obtain ⟨oc, od, odt, osl⟩ := o
    replace hc : oc = .type "tuple" := hc
    replace hd : odt = .seq items n := hd
    subst hc hd
    wp_walk using wpAny_loadPart' hl
    refine wpAny_stack_any fun st => wpAny_pure ?_
    split
    · rename_i c _ _ _ _ _
      cases (c == Value.type "enumerate")
      · wp_walk using wpAny_loadPart' hl, wpAny_pyIter_tuple hL
        exact ⟨_, rfl, h⟩
      · wp_walk using wpAny_loadPart' hl, wpAny_pyIter_tuple hL
        exact ⟨_, rfl, h⟩
    · wp_walk using wpAny_loadPart' hl, wpAny_pyIter_tuple hL
      exact ⟨_, rfl, h⟩
section
variable {prog : Program} {w : World} {A : Around} {E : Value → Shared → Prop} {s : Shared}
theorem call_enumT {l : Addr} {items : Array Value} {Q : Value → Shared → Prop} (hL : s.heap.IsTuple l items)
    (h : ∀ h', IsEnum h' (s.heap.objs.size + 1) s.heap.objs.size 0 .none → h'.IsTupleIter s.heap.objs.size l 0 → h'.objs.size = s.heap.objs.size + 2 →
      (∀ b o, s.heap.get? b = some o → h'.get? b = some o) → Q (.ref (s.heap.objs.size + 1)) { s with heap := h' }) :
    wpAny (model prog w) A (call (.type "enumerate") [.ref l]) Q E s := by
  refine callType_new F.called_enumerate (by decide) (F.typeCall_enumerate_1 _) (F.newCall_enumerate_1 _) (fun obj => F.args_object_init_2 obj _) F.entry_enumerate_new
    (meets_enumT l items) ⟨hL, ?_⟩
  have hz : (s.heap.push { cls := .type "tuple_iterator", data := .fields #[.ref l, .int 0 0] }).objs.size = s.heap.objs.size + 1 := Heap.size_push ..
  show _ ∧ _
  rw [hz]
  have he : IsEnum ((s.heap.push { cls := .type "tuple_iterator", data := .fields #[.ref l, .int 0 0] }).push
      { cls := .type "enumerate", data := .fields #[.none, .bool false, .ref s.heap.objs.size, rawInt 0, .none, .none] }) (s.heap.objs.size + 1) s.heap.objs.size 0 .none := by
    have := Heap.get?_push_size (s.heap.push { cls := .type "tuple_iterator", data := .fields #[.ref l, .int 0 0] })
      (o := { cls := .type "enumerate", data := .fields #[.none, .bool false, .ref s.heap.objs.size, rawInt 0, .none, .none] }) rfl
    rw [hz] at this; exact this
  refine ⟨⟨_, he, rfl⟩, h _ he ⟨_, Heap.get?_push_of_some _ (Heap.get?_push_size _ rfl), rfl, rfl⟩ (by rw [Heap.size_push, hz]) fun b o x => Heap.get?_push_of_some _ (Heap.get?_push_of_some _ x)⟩
end
def IteT (K : PySem.W.Frag) (a : Addr) : It :=
  ⟨fun i H => ∃ (xs : List V) (x : V), SqT K H a xs ∧ xs[i]? = some x, fun i H v H' => ∃ T x, v = .ref T ∧ H T = none ∧ H' = upd H T (.tup [.int (i : Nat), x]) ∧ ∀ xs, SqT K H a xs → xs[i]? = some x, fun i H => ∃ xs : List V, SqT K H a xs ∧ xs.length ≤ i⟩
theorem turn_enumT {P : Program} {w : World} {K : PySem.W.Frag} {elts : List Expr} {kk : Nat} {tpos : Pos} (a e it : Addr) :
    Turn P w K (.Tuple elts kk tpos) (IteT K a) [e, it] e (fun i h => (∃ old, IsEnum h e it ((i : Nat) : Int) old) ∧ h.IsTupleIter it a i ∧ e ≠ it) where
  mem := by simp
  obj := fun i h st b hb => by
    obtain ⟨⟨old, he⟩, ⟨o, ho, hc, hd⟩, _⟩ := st
    have e' : b = e ∨ b = it := by simpa using hb
    rcases e' with z | z
    · rw [z]; exact ⟨_, he, fun v q => nomatch q⟩
    · rw [z]; exact ⟨o, ho, fun v q => by rw [hd] at q; cases q⟩
  keep := fun i h h' st k => let ⟨⟨old, he⟩, hi, hne⟩ := st; ⟨⟨old, k e (by simp) _ he⟩, hi.at fun o q => k it (by simp) o q, hne⟩
  item := by
    intro X hP hw hK hc i pins s σ H E I hf st hg
    subst hP hw hK
    obtain ⟨⟨old, he⟩, hit, hne⟩ := st
    obtain ⟨xs, x, hq, hx⟩ := hg
    obtain ⟨its, rv, p, hz⟩ := I.tuple hq
    obtain ⟨u, hu, ru⟩ := rv.get hx
    have p' : s.heap.IsTuple a its.toArray := p
    have hel : e < s.heap.objs.size := Heap.lt_size he
    have hil : it < s.heap.objs.size := by obtain ⟨_, q, _⟩ := hit; exact Heap.lt_size q
    have hai : a ≠ it := fun z => by
      obtain ⟨o1, q1, c1, _⟩ := hit
      obtain ⟨o2, q2, c2, _⟩ := p'
      rw [z, q1] at q2; cases q2
      rw [c1] at c2; exact absurd (Value.type.inj c2) (by decide)
    have hea : e ≠ a := fun z => by
      obtain ⟨o2, q2, c2, _⟩ := p'
      have he' : s.heap.get? e = some _ := he
      rw [z, q2] at he'; cases he'
      exact absurd (Value.type.inj c2) (by decide)
    have hsz : i < its.toArray.size := by
      have := (List.getElem?_eq_some_iff.mp hu).1
      simpa using this
    refine wpAny_pyNext_enum_itemD (PySem.Draws.tuple (A := X.A.in1) (I.ok.hd hc) it a hai its.toArray) he ⟨hit, p'⟩ hsz hne (by simp [hne, hea]) fun x' h' tk' hPx ho hit' hT hsz' hk => ?_
    have hPx : its[i]? = some x' := by simpa using hPx
    rw [hu] at hPx
    obtain rfl := Option.some.inj hPx
    refine ⟨_, rfl, wpAny_letOwnedTupleGo_enum (s := { s with heap := h', toks := tk' + 1 }) ho fun h'' he' sb => ?_⟩
    have hT2 : h''.get? s.heap.objs.size = some { cls := .type "tuple", data := .seq #[.int i tk', u] } := (sb.2 _ (Nat.ne_of_gt hel)).trans hT
    have new : ObjOk X.prog X.w (upd H s.heap.objs.size (.tup [.int (i : Nat), x])) h'' s.heap.objs.size (.tup [.int (i : Nat), x]) :=
      ⟨by show 2 ≤ sizeLine; decide, [.int i tk', u], .cons ⟨_, rfl⟩ (.cons ru .nil), ⟨_, hT2, rfl, _, rfl⟩⟩
    have I1 : Inv X pins σ (upd H s.heap.objs.size (.tup [.int (i : Nat), x])) { s with heap := h'', toks := tk' + 1 } :=
      I.turnedNew (ch := [e, it]) (fun b ob hb q => (sb.2 b (fun z => hb (by simp [z]))).trans (hk b ob (fun z => hb (by simp [z])) (fun z => hb (by simp [z])) q)) hf (Nat.le_refl _) new
    refine ⟨.ref s.heap.objs.size, _, I1, rfl, ⟨_, x, rfl, I.hok.fresh (Nat.le_refl _), rfl, fun ys hy => by rw [I.tuple_inj hy hq]; exact hx⟩, ⟨⟨u, ?_⟩, hit'.1.at fun o q => (sb.2 it (Ne.symm hne)).trans q, hne⟩, fun b hb => ?_⟩
    · have e1 : ((i + 1 : Nat) : Int) = (i : Int) + 1 := by omega
      rw [e1]; exact he'
    · have hb' : b < s.heap.objs.size := by
        have e' : b = e ∨ b = it := by simpa using hb
        rcases e' with z | z
        · rw [z]; exact hel
        · rw [z]; exact hil
      rw [upd_ne (Nat.ne_of_lt hb')]
      exact (hf b hb).1
  done := by
    intro X hP hw hK hc i pins s σ H E I hf st hg
    subst hP hw hK
    obtain ⟨⟨old, he⟩, hit, hne⟩ := st
    obtain ⟨xs, hq, hx⟩ := hg
    obtain ⟨its, rv, p, hz⟩ := I.tuple hq
    have p' : s.heap.IsTuple a its.toArray := p
    obtain ⟨f0, f1, f2, f3, f4, f5⟩ := hf it (by simp)
    have hl := rv.length
    have hT : s.TypeIs (.ref e) "enumerate" := ⟨_, he, rfl⟩
    unfold pyNext
    refine wpAny_bind (wpAny_attempt (wpAny_callSpecial?_slot (name := Str.ofString "__next__") hT F.slot_enumerate_next
      (wpAny_call_entry F.slot_enumerate_next hT F.entry_enumerate_next ?_ (F.args_enumerate_next_1 _))))
    show wpAny _ _ (field (.ref e) 2 >>= _) _ _ _
    refine wpAny_bind (wpAny_field he rfl (x := .ref it) rfl ?_)
    refine wpAny_bind (wpAny_nextOf_tuple_end (I.ok.hd hc) hit p' (by simp; omega) fun h' x he' hx' => ?_)
    obtain ⟨o, ho, hc'⟩ := hx'
    refine wpAny_bind (wpAny_isInstance (T := "StopIteration") (b := true) ⟨o, ho, hc'⟩ isSubtype_stop ?_)
    exact wpAny_pure ⟨rfl, I.turned (t' := s.toks) (fun b o hb q => he' b o hb q) f0 f1 f3 f4 f5⟩
  self := fun A i s Q E st h => let ⟨⟨_, he⟩, _⟩ := st; wpAny_pyIter_enum he h
def iEnumT (K : PySem.W.Frag) (ta : TA) : TI := fun σ H R => ta σ H fun vs H1 => ∃ a xs, vs = [.ref a] ∧ SqT K H1 a xs ∧ R (IteT K a) H1
theorem pi_enumT {X : Cx} {e : Expr} {ta : TA} {p pos tpos : Pos} {elts : List Expr} {kk : Nat} (hg : Gl X "enumerate") (hm : X.mg "enumerate" = none) (ha : PA X [e] ta) (hs : starEach [e] X.env = [(false, eval e X.env)] := by rfl) :
    PI X (.Tuple elts kk tpos) (.Call (.Name "enumerate" p) [e] [] pos) (iEnumT X.K ta) := by
  refine ⟨fun pins s σ H R I h => ?_⟩
  refine Call_ (ld_blt I hg hm boot_enumerate (PyProof.Rows.callWith_type1 (thn (ha.run pos pins s σ H _ I h) fun us s1 ⟨vs, H1, I1, r1, q1⟩ => ?_) hs rfl))
  obtain ⟨a, xs, ex, hq, q⟩ := q1
  subst ex
  cases r1 with
  | cons r rr =>
    cases rr
    cases r
    obtain ⟨its, rv, p', hz⟩ := I1.tuple hq
    refine call_enumT (show s1.heap.IsTuple a its.toArray from p') fun h' he hit hsz hk => wpAny_pyIter_enum he ?_
    have I2 : Inv X pins σ H1 { s1 with heap := h' } := I1.kept (t' := s1.toks) hk
    refine ⟨s1.heap.objs.size + 1, [s1.heap.objs.size + 1, s1.heap.objs.size], _, _, H1, rfl, I2, turn_enumT a (s1.heap.objs.size + 1) s1.heap.objs.size, ⟨⟨.none, he⟩, hit, Nat.succ_ne_self _⟩, fun b hb => ?_, q⟩
    have e' : b = s1.heap.objs.size + 1 ∨ b = s1.heap.objs.size := by simpa using hb
    have hle : s1.heap.objs.size ≤ b := by
      rcases e' with z | z
      · rw [z]; exact Nat.le_add_right _ _
      · rw [z]; exact Nat.le_refl _
    exact I1.fpOk hle (I1.hok.fresh hle)
end L3G
namespace L3
open PySem L2
open Evl (Ex ex_rd ex_l ex_t sq_of st_of fresh_back)
/-- (0, x), (1, y), .. -/
def enumI {α : Type} : Nat → List α → List (Int × α)
  | _, [] => []
  | n, x :: xs => ((n : Int), x) :: enumI (n + 1) xs
theorem enumI_len {α : Type} : ∀ (n : Nat) (xs : List α), (enumI n xs).length = xs.length
  | _, [] => rfl
  | n, _ :: xs => congrArg (· + 1) (enumI_len (n + 1) xs)
theorem enumI_get {α : Type} : ∀ {n i : Nat} {xs : List α} {q : Int × α}, (enumI n xs)[i]? = some q → q.1 = ((n + i : Nat) : Int) ∧ xs[i]? = some q.2
  | _, _, [], _, h => by simp [enumI] at h
  | n, 0, x :: xs, q, h => by
    obtain rfl : ((n : Int), x) = q := by simpa [enumI] using h
    exact ⟨rfl, rfl⟩
  | n, i + 1, x :: xs, q, h => by
    obtain ⟨h1, h2⟩ := enumI_get (n := n + 1) (i := i) (xs := xs) (q := q) (by simpa [enumI] using h)
    refine ⟨h1.trans ?_, h2⟩
    congr 1
    omega
section
variable {K : Fg} {M : Fr} {σ : St} {B : Hp} {L L1 L2 L' : List Cell} {α β γ δ : Type} {r : Rep α} {te : TE}
theorem ei_enumT {xs : List α} (h : EV K M te σ B L (rTup r) xs L') : EI K M (L3G.iEnumT K (tCons te tNil)) σ B L (rT2 rInt r) (enumI 0 xs) L' := fun B1 H e w R q => h B1 H e w _ fun v B2 H2 e2 w2 hv => by
  obtain ⟨p, vs, rfl, hs, hp⟩ := hv
  refine ⟨p, vs, rfl, ex_t w2.b hs, q _ B2 H2 e2 w2 ⟨fun i a B' L' H' e' w' hi => ?_, fun B' L' H' e' w' => ⟨vs, ex_t (e'.trans w'.b) hs, by rw [enumI_len, paired_len hp]; exact Nat.le_refl _⟩⟩⟩
  obtain ⟨h1, h2⟩ := enumI_get hi
  obtain ⟨x, hx, hr⟩ := paired_get hp h2
  refine ⟨⟨vs, x, ex_t (e'.trans w'.b) hs, hx⟩, fun y H3 hy => ?_⟩
  obtain ⟨T, z, rfl, hT, rfl, hy⟩ := hy
  have := hy vs (ex_t (e'.trans w'.b) hs)
  rw [hx] at this
  cases this
  have eN := Ex.new (o := HO.tup [.int (i : Nat), x]) (fresh_back w'.b hT)
  exact ⟨upd B' T _, eN, w'.ext hT, ⟨T, _, _, rfl, st_of upd_same, by rw [h1]; show V.int _ = V.int _; congr 1; simp, r.mono (e'.trans eN) hr⟩⟩
theorem ei_enumL {xs : List α} (h : EV K M te σ B L (rLst r) xs L') : EI K M (iEnum K (tCons te tNil)) σ B L (rT2 rInt r) (enumI 0 xs) L' := fun B1 H e w R q => h B1 H e w _ fun v B2 H2 e2 w2 hv => by
  obtain ⟨p, vs, rfl, hs, hp⟩ := hv
  refine ⟨p, vs, rfl, ex_l w2.b hs, q _ B2 H2 e2 w2 ⟨fun i a B' L' H' e' w' hi => ?_, fun B' L' H' e' w' => ⟨vs, ex_l (e'.trans w'.b) hs, by rw [enumI_len, paired_len hp]; exact Nat.le_refl _⟩⟩⟩
  obtain ⟨h1, h2⟩ := enumI_get hi
  obtain ⟨x, hx, hr⟩ := paired_get hp h2
  refine ⟨⟨vs, x, ex_l (e'.trans w'.b) hs, hx⟩, fun y H3 hy => ?_⟩
  obtain ⟨T, z, rfl, hT, rfl, hy⟩ := hy
  have := hy vs (ex_l (e'.trans w'.b) hs)
  rw [hx] at this
  cases this
  have eN := Ex.new (o := HO.tup [.int (i : Nat), x]) (fresh_back w'.b hT)
  exact ⟨upd B' T _, eN, w'.ext hT, ⟨T, _, _, rfl, st_of upd_same, by rw [h1]; show V.int _ = V.int _; congr 1; simp, r.mono (e'.trans eN) hr⟩⟩
end
end L3

/-! a tuple backwards -/
namespace L3G
open PySem PySem.Spec PyProof.Rows L2 HT
section
variable {prog : Program} {w : World} {A : Around} {E : Value → Shared → Prop} {s : Shared}
theorem adjust_back (n : Nat) : Builtin.Slice.sliceAdjust none none (-1) (n : Int) = ((n : Int) - 1, -1) := by
  unfold Builtin.Slice.sliceAdjust
  simp
theorem places_back (n : Nat) : Builtin.Slice.slicePlaces ((n : Int) - 1) (-1) (-1) = n := by
  unfold Builtin.Slice.slicePlaces
  simp
  omega
theorem fm_some {α β : Type} {f : α → Option β} {g : α → β} : ∀ {l : List α}, (∀ m ∈ l, f m = some (g m)) → l.filterMap f = l.map g
  | [], _ => rfl
  | x :: l, h => by
    rw [List.filterMap_cons, h x List.mem_cons_self, List.map_cons, fm_some fun m hm => h m (List.mem_cons_of_mem _ hm)]
theorem pick_back (xs : Array Value) : ((List.range xs.size).filterMap fun (m : Nat) => xs[(((xs.size : Int) - 1) + (m : Int) * (-1)).toNat]?).toArray = xs.toList.reverse.toArray := by
  congr 1
  have e : ∀ m ∈ List.range xs.size, xs[(((xs.size : Int) - 1) + (m : Int) * (-1)).toNat]? = some ((xs.toList.reverse).getD m .none) := fun m hm => by
    have hm := List.mem_range.mp hm
    have e1 : (((xs.size : Int) - 1) + (m : Int) * (-1)).toNat = xs.size - 1 - m := by omega
    rw [e1, List.getD_eq_getElem?_getD, List.getElem?_reverse (by simpa using hm), Array.length_toList, Array.getElem?_toList]
    cases q : xs[xs.size - 1 - m]? with
    | none => have := Array.getElem?_eq_none_iff.mp q; omega
    | some v => rfl
  rw [fm_some e]
  refine List.ext_getElem? fun i => ?_
  rw [List.getElem?_map]
  by_cases hi : i < xs.size
  · rw [List.getElem?_range hi]
    have hl : i < xs.toList.reverse.length := by simpa using hi
    simp only [Option.map_some]
    rw [List.getD_eq_getElem?_getD, List.getElem?_eq_getElem hl]
    rfl
  · rw [List.getElem?_eq_none (by simpa using hi), List.getElem?_eq_none (by simpa using hi)]
    rfl
theorem sliceApplied_back {sl : Addr} {n : Nat} {vs : Value} {Q : Int × Int × Nat → Shared → Prop} (hs : s.heap.IsSliceOf sl .none .none vs) (pv : IsPart vs (some (-1)))
    (h : Q ((n : Int) - 1, -1, n) s) : wpAny (model prog w) A (Builtin.Slice.sliceApplied (.ref sl) (pure (n : Int))) Q E s := by
  obtain ⟨os, hos, hcs, hds⟩ := id hs
  unfold Builtin.Slice.sliceApplied Builtin.Slice.sliceFields
  refine wpAny_bind (wpAny_bind (wpAny_field hos hds (x := .none) rfl (wpAny_bind (wpAny_field hos hds (x := .none) rfl (wpAny_bind (wpAny_field hos hds (x := vs) rfl (wpAny_pure ?_)))))))
  refine wpAny_bind (slicePart_ pv ?_)
  show wpAny _ _ (if ((-1 : Int) == 0) = true then _ else _) _ _ s
  rw [if_neg (by decide)]
  refine wpAny_bind (slicePart_ (o := none) .none (wpAny_bind (slicePart_ (o := none) .none (wpAny_bind (wpAny_pure ?_)))))
  show wpAny _ _ (match Builtin.Slice.sliceAdjust none none (-1) (n : Int) with | (lo, hi) => pure (lo, (-1 : Int), Builtin.Slice.slicePlaces lo hi (-1))) _ _ s
  rw [adjust_back]
  show wpAny _ _ (pure ((n : Int) - 1, (-1 : Int), Builtin.Slice.slicePlaces ((n : Int) - 1) (-1) (-1))) _ _ s
  rw [places_back]
  exact wpAny_pure h
theorem getItem_tuple_back {t sl : Addr} {items : Array Value} {vs : Value} {Q : Value → Shared → Prop} (ht : IsTup s.heap t items) (hs : s.heap.IsSliceOf sl .none .none vs) (pv : IsPart vs (some (-1)))
    (h : Q (.ref s.heap.objs.size) { s with heap := s.heap.push { cls := .type "tuple", data := .seq items.toList.reverse.toArray } })
    (hsz : items.size ≤ sizeLine) : wpAny (model prog w) A (getItem (.ref t) (.ref sl)) Q E s := by
  have htake : sizeOk (.seq items.toList.reverse.toArray) := by
    show items.toList.reverse.toArray.size ≤ sizeLine
    rw [List.size_toArray, List.length_reverse, Array.length_toList]
    exact hsz
  obtain ⟨os, hos, hcs, hds⟩ := id hs
  have hTs : s.TypeIs (.ref sl) "slice" := ⟨os, hos, hcs⟩
  unfold getItem
  try with_reducible refine wpAny_holding ?_
  first | refine wpAny_bind (wpAny_pure ?_) | skip
  refine wpAny_bind (wpAny_sequenceKey ht.typeIs (by decide) ?_)
  refine wpAny_bind (wpAny_callSpecial?_slot (name := Str.ofString "__getitem__") ht.typeIs PyProof.Rows.slot_tuple_getitem
    (wpAny_call_entry PyProof.Rows.slot_tuple_getitem ht.typeIs PyProof.Rows.entry_tuple_getitem ?_ (PyProof.Rows.args_tuple_getitem _ _)))
  show wpAny _ _ (Builtin.Tuple.tupleItemsOf (.ref t) >>= _) _ _ s
  refine wpAny_bind (tupleItemsOf_ ht ?_)
  refine wpAny_bind (wpAny_typeOf hTs ?_)
  rw [if_pos (by decide)]
  refine wpAny_bind (sliceApplied_back hs pv ?_)
  have hno : ¬ ((((items.size : Int) - 1) == 0 && (-1 : Int) == 1 && items.size == items.size) = true) := by
    intro q
    rw [Bool.and_eq_true, Bool.and_eq_true] at q
    exact absurd q.1.2 (by decide)
  show wpAny _ _ (if (((items.size : Int) - 1) == 0 && (-1 : Int) == 1 && items.size == items.size) = true then _ else _) _ _ s
  rw [if_neg hno, pick_back]
  first
    | exact wpAny_bind (m := Builtin.Tuple.tupleExact _) (wpAny_newObj_type (wpAny_pure ⟨_, rfl, wpAny_pure h⟩) htake)
    | exact wpAny_bind (m := Builtin.Tuple.tupleExact _) (wpAny_newObj_type (wpAny_bind (wpAny_pure (wpAny_pure ⟨_, rfl, wpAny_pure h⟩))) htake)
    | exact wpAny_bind (wpAny_bind (m := Builtin.Tuple.tupleExact _) (wpAny_newObj_type (wpAny_pure (wpAny_pure ⟨_, rfl, wpAny_pure h⟩)) htake))
    | exact wpAny_bind (wpAny_bind (m := Builtin.Tuple.tupleExact _) (wpAny_newObj_type (wpAny_pure ⟨_, rfl, wpAny_pure h⟩) htake))
end
def tRevT (K : PySem.W.Frag) (te : TE) : TE := fun σ H Q => te σ H fun x H1 => ∃ a xs, x = .ref a ∧ SqT K H1 a xs ∧ ∀ p, H1 p = none → Q (.ref p) (upd H1 p (.tup xs.reverse))
theorem pe_revT {X : Cx} {e : Expr} {te : TE} {k : Nat} {p1 p2 p3 pos : Pos} (he : PE X e te) : PE X (.Subscript e (.Slice none none (some (.UnaryOp .USub (.Constant (.int 1) k p1) p2)) p3) pos) (tRevT X.K te) := by
  refine ⟨fun pins s σ H Q I h => ?_⟩
  refine Subscript_ (thn (he.run pins s σ H _ I h) fun v s1 ⟨x, H1, I1, r1, q1⟩ => ?_)
  obtain ⟨a, xs, ex, hx, q⟩ := q1
  subst ex
  cases r1
  have hst : PO X (some (.UnaryOp .USub (.Constant (.int 1) k p1) p2)) (tPart (tUn (rU fun i => .int (-i)) (tC (.int 1)))) := po_some (pe_un un_neg pe_int)
  refine wpAny_Slice ?_
  rw [evalPart_none]
  refine wpAny_pure ?_
  refine wpAny_pure ?_
  refine thn (hst.run pins s1 σ H1 (fun o H4 => o = some (-1) ∧ H4 = H1) I1 ⟨1, rfl, -1, rfl, rfl, rfl⟩) fun vs s4 ⟨o, H4, I4, ps, eo, e4⟩ => ?_
  subst eo e4
  have I5 : Inv X pins σ H4 { s4 with heap := s4.heap.push { cls := .type "slice", data := .fields #[.none, .none, vs] } } := I4.kept (t' := s4.toks) fun b ob q => Heap.get?_push_of_some _ q
  obtain ⟨its, r, ht, hz⟩ := I5.tuple hx
  have hlen := r.length
  show wpAny (model X.prog X.w) X.A (subscriptTail e (.Slice none none (some (.UnaryOp .USub (.Constant (.int 1) k p1) p2)) p3) (.ref a) (.ref s4.heap.objs.size)) (EP X pins σ Q) X.xe { s4 with heap := s4.heap.push { cls := .type "slice", data := .fields #[.none, .none, vs] } }
  refine tail_any (ops := [.ref a, .ref s4.heap.objs.size]) ht.typeIs (PyProof.Rows.slot_tuple_getitem.lookup) ?_ (by with_unfolding_all rfl)
  refine getItem_tuple_back ht (Heap.IsSliceOf.new _ .none .none vs) ps ?_ (by rw [List.size_toArray]; omega)
  refine ⟨.ref _, _, I5.laid (t' := s4.toks) (o := .tup xs.reverse) (fun b ob q => Heap.get?_push_of_some _ q) (Nat.le_refl _) ?_, rfl, q _ (I5.hok.fresh (Nat.le_refl _))⟩
  exact ⟨by rw [List.length_reverse]; exact hz, _, r.reverse, IsTup.new _ _⟩
end L3G
namespace L3
open PySem L2
open Evl (Ex ex_rd ex_l ex_t sq_of st_of fresh_back)

/-! ### comprehensions -/
def compM {S α β : Type} (f : S → α → Option (Option β × S)) : S → List α → Option (List β × S)
  | s, [] => some ([], s)
  | s, x :: xs => match f s x with
    | some (o, s') => (match compM f s' xs with
      | some (ys, s2) => some (o.toList ++ ys, s2)
      | none => none)
    | none => none
section
variable {K : Fg} {M : Fr} {σ : St} {B : Hp} {L L1 L2 L' : List Cell} {α β γ δ : Type} {r : Rep α} {s : Rep β} {t : Rep γ} {ta tb tc te : TE} {tt tu : TT} {tA : TA} {i j k : Int} {b c : Bool} {wi : TI} {g : TG}
theorem compM_len {S : Type} {f : S → α → Option (Option β × S)} : ∀ {xs : List α} {s0 s1 : S} {ys : List β}, compM f s0 xs = some (ys, s1) → ys.length ≤ xs.length
  | [], _, _, _, h => by obtain ⟨rfl, _⟩ := Prod.mk.inj (Option.some.inj h); exact Nat.le_refl _
  | x :: xs, s0, s1, ys, h => by
    unfold compM at h
    cases e : f s0 x with
    | none => rw [e] at h; cases h
    | some q =>
      obtain ⟨o, s'⟩ := q
      rw [e] at h
      dsimp only at h
      cases e2 : compM f s' xs with
      | none => rw [e2] at h; cases h
      | some q2 =>
        obtain ⟨zs, s2⟩ := q2
        rw [e2] at h
        obtain ⟨rfl, _⟩ := Prod.mk.inj (Option.some.inj h)
        have := compM_len e2
        cases o <;> simp <;> omega
theorem lc_yes {PY : VK} {PN : Hp → Prop} {H : Hp} (h : te σ H PY) : tYes σ H fun b H3 => if b = true then te σ H3 PY else PN H3 := by
  show (if true = true then te σ H PY else PN H)
  rw [if_pos rfl]
  exact h
theorem lc_if {b : Bool} {X Y : Prop} (h1 : b = true → X) (h2 : b = false → Y) : if b = true then X else Y := by
  cases b with
  | true => rw [if_pos rfl]; exact h1 rfl
  | false => rw [if_neg Bool.false_ne_true]; exact h2 rfl
theorem el_lc {S : Type} {vs : List Nat} {σ' : St} {xs : List α} {ys : List β} {s0 s1 : S} (s : Rep β) (hi : EI K M wi σ B L r xs L1) (f : S → α → Option (Option β × S)) (Lf : S → List Cell) (hL : Lf s0 = L1) (hm : compM f s0 xs = some (ys, s1)) (hr : room xs.length = some ()) (hw : wipe σ vs = σ')
    (hs : ∀ st x o st' v D acc B' H', f st x = some (o, st') → Ex B B' → Own K B' M (⟨D, cLst s, acc⟩ :: Lf st) H' → r.is K B' v x → ∀ (PY : VK) (PN : Hp → Prop),
      (∀ y B2 H2 b, o = some b → Ex B' B2 → Own K B2 M (⟨D, cLst s, acc⟩ :: Lf st') H2 → s.is K B2 y b → PY y H2) → (∀ B2 H2, o = none → Ex B' B2 → Own K B2 M (⟨D, cLst s, acc⟩ :: Lf st') H2 → PN H2) →
      g v σ' H' fun σ2 H2 => wipe σ2 vs = σ' ∧ tt σ2 H2 fun b H3 => if b = true then te σ2 H3 PY else PN H3) :
    EVL K M (tLc wi g tt te vs) σ B L s ys (Lf s1) := fun B1 H e w Q q => by
  refine hi B1 H e w _ fun J B2 H2 e2 w2 wk => ?_
  intro D hD
  subst hL
  subst hw
  have w3 : Own K B2 M (⟨D, cLst s, []⟩ :: Lf s0) (upd H2 D (.lst [])) := w2.new hD ⟨[], rfl, .nil⟩
  refine ⟨fun i m H' => m = xs.length - i ∧ i ≤ xs.length ∧ ∃ st acc B', Ex B2 B' ∧ Own K B' M (⟨D, cLst s, acc⟩ :: Lf st) H' ∧ acc.length ≤ i ∧ ∃ zs, compM f st (xs.drop i) = some (zs, s1) ∧ acc ++ zs = ys,
    ⟨_, rfl, Nat.zero_le _, s0, [], B2, Ex.refl _, w3, Nat.zero_le _, ys, hm, rfl⟩, ?_⟩
  rintro i m H' ⟨rfl, hil, st, acc, B', eb, w', hacc, zs, hz, hzs⟩
  by_cases hl : i = xs.length
  · subst hl
    rw [List.drop_length] at hz
    obtain ⟨rfl, rfl⟩ := Prod.mk.inj (Option.some.inj hz)
    rw [List.append_nil] at hzs
    subst hzs
    exact .inl ⟨wk.stop B' _ H' eb w', q D B' H' (e2.trans eb) w'⟩
  · have hlt : i < xs.length := by omega
    rw [List.drop_eq_getElem_cons hlt] at hz
    have hx : xs[i]? = some xs[i] := List.getElem?_eq_getElem hlt
    obtain ⟨g1, g2⟩ := wk.go i xs[i] B' _ H' eb w' hx
    unfold compM at hz
    cases hf : f st xs[i] with
    | none => rw [hf] at hz; cases hz
    | some q2 =>
      obtain ⟨o, st'⟩ := q2
      rw [hf] at hz
      dsimp only at hz
      cases hc : compM f st' (xs.drop (i + 1)) with
      | none => rw [hc] at hz; cases hz
      | some q3 =>
        obtain ⟨zs', s2⟩ := q3
        rw [hc] at hz
        obtain ⟨rfl, rfl⟩ := Prod.mk.inj (Option.some.inj hz)
        refine .inr ⟨g1, fun H5 => i + 1 ≤ xs.length ∧ ∃ st acc B', Ex B2 B' ∧ Own K B' M (⟨D, cLst s, acc⟩ :: Lf st) H5 ∧ acc.length ≤ i + 1 ∧ ∃ zs, compM f st (xs.drop (i + 1)) = some (zs, s2) ∧ acc ++ zs = ys, fun H5 h5 => ⟨xs.length - (i + 1), by omega, rfl, h5⟩, fun x H4 hy => ?_⟩
        obtain ⟨B4, e4, w4, hrx⟩ := g2 x H4 hy
        have hb := (e.trans e2).trans (eb.trans e4)
        refine hs st xs[i] o st' x D acc B4 H4 hf hb w4 hrx (fun y H6 => ∃ acc', H6 D = some (.lst acc') ∧ acc'.length < sizeLine ∧ (fun H5 => i + 1 ≤ xs.length ∧ ∃ st acc B', Ex B2 B' ∧ Own K B' M (⟨D, cLst s, acc⟩ :: Lf st) H5 ∧ acc.length ≤ i + 1 ∧ ∃ zs, compM f st (xs.drop (i + 1)) = some (zs, s2) ∧ acc ++ zs = ys) (upd H6 D (.lst (acc' ++ [y])))) _ (fun y B5 H5 b' ho e5 w5 hyb => ?_) fun B5 H5 ho e5 w5 => ?_
        · subst ho
          obtain ⟨⟨o', a1, vs', a2, a3⟩, _⟩ := w5.at (i := 0) rfl
          have a1 : H5 D = some o' := a1
          refine ⟨vs', by rw [a1, a2], ?_, hlt, st', acc ++ [b'], B5, (eb.trans e4).trans e5, w5.set (i := 0) rfl (c' := cLst s) ⟨_, rfl, paired_app a3 (.cons hyb .nil)⟩, by simp; omega, zs', hc, by simpa using hzs⟩
          have hq := room_some hr
          have := paired_len a3
          have : vs'.length = acc.length := this
          omega
        · subst ho
          exact ⟨hlt, st', acc, B5, (eb.trans e4).trans e5, w5, by omega, zs', hc, by simpa using hzs⟩
/-! ### tuple(..), list(..) -/
theorem ev_tupOfL {xs : List α} (h : EV K M te σ B L (rLst r) xs L') : EV K M (tCB (fun xs H Q => ∃ p ys, xs = [.ref p] ∧ ((SqL K H p ys ∧ ∀ l, H l = none → Q (.ref l) (upd H l (.tup ys))) ∨ (SqT K H p ys ∧ Q (.ref p) H))) (tCons te tNil)) σ B L (rTup r) xs L' := fun B1 H e w Q q =>
  h B1 H e w _ fun v B2 H2 e2 w2 hv => by
    obtain ⟨p, vs, rfl, hs, hp⟩ := hv
    refine ⟨p, vs, rfl, .inl ⟨ex_l w2.b hs, fun l hl => ?_⟩⟩
    have eN := Ex.new (o := HO.tup vs) (fresh_back w2.b hl)
    exact q _ (upd B2 l _) _ (e2.trans eN) (w2.ext hl) ⟨l, vs, rfl, st_of upd_same, paired_mono eN hp⟩
theorem ev_tupOfT {xs : List α} (h : EV K M te σ B L (rTup r) xs L') : EV K M (tCB (fun xs H Q => ∃ p ys, xs = [.ref p] ∧ ((SqL K H p ys ∧ ∀ l, H l = none → Q (.ref l) (upd H l (.tup ys))) ∨ (SqT K H p ys ∧ Q (.ref p) H))) (tCons te tNil)) σ B L (rTup r) xs L' := fun B1 H e w Q q =>
  h B1 H e w _ fun v B2 H2 e2 w2 hv => by
    obtain ⟨p, vs, rfl, hs, hp⟩ := hv
    exact ⟨p, vs, rfl, .inr ⟨ex_t w2.b hs, q _ B2 H2 e2 w2 ⟨p, vs, rfl, hs, hp⟩⟩⟩
theorem el_listOf {xs : List α} (h : EV K M te σ B L (rSeq r) xs L') : EVL K M (tCB (fun xs H Q => ∃ p ys, xs = [.ref p] ∧ (SqL K H p ys ∨ SqT K H p ys) ∧ ∀ l, H l = none → Q (.ref l) (upd H l (.lst ys))) (tCons te tNil)) σ B L r xs L' := fun B1 H e w Q q =>
  h B1 H e w _ fun v B2 H2 e2 w2 hv => by
    obtain ⟨p, vs, rfl, hs, hp⟩ := hv
    exact ⟨p, vs, rfl, hs.imp (ex_l w2.b) (ex_t w2.b), fun l hl => q l B2 _ e2 (w2.new hl ⟨vs, rfl, hp⟩)⟩
theorem el_listOfC {n : Nat} {p : Addr} {xs : List α} (h : EV K M te σ B L rRef p L') (hc : L'[n]? = some ⟨p, cLst r, xs⟩) : EVL K M (tCB (fun xs H Q => ∃ p ys, xs = [.ref p] ∧ (SqL K H p ys ∨ SqT K H p ys) ∧ ∀ l, H l = none → Q (.ref l) (upd H l (.lst ys))) (tCons te tNil)) σ B L r xs L' := fun B1 H e w Q q =>
  h B1 H e w _ fun v B2 H2 e2 w2 hv => by
    have hv : v = .ref p := hv
    subst hv
    obtain ⟨⟨o, h1, vs, h2, hp⟩, _⟩ := w2.at hc
    have h1 : H2 p = some o := h1
    exact ⟨p, vs, rfl, .inl (sq_of (by rw [h1, h2])), fun l hl => q l B2 _ e2 (w2.new hl ⟨vs, rfl, hp⟩)⟩
theorem ev_tupOfC {n : Nat} {p : Addr} {xs : List α} (h : EV K M te σ B L rRef p L') (hc : L'[n]? = some ⟨p, cLst r, xs⟩) : EV K M (tCB (fun xs H Q => ∃ p ys, xs = [.ref p] ∧ ((SqL K H p ys ∧ ∀ l, H l = none → Q (.ref l) (upd H l (.tup ys))) ∨ (SqT K H p ys ∧ Q (.ref p) H))) (tCons te tNil)) σ B L (rTup r) xs L' := fun B1 H e w Q q =>
  h B1 H e w _ fun v B2 H2 e2 w2 hv => by
    have hv : v = .ref p := hv
    subst hv
    obtain ⟨⟨o, h1, vs, h2, hp⟩, _⟩ := w2.at hc
    have h1 : H2 p = some o := h1
    refine ⟨p, vs, rfl, .inl ⟨sq_of (by rw [h1, h2]), fun l hl => ?_⟩⟩
    have eN := Ex.new (o := HO.tup vs) (fresh_back w2.b hl)
    exact q _ (upd B2 l _) _ (e2.trans eN) (w2.ext hl) ⟨l, vs, rfl, st_of upd_same, paired_mono eN hp⟩
/-! ### slices -/
def cutL (xs : List α) (lo hi : Option Int) : List α := (xs.drop (HT.sIx xs.length 0 lo)).take (HT.sIx xs.length xs.length hi - HT.sIx xs.length 0 lo)
theorem paired_cut {F : V → α → Prop} {xs : List V} {as : List α} (h : Paired F xs as) (lo hi : Option Int) : Paired F (cutV xs lo hi) (cutL as lo hi) := by
  unfold cutV cutL
  rw [paired_len h]
  exact paired_take _ (paired_drop _ h)
def EO (K : Fg) (M : Fr) (t : TO) (σ : St) (B : Hp) (L : List Cell) (o : Option Int) (L' : List Cell) : Prop :=
  ∀ B1 H, Ex B B1 → Own K B1 M L H → ∀ Q : Option Int → Hp → Prop, (∀ B2 H2, Ex B1 B2 → Own K B2 M L' H2 → Q o H2) → t σ H Q
theorem eo_none : EO K M tNoPart σ B L none L := fun B1 H e w Q q => q B1 H (Ex.refl _) w
theorem eo_some (h : EV K M te σ B L rInt i L') : EO K M (tPart te) σ B L (some i) L' := fun B1 H e w Q q => h B1 H e w _ fun v B2 H2 e2 w2 hv => ⟨i, hv, q B2 H2 e2 w2⟩
theorem cut_all {xs : List α} {lo hi : Option Int} (h1 : HT.sIx xs.length 0 lo = 0) (h2 : HT.sIx xs.length xs.length hi = xs.length) : cutL xs lo hi = xs := by
  unfold cutL
  rw [h1, h2]
  simp
theorem ev_slT {xs : List α} {tl th : TO} {lo hi : Option Int} (h : EV K M te σ B L (rTup r) xs L1) (hl : EO K M tl σ B L1 lo L2) (hh : EO K M th σ B L2 hi L') : EV K M (tSl (rSlA K) te tl th) σ B L (rTup r) (cutL xs lo hi) L' := fun B1 H e w Q q =>
  h B1 H e w _ fun v B2 H2 e2 w2 hv => hl B2 H2 (e.trans e2) w2 _ fun B3 H3 e3 w3 => hh B3 H3 ((e.trans e2).trans e3) w3 _ fun B4 H4 e4 w4 => by
    obtain ⟨p, vs, rfl, hs, hp⟩ := hv
    have e34 := e3.trans e4
    have hp4 := paired_mono e34 hp
    refine ⟨p, vs, rfl, ex_t w4.b (ex_t e34 hs), fun ⟨h1, h2⟩ => ?_, fun _ l hl => ?_⟩
    · refine q _ B4 H4 (e2.trans e34) w4 ⟨p, vs, rfl, ex_t e34 hs, ?_⟩
      rw [paired_len hp] at h1 h2
      rw [cut_all h1 h2]
      exact hp4
    · have eN := Ex.new (o := HO.tup (cutV vs lo hi)) (fresh_back w4.b hl)
      exact q _ (upd B4 l _) _ ((e2.trans e34).trans eN) (w4.ext hl) ⟨l, _, rfl, st_of upd_same, paired_mono eN (paired_cut hp4 lo hi)⟩
theorem el_slL {xs : List α} {tl th : TO} {lo hi : Option Int} (h : EV K M te σ B L (rLst r) xs L1) (hl : EO K M tl σ B L1 lo L2) (hh : EO K M th σ B L2 hi L') : EVL K M (tSl (rSlL K) te tl th) σ B L r (cutL xs lo hi) L' := fun B1 H e w Q q =>
  h B1 H e w _ fun v B2 H2 e2 w2 hv => hl B2 H2 (e.trans e2) w2 _ fun B3 H3 e3 w3 => hh B3 H3 ((e.trans e2).trans e3) w3 _ fun B4 H4 e4 w4 => by
    obtain ⟨p, vs, rfl, hs, hp⟩ := hv
    have e34 := e3.trans e4
    exact ⟨p, vs, rfl, ex_l w4.b (ex_l e34 hs), fun l hl => q l B4 _ (e2.trans e34) (w4.new hl ⟨_, rfl, paired_cut (paired_mono e34 hp) lo hi⟩)⟩
theorem el_revL {xs : List α} (h : EV K M te σ B L (rLst r) xs L') : EVL K M (tRevL K te) σ B L r xs.reverse L' := fun B1 H e w Q q =>
  h B1 H e w _ fun v B2 H2 e2 w2 hv => by
    obtain ⟨p, vs, rfl, hs, hp⟩ := hv
    exact ⟨p, vs, rfl, ex_l w2.b hs, fun l hl => q l B2 _ e2 (w2.new hl ⟨_, rfl, paired_rev hp⟩)⟩
theorem el_revC {n : Nat} {p : Addr} {xs : List α} (h : EV K M te σ B L rRef p L') (hc : L'[n]? = some ⟨p, cLst r, xs⟩) : EVL K M (tRevL K te) σ B L r xs.reverse L' := fun B1 H e w Q q =>
  h B1 H e w _ fun v B2 H2 e2 w2 hv => by
    have hv : v = .ref p := hv
    subst hv
    obtain ⟨⟨o, h1, vs, h2, hp⟩, _⟩ := w2.at hc
    have h1 : H2 p = some o := h1
    exact ⟨p, vs, rfl, sq_of (by rw [h1, h2]), fun l hl => q l B2 _ e2 (w2.new hl ⟨_, rfl, paired_rev hp⟩)⟩
theorem ev_revT {xs : List α} (h : EV K M te σ B L (rTup r) xs L') : EV K M (L3G.tRevT K te) σ B L (rTup r) xs.reverse L' := fun B1 H e w Q q =>
  h B1 H e w _ fun v B2 H2 e2 w2 hv => by
    obtain ⟨p, vs, rfl, hs, hp⟩ := hv
    refine ⟨p, vs, rfl, ex_t w2.b hs, fun l hl => ?_⟩
    have eN := Ex.new (o := HO.tup vs.reverse) (fresh_back w2.b hl)
    exact q _ (upd B2 l _) _ (e2.trans eN) (w2.ext hl) ⟨l, _, rfl, st_of upd_same, paired_mono eN (paired_rev hp)⟩
/-! ### tuples: +, * -/
def catT (xs ys : List α) : Option (List α) := if xs.length + ys.length ≤ 1000000 then some (xs ++ ys) else none
theorem ev_catT {xs ys zs : List α} (h : EV K M ta σ B L (rTup r) xs L1) (h' : EV K M tb σ B L1 (rTup r) ys L2) (hc : catT xs ys = some zs) : EV K M (tOp (rCatA K) ta tb) σ B L (rTup r) zs L2 := fun B1 H e w Q q =>
  h B1 H e w _ fun v B2 H2 e2 w2 hv => h' B2 H2 (e.trans e2) w2 _ fun u B3 H3 e3 w3 hu => by
    obtain ⟨p, vs, rfl, hs, hp⟩ := hv
    obtain ⟨p', us, rfl, hs', hp'⟩ := hu
    unfold catT at hc
    split at hc
    · rename_i hl
      obtain rfl := Option.some.inj hc
      have hp3 := paired_mono e3 hp
      have l1 := paired_len hp
      have l2 := paired_len hp'
      refine ⟨p, p', vs, us, rfl, rfl, ex_t w3.b (ex_t e3 hs), ex_t w3.b hs', Nat.le_trans (by omega) (show 1000000 ≤ sizeLine by decide), fun hz => ?_, fun _ hz => ?_, fun _ _ l hl => ?_⟩
      · subst hz
        have : xs = [] := List.length_eq_zero_iff.mp l1.symm
        subst this
        exact q _ B3 H3 (e2.trans e3) w3 ⟨p', us, rfl, hs', hp'⟩
      · subst hz
        have : ys = [] := List.length_eq_zero_iff.mp l2.symm
        subst this
        exact q _ B3 H3 (e2.trans e3) w3 ⟨p, vs, rfl, ex_t e3 hs, by rw [List.append_nil]; exact hp3⟩
      · have eN := Ex.new (o := HO.tup (vs ++ us)) (fresh_back w3.b hl)
        exact q _ (upd B3 l _) _ ((e2.trans e3).trans eN) (w3.ext hl) ⟨l, _, rfl, st_of upd_same, paired_mono eN (paired_app hp3 hp')⟩
    · cases hc
def repT (xs : List α) (k : Int) : Option (List α) := if xs ≠ [] ∧ 2 ≤ k ∧ k ≤ 1000 ∧ xs.length ≤ 1000 then some (List.replicate k.toNat xs).flatten else none
theorem paired_rep {F : V → α → Prop} {xs : List V} {as : List α} (h : Paired F xs as) : ∀ n : Nat, Paired F (List.replicate n xs).flatten (List.replicate n as).flatten
  | 0 => .nil
  | n + 1 => by
    rw [List.replicate_succ, List.replicate_succ, List.flatten_cons, List.flatten_cons]
    exact paired_app h (paired_rep h n)
theorem ev_repT {xs zs : List α} (h : EV K M ta σ B L (rTup r) xs L1) (h' : EV K M tb σ B L1 rInt k L2) (hc : repT xs k = some zs) : EV K M (tOp (rRepT K) ta tb) σ B L (rTup r) zs L2 := fun B1 H e w Q q =>
  h B1 H e w _ fun v B2 H2 e2 w2 hv => h' B2 H2 (e.trans e2) w2 _ fun u B3 H3 e3 w3 hu => by
    obtain ⟨p, vs, rfl, hs, hp⟩ := hv
    unfold repT at hc
    split at hc
    · rename_i hl
      obtain ⟨l0, l1, l2, l3⟩ := hl
      obtain rfl := Option.some.inj hc
      have hp3 := paired_mono e3 hp
      have ll := paired_len hp
      refine ⟨p, k, vs, rfl, hu, ex_t w3.b (ex_t e3 hs), fun hz => l0 (by subst hz; exact List.length_eq_zero_iff.mp ll.symm), l1, l2, by omega, fun l hl => ?_⟩
      have eN := Ex.new (o := HO.tup (List.replicate k.toNat vs).flatten) (fresh_back w3.b hl)
      exact q _ (upd B3 l _) _ ((e2.trans e3).trans eN) (w3.ext hl) ⟨l, _, rfl, st_of upd_same, paired_mono eN (paired_rep hp3 _)⟩
    · cases hc
/-! ### typed values as data -/
def DQ (r : Rep α) (f : α → PyData) : Prop := ∀ K B v a, r.is K B v a → Dp K B v (f a)
theorem dq_int : DQ rInt PyData.int := dr_int.dp
theorem dq_bool : DQ rBool PyData.bool := dr_bool.dp
theorem dq_non : DQ rNon dNon := dr_non.dp
theorem dq_str : DQ rStr PyData.str := fun _ _ _ a h => by have h : _ = V.str a := h; subst h; exact .str a
theorem dq_dat : DQ rDat id := fun _ _ _ _ h => h
theorem dq_tup {f : α → PyData} (d : DQ r f) : DQ (rTup r) (dTup f) := fun K B v a ⟨p, xs, h1, h2, h3⟩ => by subst h1; exact .tup h2 (dpAll_of (d K B) h3)
theorem dq_lst {f : α → PyData} (d : DQ r f) : DQ (rLst r) (dLst f) := fun K B v a ⟨p, xs, h1, h2, h3⟩ => by subst h1; exact .lst h2 (dpAll_of (d K B) h3)
theorem dq_T2 {f : α → PyData} {g : β → PyData} (d : DQ r f) (e : DQ s g) : DQ (rT2 r s) (dT2 f g) := fun K B v a ⟨p, x, y, h1, h2, h3, h4⟩ => by subst h1; exact .tup h2 (.cons (d _ _ _ _ h3) (.cons (e _ _ _ _ h4) .nil))
theorem dq_T3 {f : α → PyData} {g : β → PyData} {h : γ → PyData} (d : DQ r f) (e : DQ s g) (c : DQ t h) : DQ (rT3 r s t) (dT3 f g h) := fun K B v a ⟨p, x, y, z, h1, h2, h3, h4, h5⟩ => by subst h1; exact .tup h2 (.cons (d _ _ _ _ h3) (.cons (e _ _ _ _ h4) (.cons (c _ _ _ _ h5) .nil)))
theorem dq_opt {f : α → PyData} (d : DQ r f) : DQ (rOpt r) (dOpt f) := fun K B v a h => by
  cases a with
  | none => have h : v = .non := h; subst h; exact .non
  | some a => exact d _ _ _ _ h
theorem ev_dq {f : α → PyData} {a : α} (h : EV K M te σ B L r a L') (D : DQ r f) : EV K M te σ B L rDat (f a) L' := ev_as h fun _ _ h => D _ _ _ _ h
theorem ev_notND {d : PyData} (ha : EV K M ta σ B L rDat d L1) : EV K M (tNotN ta) σ B L rBool (!isNoneD d) L1 := fun B1 H e w Q q =>
  ha B1 H e w _ fun x B2 H2 e2 w2 hx => q _ B2 H2 e2 w2 (by
    show V.bl _ = V.bl _
    congr 1
    have hx : Dp K B2 x d := hx
    cases hx <;> rfl)
end
/-- a slot that may not be set yet -/
def slotIs {α : Type} (r : Rep α) (K : Fg) (B : Hp) (o : Option V) (x : Option α) : Prop := match x with
  | none => True
  | some a => ∃ v, o = some v ∧ r.is K B v a
theorem slot_mono {α : Type} {r : Rep α} {K : Fg} {B B' : Hp} {o : Option V} {x : Option α} (e : Ex B B') (h : slotIs r K B o x) : slotIs r K B' o x := by
  cases x with
  | none => trivial
  | some a => obtain ⟨v, h1, h2⟩ := h; exact ⟨v, h1, r.mono e h2⟩
theorem slot_get {α : Type} {r : Rep α} {K : Fg} {B : Hp} {o : Option V} {x : Option α} {a : α} (h : slotIs r K B o x) (e : x = some a) : ∃ v, o = some v ∧ r.is K B v a := by
  subst e; exact h
end L3

/-! () * k -/
namespace L3G
open PySem PySem.Spec PyProof.Rows L2
theorem tuple_mul0 (l : Addr) (n : Nat) (dd : Option Addr) (sl : Array (Option Value)) (x : Int) (u : Tok) (c0 : (decide (x < -(2 ^ 63)) || decide (x ≥ 2 ^ 63)) = false) :
    Meets (Builtin.«tuple.__mul__» ⟨[.ref l, .int x u], []⟩) (fun _ R s => s.heap.get? l = some { cls := .type "tuple", dict := dd, data := .seq #[] n, slots := sl } ∧
      R (.ok (.ret (Value.ref l))) s) :=
  .of_wp fun prog w A R s h => by
    obtain ⟨hp, g, d, tk, os⟩ := s
    obtain ⟨hl, h⟩ := h
    have f1 := AutoSeq1.idx_int
    wp_walk using wpAny_loadPart' hl
    repeat (first
      | (refine wpAny_ite_false (decide_eq_false (by rw [c0]; exact Bool.false_ne_true)) ?_; wp_walk using wpAny_loadPart' hl)
      | (refine wpAny_ite_true (decide_eq_true (by rfl)) ?_; wp_walk using wpAny_loadPart' hl))
    exact ⟨_, rfl, h⟩
def rRepA (K : PySem.W.Frag) : R2 := fun x y H Q => rRepT K x y H Q ∨ ∃ l k, x = .ref l ∧ y = .int k ∧ SqT K H l [] ∧ 0 ≤ k ∧ k ≤ 1000 ∧ Q (.ref l) H
theorem op_repA {X : Cx} : OpR X (binaryOp .Mult) (rRepA X.K) := by
  intro pins s σ H x y v u Q I rx ry h
  rcases h with h | h
  · exact op_repT pins s σ H x y v u Q I rx ry h
  · obtain ⟨l, k, rfl, rfl, hT, h1, h2, q⟩ := h
    cases rx
    obtain ⟨t, rfl⟩ := ry
    obtain ⟨its, r, ⟨⟨cls, dd, data, sl⟩, ho, hc, n, hd⟩, hs⟩ := I.tuple hT
    simp only at hc hd
    subst hc hd
    cases r
    have c0 : (decide (k < -(2 ^ 63)) || decide (k ≥ 2 ^ 63)) = false := by
      rw [decide_eq_false (by omega), decide_eq_false (by omega)] <;> rfl
    refine wpAny_binaryOp_repeat_ref (T := "tuple") (U := "int") (by decide) ⟨_, ho, rfl⟩ (fun s' => typeIs_int s' k t) noFill_tuple_mul F.fills_int_mul F.slot_int_rmul repeat_tuple F.slot_int_index.lookup
      (call_meets F.slot_int_rmul (typeIs_int s k t) F.entry_int_rmul (F.args_int_rmul_2 _ _) (int_rmul_tuple k t l #[] n dd sl)
        ⟨ho, rfl, ⟨_, ho, rfl⟩, call_meets F.slot_tuple_mul ⟨_, ho, rfl⟩ F.entry_tuple_mul (F.args_tuple_mul_2 _ _) (tuple_mul0 l n dd sl k t c0) ⟨ho, ?_⟩⟩)
    exact ⟨.ref l, H, I, rfl, q⟩
end L3G
namespace L3
open PySem L2
open Evl (Ex ex_rd ex_l ex_t sq_of st_of fresh_back)
section
variable {K : Fg} {M : Fr} {σ : St} {B : Hp} {L L1 L2 L' : List Cell} {α : Type} {r : Rep α} {ta tb : TE} {k : Int}
def repA (xs : List α) (k : Int) : Option (List α) := if 2 ≤ k ∧ k ≤ 1000 ∧ xs.length ≤ 1000 then some (List.replicate k.toNat xs).flatten else none
theorem rep_nil : ∀ n : Nat, (List.replicate n ([] : List α)).flatten = []
  | 0 => rfl
  | n + 1 => by rw [List.replicate_succ, List.flatten_cons, rep_nil n]; rfl
theorem ev_repA {xs zs : List α} (h : EV K M ta σ B L (rTup r) xs L1) (h' : EV K M tb σ B L1 rInt k L2) (hc : repA xs k = some zs) : EV K M (tOp (L3G.rRepA K) ta tb) σ B L (rTup r) zs L2 := fun B1 H e w Q q =>
  h B1 H e w _ fun v B2 H2 e2 w2 hv => h' B2 H2 (e.trans e2) w2 _ fun u B3 H3 e3 w3 hu => by
    obtain ⟨p, vs, rfl, hs, hp⟩ := hv
    unfold repA at hc
    split at hc
    · rename_i hl
      obtain ⟨l1, l2, l3⟩ := hl
      obtain rfl := Option.some.inj hc
      have hp3 := paired_mono e3 hp
      have ll := paired_len hp
      by_cases hn : vs = []
      · subst hn
        have hx : xs = [] := List.length_eq_zero_iff.mp ll.symm
        subst hx
        refine .inr ⟨p, k, rfl, hu, ex_t w3.b (ex_t e3 hs), by omega, l2, ?_⟩
        rw [rep_nil] at q
        exact q _ B3 H3 (e2.trans e3) w3 ⟨p, [], rfl, ex_t e3 hs, .nil⟩
      · refine .inl ⟨p, k, vs, rfl, hu, ex_t w3.b (ex_t e3 hs), hn, l1, l2, by omega, fun l hl => ?_⟩
        have eN := Ex.new (o := HO.tup (List.replicate k.toNat vs).flatten) (fresh_back w3.b hl)
        exact q _ (upd B3 l _) _ ((e2.trans e3).trans eN) (w3.ext hl) ⟨l, _, rfl, st_of upd_same, paired_mono eN (paired_rep hp3 _)⟩
    · cases hc
end
end L3

/-! dicts of ints by ints; sorted(d.items()) -/
namespace L3G
open PySem PySem.Spec PyProof.Rows L2
abbrev encI (kvs : List (Int × Int)) : List (Key × V) := kvs.map fun q => (Sum.inl q.1, V.int q.2)
def rSortI : V → Hp → VK → Prop := fun x H Q => ∃ (d : Addr) (kvs : List (Int × Int)), x = .ref d ∧ H d = some (.dK (encI kvs)) ∧
  ∀ (H' : Hp) (p : Addr) (ts : List Addr) (ys : List (Int × Int)), (∀ b o, H b = some o → H' b = some o) → (∀ t ∈ ts, H t = none) → H' p = none → Paired (fun (t : Addr) (q : Int × Int) => H' t = some (.tup [.int q.1, .int q.2])) ts ys →
    ys.Perm kvs → ys.Pairwise (fun a b => SrtO.lexB b a = false) → Q (.ref p) (upd H' p (.lst (ts.map V.ref)))
def tSortI (te : TE) : TE := fun σ H Q => te σ H fun x H1 => rSortI x H1 Q
def ofH (H : Hp) (v : Value) : Int × Int := match v with
  | .ref a => (match H a with
    | some (.tup [.int x, .int y]) => (x, y)
    | _ => (0, 0))
  | _ => (0, 0)
section
variable {X : Cx} {e : Expr} {te : TE} {p apos cpos pos : Pos}
theorem tups_laid {pins : List (Addr × Obj)} {σ : L2.St} {H : Hp} {s : Shared} {h' : Heap} {tk lo : Nat} {kvs : List (Key × V)} {vs : List (Key × Value)} {as : List Addr} (I : Inv X pins σ H s) (hlo : s.heap.objs.size ≤ lo) (kv : KV kvs vs)
    (hk : ∀ b o, s.heap.get? b = some o → h'.get? b = some o) (hl : as.length = vs.length) (hG : PySem.W.KdxG (mixKind X.prog X.w) vs lo h' as) :
    ∃ H' : Hp, (∀ b o, H b = some o → H' b = some o) ∧ (∀ t ∈ as, H t = none) ∧ Paired (fun (t : Addr) (q : Key × V) => H' t = some (.tup [kV q.1, q.2])) as kvs ∧ Inv X pins σ H' { s with heap := h', toks := tk } := by
  have lk : kvs.length = vs.length := Paired.length kv
  have nd : as.Nodup := List.Pairwise.imp (fun {a b} (h : a < b) => Nat.ne_of_lt h) hG.rise
  have ge : ∀ t ∈ as, s.heap.objs.size ≤ t := fun t ht => Nat.le_trans hlo (Nat.le_of_lt (hG.above t ht))
  have new : ∀ t ∈ as, H t = none := fun t ht => I.hok.fresh (ge t ht)
  have atP := LiI.putT_at as kvs H (by omega) nd
  have off : ∀ b, b ∉ as → LiI.putT H as kvs b = H b := fun b h1 => LiI.putT_off as kvs _ h1
  have low : ∀ b o, s.heap.get? b = some o → b ∉ as := fun b o e z => absurd (Heap.lt_size e) (Nat.not_lt.mpr (ge b z))
  have kp : ∀ b u, H b = some u → (LiI.putT H as kvs) b = some u := fun b u e => by
    rw [off b (fun z => by rw [new b z] at e; cases e)]
    exact e
  refine ⟨LiI.putT H as kvs, kp, new, atP, ?_⟩
  refine I.call' (ch := []) rfl ⟨fun b o q _ _ _ => hk b o q, fun b o q _ _ _ => ⟨o.slots, hk b o q⟩, fun b o q n _ => ?_, fun b o q _ => ⟨o, hk b o q⟩, fun b xs q => kp b _ q, fun b o u q => kp b _ q, fun b ps q => ⟨#[], by rw [kp b _ q]; simp⟩⟩ (fun b u q => ?_) I.bare fun b z => by simp at z
  · rw [off b (low b o q)]
    exact n
  · by_cases hb : b ∈ as
    · obtain ⟨j, pk, e1, e2, e3⟩ := LiI.paired_ix atP hb
      rw [e3] at q
      cases q
      obtain ⟨key, k, x, f1, f2, f3⟩ := hG.pairs j b e1
      obtain ⟨qv, g1, g2, g3⟩ := LiI.paired_get kv e2
      rw [f1] at g1
      cases g1
      have rk : RelV (kV pk.1) key := by
        rw [g2]
        exact relV_key (show keyIs k key = true from f2)
      exact ⟨by show 2 ≤ sizeLine; decide, [key, x], .cons rk (.cons g3 .nil), ⟨_, f3, rfl, _, rfl⟩⟩
    · rw [off b hb] at q
      exact (I.hok b u q).stay (fun d v _ y => hk d v y) (fun d y => kp d _ y) fun d xs y => kp d _ y
theorem ofH_eq {H : Hp} {a : Addr} {q : Int × Int} (h : H a = some (.tup [.int q.1, .int q.2])) : ofH H (.ref a) = q := by
  show (match H a with | some (.tup [.int x, .int y]) => (x, y) | _ => (0, 0)) = q
  rw [h]
theorem ofH_is {H : Hp} : ∀ {as : List Addr} {kvs : List (Int × Int)}, Paired (fun (t : Addr) (q : Key × V) => H t = some (.tup [kV q.1, q.2])) as (encI kvs) → (as.map Value.ref).map (ofH H) = kvs
  | [], [], _ => rfl
  | [], _ :: _, h => by cases h
  | _ :: _, [], h => by cases h
  | a :: as, q :: kvs, h => by
    cases h with
    | cons h1 h2 =>
      rw [List.map_cons, List.map_cons, ofH_is h2]
      have h1 : H a = some (.tup [.int q.1, .int q.2]) := h1
      show ofH H (.ref a) :: kvs = _
      rw [ofH_eq h1]
theorem ofH_at {H : Hp} : ∀ {as : List Addr} {kvs : List (Int × Int)}, Paired (fun (t : Addr) (q : Key × V) => H t = some (.tup [kV q.1, q.2])) as (encI kvs) → ∀ {a}, a ∈ as → H a = some (.tup [.int (ofH H (.ref a)).1, .int (ofH H (.ref a)).2])
  | [], _, _, a, h => absurd h (by simp)
  | _ :: _, [], h, _, _ => by cases h
  | b :: as, q :: kvs, h, a, ha => by
    cases h with
    | cons h1 h2 =>
      rcases List.mem_cons.mp ha with e | ha
      · subst e
        have h1 : H a = some (.tup [.int q.1, .int q.2]) := h1
        have e : ofH H (.ref a) = q := ofH_eq h1
        rw [e]; exact h1
      · exact ofH_at h2 ha
theorem paired_self {H : Hp} : ∀ {ts : List Addr}, (∀ t ∈ ts, H t = some (.tup [.int (ofH H (.ref t)).1, .int (ofH H (.ref t)).2])) → Paired (fun (t : Addr) (q : Int × Int) => H t = some (.tup [.int q.1, .int q.2])) ts ((ts.map Value.ref).map (ofH H))
  | [], _ => .nil
  | t :: ts, h => .cons (h t List.mem_cons_self) (paired_self fun u hu => h u (List.mem_cons_of_mem _ hu))
theorem refs_of : ∀ {us : List Value}, (∀ u ∈ us, ∃ a, u = Value.ref a) → ∃ ts : List Addr, us = ts.map Value.ref
  | [], _ => ⟨[], rfl⟩
  | u :: us, h => by
    obtain ⟨a, rfl⟩ := h u List.mem_cons_self
    obtain ⟨ts, rfl⟩ := refs_of fun v hv => h v (List.mem_cons_of_mem _ hv)
    exact ⟨a :: ts, rfl⟩
/-- sorted(e.items()) -/
theorem pe_sortI (hc : X.calm = true) (he : PE X e te) (hg : Gl X "sorted") (hm : X.mg "sorted" = none) (hv : bootBuiltins "sorted" = some (.builtin "sorted")) (hbase : attributeBase e "items" X.env (eval e X.env) = eval e X.env := by rfl) (hline : (apos.endLine == cpos.line) = true := by rfl)
    (hs : starEach [.Call (.Attribute e "items" apos) [] [] cpos] X.env = (false, eval (.Call (.Attribute e "items" apos) [] [] cpos) X.env) :: starEach [] X.env := by rfl) :
    PE X (.Call (.Name "sorted" p) [.Call (.Attribute e "items" apos) [] [] cpos] [] pos) (tSortI te) := by
  refine ⟨fun pins s σ H Q I hq => ?_⟩
  refine wpAny_Call_Name_kw (ld_blt I hg hm hv ?_)
  refine PyProof.Rows.callWith_builtin1 ?_ hs (by rfl)
  rw [hs]
  show wpAny _ _ (spliced ((false, eval (.Call (.Attribute e "items" apos) [] [] cpos) X.env) :: backTo pos (starEach [] X.env))) _ _ s
  refine Calls.spliced_cons ?_
  refine wpAny_Call_method (T := "dict") (id := "dict.items") hbase rfl hline F.plainAttrs_dict F.slot_dict_items F.type_dict_items (thn (he.run pins s σ H _ I hq) fun u s1 ⟨x, H1, I1, rx, d, kvs, ex, hd, q⟩ => ?_)
  subst ex
  obtain rfl : u = Value.ref d := rx
  obtain ⟨hz, hs0, vs, kv, hdo⟩ := I1.hok d _ hd
  obtain ⟨ep, hat⟩ := hdo.dictAt
  have lk : (encI kvs).length = vs.length := Paired.length kv
  have I2 : Inv X pins σ H1 { s1 with heap := s1.heap.push { cls := .type "dict_items", data := .fields #[.ref d] } } := I1.kept (t' := s1.toks) fun b ob q => Heap.get?_push_of_some _ q
  refine ⟨hdo.typeIs, hdo.mapOf.noDict, ?_⟩
  show wpAny _ _ (callWith cpos (.builtin "dict.items") [.ref d] [] []) _ X.xe s1
  refine method_meetsIn F.slot_dict_items F.entry_dict_items rfl (PySem.evalArgs_none ⟨rfl, hdo.typeIs, F.args_dict_items_1 _, _, meets_dict_items (mixKind X.prog X.w) d hs0, ⟨vs, hdo⟩, ?_⟩)
  refine Calls.spliced_nil ?_
  refine Calls.call_function_entry kind_sorted plain_sorted entry_sorted (args_sorted1 _) ?_
  unfold Builtin.«sorted»
  refine wpAny_bind (m := checkCount "sorted" 1 1 _) (wpAny_pure ?_)
  have hh : X.A.in1.handled = none := I1.ok.hd hc
  refine wpAny_bind (PySem.W.kdx_collect (A := X.A.in1) (knd := mixKind X.prog X.w) (kvs := vs) (ep := ep) hh ⟨_, Heap.get?_push_size _ rfl, rfl, rfl⟩ (hat.push _) (by omega) fun h' tk as hk hl hG => ?_)
  obtain ⟨H', k1, k3, k6, J⟩ := tups_laid (tk := tk) I2 (Nat.le_refl _) kv hk hl hG
  have hz2 : (as.map Value.ref).length ≤ sizeLine := by rw [List.length_map, hl]; omega
  refine wpAny_bind (wpAny_newList ?_ hz2)
  have hoL : (h'.push (seqObj "list" (as.map Value.ref).toArray 0)).get? h'.objs.size = some (seqObj "list" (as.map Value.ref).toArray 0) := Heap.get?_push_size _ rfl
  have isP : ∀ v ∈ as.map Value.ref, Srt.IsPair h' v (ofH H' v).1 (ofH H' v).2 := fun v hv => by
    obtain ⟨t, ht, rfl⟩ := List.mem_map.mp hv
    have ha := ofH_at k6 ht
    obtain ⟨_, its2, r2, o, ho, hc, n, hd⟩ := J.hok _ _ ha
    obtain ⟨u1, u2, rfl, ri, rj⟩ := vals2 r2
    obtain ⟨t1, rfl⟩ := ri
    obtain ⟨t2, rfl⟩ := rj
    exact ⟨t, o, t1, t2, n, rfl, ho, hc, hd⟩
  refine wpAny_bind (wpAny_holding (wpAny_call_entry slot_list_sort ⟨_, hoL, rfl⟩ entry_list_sort (SrtO.list_sort_ord (n := 0) (SrtO.swo_lex (ofH H')) hoL hz2 (fun h2 => SrtO.pairs_sortableO (by omega) (fun v hm => (isP v hm).keeps fun b o e _ => Heap.get?_push_of_some _ e) fun o e => ?_) fun out hs hb => ⟨_, rfl, ?_⟩) (args_list_sort _)))
  · have e' : some o = some (seqObj "list" (as.map Value.ref).toArray 0) := e.symm.trans hoL
    cases e'
    intro c
    exact absurd (Value.type.inj c) (by decide)
  · refine wpAny_pure ⟨_, rfl, ?_⟩
    obtain ⟨ts, rfl⟩ := refs_of (us := out) fun u hu => by
      obtain ⟨t, _, e⟩ := List.mem_map.mp (hb.perm.mem_iff.mp hu)
      exact ⟨t, e.symm⟩
    have mem : ∀ t ∈ ts, t ∈ as := fun t ht => by
      obtain ⟨t', h1, h2⟩ := List.mem_map.mp (hb.perm.mem_iff.mp (List.mem_map.mpr ⟨t, ht, rfl⟩))
      cases h2
      exact h1
    have hl2 := hb.perm.length_eq
    have e1 := ofH_is k6
    obtain ⟨n, hn⟩ := sortedHeap_at (out := (ts.map Value.ref).toArray) hoL
    have old : ∀ b o, h'.get? b = some o → (sortedHeap (h'.push (seqObj "list" (as.map Value.ref).toArray 0)) h'.objs.size (as.map Value.ref) (ts.map Value.ref).toArray).get? b = some o := fun b o e => by
      have := Heap.lt_size e
      rw [sortedHeap_old (Nat.ne_of_lt this) (by rw [size_push']; exact Nat.lt_succ_of_lt this)]
      exact Heap.get?_push_of_some _ e
    refine ⟨.ref h'.objs.size, _, J.laid (a := h'.objs.size) (o := .lst (ts.map V.ref)) (t' := tk) old (Nat.le_refl _) ?_, rfl, q H' h'.objs.size ts ((ts.map Value.ref).map (ofH H')) k1 (fun t ht => k3 t (mem t ht)) (J.hok.fresh (Nat.le_refl _)) (paired_self fun t ht => ofH_at k6 (mem t ht)) ?_ ?_⟩
    · refine ⟨by rw [List.length_map]; rw [List.length_map] at hl2; rw [hl2]; exact hz2, ts.map Value.ref, n, LiI.vals_refs ts, hn⟩
    · rw [← e1]
      exact hb.perm.map _
    · exact SrtO.srtd_map (lt := SrtO.lexB) hs
end
end L3G
namespace L3
open PySem L2
open Evl (Ex ex_rd ex_l ex_t sq_of st_of fresh_back)

/-! ### dicts of ints by ints -/
def putI : List (Int × Int) → Int → Int → List (Int × Int)
  | [], k, v => [(k, v)]
  | q :: kvs, k, v => if q.1 = k then (q.1, v) :: kvs.map (fun q => if q.1 = k then (q.1, v) else q) else q :: putI kvs k v
def leI (a b : Int × Int) : Bool := !SrtO.lexB b a
def sortI (l : List (Int × Int)) : List (Int × Int) := l.mergeSort leI
def cDk : CRep (List (Int × Int)) := ⟨fun _ _ o a => o = .dK (L3G.encI a), fun _ h => h⟩
theorem putI_cons_ne {q : Int × Int} {kvs : List (Int × Int)} {k v : Int} (h : q.1 ≠ k) : putI (q :: kvs) k v = q :: putI kvs k v := by
  show (if q.1 = k then _ else _) = _
  rw [if_neg h]
theorem enc_map (k v : Int) : ∀ kvs : List (Int × Int), (L3G.encI kvs).map (fun kv => if kv.1 = (Sum.inl k : Key) then (kv.1, V.int v) else kv) = L3G.encI (kvs.map fun q => if q.1 = k then (q.1, v) else q)
  | [] => rfl
  | q :: kvs => by
    have ih := enc_map k v kvs
    by_cases h : q.1 = k
    · show (if (Sum.inl q.1 : Key) = Sum.inl k then _ else _) :: (L3G.encI kvs).map _ = L3G.encI ((if q.1 = k then (q.1, v) else q) :: _)
      rw [ih, if_pos (by rw [h]), if_pos h]; rfl
    · show (if (Sum.inl q.1 : Key) = Sum.inl k then _ else _) :: (L3G.encI kvs).map _ = L3G.encI ((if q.1 = k then (q.1, v) else q) :: _)
      rw [ih, if_neg (fun z => h (Sum.inl.inj z)), if_neg h]; rfl
theorem enc_put (k v : Int) : ∀ kvs : List (Int × Int), putK (L3G.encI kvs) (Sum.inl k) (V.int v) = L3G.encI (putI kvs k v)
  | [] => rfl
  | q :: kvs => by
    by_cases h : q.1 = k
    · have e1 : ((L3G.encI (q :: kvs)).any fun kv => decide (kv.1 = (Sum.inl k : Key))) = true := by
        show (decide ((Sum.inl q.1 : Key) = Sum.inl k) || _) = true
        rw [h, decide_eq_true rfl, Bool.true_or]
      unfold putK
      rw [if_pos e1, enc_map]
      unfold putI
      rw [if_pos h, List.map_cons, if_pos h]
    · have ne : ¬ (Sum.inl q.1 : Key) = Sum.inl k := fun z => h (Sum.inl.inj z)
      have ih := enc_put k v kvs
      rw [putI_cons_ne h]
      unfold putK at ih ⊢
      have e0 : ((L3G.encI (q :: kvs)).any fun kv => decide (kv.1 = (Sum.inl k : Key))) = ((L3G.encI kvs).any fun kv => decide (kv.1 = (Sum.inl k : Key))) := by
        show (decide ((Sum.inl q.1 : Key) = Sum.inl k) || _) = _
        rw [decide_eq_false ne, Bool.false_or]
      rw [e0]
      by_cases ha : ((L3G.encI kvs).any fun kv => decide (kv.1 = (Sum.inl k : Key))) = true
      · rw [if_pos ha] at ih ⊢
        show (if (Sum.inl q.1 : Key) = Sum.inl k then _ else _) :: (L3G.encI kvs).map _ = _
        rw [if_neg ne, ih]
        rfl
      · rw [if_neg ha] at ih ⊢
        show _ :: (L3G.encI kvs ++ _) = _
        rw [ih]
        rfl
theorem sortI_eq {ys l : List (Int × Int)} (hp : ys.Perm l) (hs : ys.Pairwise (fun a b => SrtO.lexB b a = false)) : ys = sortI l := by
  refine List.Perm.eq_of_pairwise (le := fun a b => SrtO.lexB b a = false) (fun a b _ _ h1 h2 => ?_) hs ?_ (hp.trans (List.mergeSort_perm l leI).symm)
  · have a1 := SrtO.lexB_no.mp h1
    have a2 := SrtO.lexB_no.mp h2
    exact Prod.ext (by omega) (by omega)
  · refine (List.pairwise_mergeSort (le := leI) (fun a b c h1 h2 => ?_) (fun a b => ?_) l).imp fun {a b} h => ?_
    · unfold leI at *
      rw [Bool.not_eq_true'] at *
      have a1 := SrtO.lexB_no.mp h1
      have a2 := SrtO.lexB_no.mp h2
      refine SrtO.lexB_no.mpr ?_
      omega
    · unfold leI
      cases e : SrtO.lexB b a with
      | false => rfl
      | true =>
        have a1 := SrtO.lexB_iff.mp e
        have a2 : SrtO.lexB a b = false := SrtO.lexB_no.mpr (by omega)
        rw [a2]; rfl
    · unfold leI at h
      rwa [Bool.not_eq_true'] at h
theorem sortI_perm (l : List (Int × Int)) : (sortI l).Perm l := List.mergeSort_perm l leI
def rSetD : V → V → V → Hp → (Hp → Prop) → Prop := fun o i v H Q => ∃ a H4, o = .ref a ∧ DPut H a i v H4 ∧ Q H4
theorem set_dict {X : Cx} (hu : X.A.units + 1 < cLine) : PSet X rSetD := by
  intro pins s σ H o i v ov iv u Q I ro ri rv h
  obtain ⟨a, H4, rfl, g, q⟩ := h
  cases ro
  exact d_setItem hu I g ri rv fun s4 I4 => ⟨H4, I4, q⟩
section
variable {K : Fg} {M : Fr} {σ : St} {B H H' : Hp} {L L1 L2 L' : List Cell} {α β γ δ : Type} {r : Rep α} {s : Rep β} {ta tb tc te : TE} {tt tu : TT} {tA : TA} {i j k : Int} {D : Ends} {tz : TS}
theorem Own.grow (w : Own K B M L H) (k : ∀ b o, H b = some o → H' b = some o) : Own K B M L H' :=
  ⟨fun b u e => k b u (w.b b u e), fun b u e => k b u (w.m b u e), w.bm, fun x hx => by
    obtain ⟨⟨o, h1, h2⟩, h3⟩ := w.l x hx
    exact ⟨⟨o, k _ _ h1, h2⟩, h3⟩, w.nd, fun P hP => by
    obtain ⟨⟨ps, h1, h2⟩, h3⟩ := w.t P hP
    exact ⟨⟨ps, k _ _ h1, h2⟩, h3⟩⟩
/-- new things that stay -/
theorem Own.join {ts : List Addr} (w : Own K B M L H) (k : ∀ b o, H b = some o → H' b = some o) (new : ∀ t ∈ ts, H t = none) : Ex B (fun a => if a ∈ ts then H' a else B a) ∧ Own K (fun a => if a ∈ ts then H' a else B a) M L H' := by
  have off : ∀ {b u}, B b = some u → b ∉ ts := fun {b u} e z => by
    have := w.b b u e
    rw [new b z] at this
    cases this
  have e0 : Ex B (fun a => if a ∈ ts then H' a else B a) := fun b u e => by
    show (if b ∈ ts then H' b else B b) = some u
    rw [if_neg (off e)]; exact e
  refine ⟨e0, fun b u e => ?_, fun b u e => k b u (w.m b u e), fun b => ?_, fun x hx => ?_, w.nd, fun P hP => ?_⟩
  · have e : (if b ∈ ts then H' b else B b) = some u := e
    by_cases hb : b ∈ ts
    · rw [if_pos hb] at e; exact e
    · rw [if_neg hb] at e; exact k b u (w.b b u e)
  · by_cases hb : b ∈ ts
    · right
      exact fresh_back w.m (new b hb)
    · rcases w.bm b with h | h
      · left
        show (if b ∈ ts then H' b else B b) = none
        rw [if_neg hb]; exact h
      · exact .inr h
  · obtain ⟨⟨o, h1, h2⟩, h3, h4⟩ := w.l x hx
    refine ⟨⟨o, k _ _ h1, x.c.mono e0 h2⟩, ?_, h4⟩
    show (if x.p ∈ ts then H' x.p else B x.p) = none
    rw [if_neg (fun z => by rw [new _ z] at h1; cases h1)]; exact h3
  · obtain ⟨⟨ps, h1, h2⟩, h3, h4⟩ := w.t P hP
    refine ⟨⟨ps, k _ _ h1, h2⟩, ?_, h4⟩
    show (if P ∈ ts then H' P else B P) = none
    rw [if_neg (fun z => by rw [new _ z] at h1; cases h1)]; exact h3
theorem q_asgD {n : Nat} (w : Own K B M L H) (q : ∀ p H', Own K B M (⟨p, cDk, []⟩ :: L) H' → tz D (σ.set n (some (.ref p))) H') : tSeq (tAsg tDNewK (gName n)) tz D σ H :=
  fun p hp => q p _ (w.new hp rfl)
theorem q_setD {n m : Nat} {p : Addr} {as : List (Int × Int)} (w : Own K B M L H) (h : EV K M te σ B L rInt j L1) (hs : σ[m]? = some (some (.ref p))) (hb : EV K M tb σ B L1 rInt i L2) (hc : L2[n]? = some ⟨p, cDk, as⟩) (hr : room as.length = some ())
    (q : ∀ B' H', Ex B B' → Own K B' M (L2.set n ⟨p, cDk, putI as i j⟩) H' → tz D σ H') : tSeq (tAsg te (gSub (tVar m) tb rSetD)) tz D σ H :=
  h B H (Ex.refl _) w _ fun v B1 H1 e1 w1 hv => ⟨_, hs, hb B1 H1 e1 w1 _ fun y B2 H2 e2 w2 hy => by
    obtain ⟨⟨o', g1, g2⟩, _⟩ := w2.at hc
    have g1 : H2 p = some o' := g1
    have g2 : o' = .dK (L3G.encI as) := g2
    have hv : v = .int j := hv
    have hy : y = kV (Sum.inl i) := hy
    subst hv hy
    refine ⟨p, _, rfl, DPut.k (kvs := L3G.encI as) (by rw [g1, g2]) (by rw [List.length_map]; exact room_some hr), q B2 _ (e1.trans e2) (w2.set hc ?_)⟩
    show _ = HO.dK (L3G.encI (putI as i j))
    rw [← enc_put]⟩
theorem el_sortI {n m : Nat} {p : Addr} {as : List (Int × Int)} (hs : σ[m]? = some (some (.ref p))) (hc : L[n]? = some ⟨p, cDk, as⟩) : EVL K M (L3G.tSortI (tVar m)) σ B L (rT2 rInt rInt) (sortI as) L := fun B1 H e w Q q => by
  obtain ⟨⟨o', g1, g2⟩, _⟩ := w.at hc
  have g1 : H p = some o' := g1
  have g2 : o' = .dK (L3G.encI as) := g2
  refine ⟨_, hs, p, as, rfl, by rw [g1, g2], fun H' l ts ys k new hl hp pm st => ?_⟩
  obtain ⟨e2, w2⟩ := w.join k new
  have ey := sortI_eq pm st
  subst ey
  refine q l _ _ e2 (w2.new hl ⟨ts.map V.ref, rfl, ?_⟩)
  have go : ∀ (ts' : List Addr) (ys : List (Int × Int)), (∀ t ∈ ts', t ∈ ts) → Paired (fun (t : Addr) (q : Int × Int) => H' t = some (.tup [.int q.1, .int q.2])) ts' ys → Paired ((rT2 rInt rInt).is K fun a => if a ∈ ts then H' a else B1 a) (ts'.map V.ref) ys := fun ts' => by
    induction ts' with
    | nil => intro ys _ h; cases h; exact .nil
    | cons t ts' ih =>
      intro ys hm h
      cases h with
      | cons h1 h2 =>
        refine .cons ⟨t, _, _, rfl, st_of ?_, rfl, rfl⟩ (ih _ (fun u hu => hm u (List.mem_cons_of_mem _ hu)) h2)
        show (if t ∈ ts then H' t else B1 t) = _
        rw [if_pos (hm t List.mem_cons_self)]
        exact h1
  exact go ts _ (fun _ h => h) hp
theorem ints_of {K : Fg} {B : Hp} : ∀ {vs : List V} {xs : List Int}, Paired (rInt.is K B) vs xs → vs = xs.map V.int
  | _, _, .nil => rfl
  | _, _, .cons h t => by
    have h : _ = V.int _ := h
    rw [h, ints_of t]; rfl
theorem ev_sumL {xs : List Int} (h : EV K M te σ B L (rLst rInt) xs L') : EV K M (tCB (rSum K) (tCons te tNil)) σ B L rInt xs.sum L' := fun B1 H e w Q q =>
  h B1 H e w _ fun v B2 H2 e2 w2 hv => by
    obtain ⟨p, vs, rfl, hs, hp⟩ := hv
    exact ⟨p, xs, rfl, by rw [← ints_of hp]; exact ex_l w2.b hs, q _ B2 H2 e2 w2 rfl⟩
end
end L3

namespace L3
open PySem L2
open Evl (Ex ex_rd ex_l ex_t sq_of st_of fresh_back)
def top (i : Nat) : Stmt := PySem.Challenge.pw_bestodds_k04_moves_of_choices.main.body.getD i (.Pass ⟨0, 0, 0, 0⟩)
abbrev s_ratio : Stmt := top 2
abbrev s_plus : Stmt := top 3
abbrev s_total_weight : Stmt := top 5
abbrev s_moves : Stmt := top 6
abbrev s__law_tape : Stmt := top 8
abbrev s__law_draw : Stmt := top 9
abbrev s__law_take : Stmt := top 11
abbrev s__law_equal : Stmt := top 10
abbrev s__law_ratio : Stmt := top 12
abbrev s__law_ends : Stmt := top 16
abbrev s__law_choices : Stmt := top 17
abbrev s__law_system : Stmt := top 18
abbrev s__law_large : Stmt := top 20
abbrev s_law : Stmt := top 21
section
variable {P : Program} {w : World} {K : PySem.W.Frag} {mg : Str → Option Value} {base : Heap} {f : Addr} {fd : FuncData} {T : List Addr} {cc : Addr}
noncomputable def m_ratio (a0 : Int) (a1 : Int) : Option (Int × Int) :=
  Option.bind (if (decide (a1 < (0 : Int))) = true then
    some (((-a0), (-a1)))
  else
    some ((a0, a1))
  ) fun (s2 : (Int × Int)) =>
  Option.bind (divI s2.1 ((gcdI s2.1 s2.2))) fun t20 =>
  Option.bind (divI s2.2 ((gcdI s2.1 s2.2))) fun t22 =>
  some (t20, t22)
def C_ratio : List Arg → List Cell → Arg → List Cell → Prop := fun as L r L' => ∃ a0 a1 c, as = [⟨rInt, a0⟩, ⟨rInt, a1⟩] ∧ L = [] ∧ m_ratio a0 a1 = some c ∧ r = ⟨(rT2 rInt rInt), c⟩ ∧ L' = []
theorem sc_ratio : FnScope ["n", "d", "common"] ["n", "d"] (defScope s_ratio) := ⟨rfl, rfl, rfl, by decide +kernel, rfl, by decide +kernel, by decide +kernel⟩
set_option maxHeartbeats 4000000 in
theorem ok_ratio (F : FunC K "ratio" s_ratio f fd cc) (z_gcd : mg "gcd" = some (.builtin "math.gcd")) : FnOk P w K mg base CX0 1 f fd ["n", "d"] (spV K T C_ratio) := by
  refine F.ok sc_ratio (fun vs H Q E h => ?_) (fun A outer s H vs Q E hr h => ?_)
  · obtain ⟨B, M, L, as, r, L', hT, w, ha, ⟨_, _, _, rfl, _⟩, k⟩ := h
    exact args_len ha
  · skip
    obtain ⟨B, M, L, as, r, L', rfl, w, ha, ⟨a0, a1, c, rfl, rfl, hm, rfl, rfl⟩, k⟩ := h
    obtain ⟨u0, u1, rfl, f0, f1⟩ := args2 ha
    replace f0 : (rInt).is K B u0 a0 := f0
    replace f1 : (rInt).is K B u1 a1 := f1
    unfold m_ratio at hm
    refine ⟨_, (Evl.pss_cut (ps_if (pt_cmpR op_lt (pv 1) pe_int (nomark _)) (pss_cons (ps_par (i := 0) (j := 1) rfl sc_ratio.nd rfl rfl (by decide) rfl rfl (pa_cons (pe_un un_neg (pv 0)) (pa_cons (pe_un un_neg (pv 1)) pa_nil)) rfl) pss_nil) pss_nil) (pss_cons (ps_set (i := 2) sc_ratio.nd rfl (by first | exact Or.inl rfl | exact Or.inr rfl) (pe_callBfun cr_gcd rfl z_gcd (pa_cons (pv 0) (pa_cons (pv 1) pa_nil)))) (pss_cons (ps_ret (pe_tup (pa_cons (pe_op op_fdivW (pv 0) (pv 2)) (pa_cons (pe_op op_fdivW (pv 1) (pv 2)) pa_nil)))) pss_nil))), ?_⟩
    rw [show start ["n", "d", "common"] [u0, u1] = ([some u0, some u1, none] : L2.St) from rfl]
    obtain ⟨s2, e3, hm⟩ := bindS hm
    refine q_cut (fun σ16 H11 => ∃ v12 v14 B11, Ex B B11 ∧ Own K B11 M [] H11 ∧ σ16 = [some v12, some v14, none] ∧ (rInt).is K B11 v12 s2.1 ∧ (rInt).is K B11 v14 s2.2) ?_ ?_
    · skip
      refine q_ifc w (et_test (ev_lt (ev_varI rfl f1) (ev_int (i := 0)))) (fun hb1 B4 H4 x4 (w4 : Own K B4 M [] H4) => ?_) (fun hb1 B10 H10 x10 (w10 : Own K B10 M [] H10) => ?_)
      · skip
        rw [if_pos hb1] at e3
        refine q_par (n := 0) (m := 1) w4 (ea_cons (ev_neg (ev_varI rfl f0)) (ea_cons (ev_neg (ev_varI rfl f1)) ea_nil)) fun v6 v8 B5 H5 x5 (w5 : Own K B5 M [] H5) h7 h9 => ?_
        replace e3 : some _ = some _ := e3
        cases e3
        exact ⟨v6, v8, _, (x4.trans x5), w5, rfl, h7, h9⟩
      rw [if_neg (by rw [hb1]; exact Bool.false_ne_true)] at e3
      replace e3 : some _ = some _ := e3
      cases e3
      exact ⟨u0, u1, _, x10, w10, rfl, ((rInt).mono x10 f0), ((rInt).mono x10 f1)⟩
    rintro σ16' H11 ⟨v12, v14, B11, x11, w11, rfl, h13, h15⟩
    refine q_asg (n := 2) w11 (ev_gcd (ev_varI rfl h13) (ev_varI rfl h15)) fun v18 B17 H17 x17 (w17 : Own K B17 M [] H17) h19 => ?_
    obtain ⟨t20, e21, hm⟩ := bindS hm
    obtain ⟨t22, e23, hm⟩ := bindS hm
    replace hm : some _ = some _ := hm
    obtain rfl := Option.some.inj hm
    exact q_ret w17 (ev_T2 (ea_cons (ev_div (ev_varI rfl h13) (ev_varI rfl h19) e21) (ea_cons (ev_div (ev_varI rfl h15) (ev_varI rfl h19) e23) ea_nil))) fun v9 B9 H9 x9 w9 h9 => k _ _ _ ((x11.trans x17).trans x9) w9 h9
noncomputable def m_plus (a0 : (Int × Int)) (a1 : (Int × Int)) : Option (Int × Int) :=
  Option.bind (mulI a0.1 a1.2) fun t1 =>
  Option.bind (mulI a1.1 a0.2) fun t3 =>
  Option.bind (mulI a0.2 a1.2) fun t5 =>
  Option.bind (m_ratio ((t1 + t3)) t5) fun t7 =>
  some t7
def C_plus : List Arg → List Cell → Arg → List Cell → Prop := fun as L r L' => ∃ a0 a1 c, as = [⟨(rT2 rInt rInt), a0⟩, ⟨(rT2 rInt rInt), a1⟩] ∧ L = [] ∧ m_plus a0 a1 = some c ∧ r = ⟨(rT2 rInt rInt), c⟩ ∧ L' = []
theorem sc_plus : FnScope ["a", "b"] ["a", "b"] (defScope s_plus) := ⟨rfl, rfl, rfl, by decide +kernel, rfl, by decide +kernel, by decide +kernel⟩
set_option maxHeartbeats 4000000 in
theorem ok_plus (F : FunC K "plus" s_plus f fd cc) (c_ratio : Cl P w K mg base 1 "ratio" (spV K T C_ratio) []) : FnOk P w K mg base CX0 2 f fd ["a", "b"] (spV K T C_plus) := by
  refine F.ok sc_plus (fun vs H Q E h => ?_) (fun A outer s H vs Q E hr h => ?_)
  · obtain ⟨B, M, L, as, r, L', hT, w, ha, ⟨_, _, _, rfl, _⟩, k⟩ := h
    exact args_len ha
  · skip
    obtain ⟨B, M, L, as, r, L', rfl, w, ha, ⟨a0, a1, c, rfl, rfl, hm, rfl, rfl⟩, k⟩ := h
    obtain ⟨u0, u1, rfl, f0, f1⟩ := args2 ha
    replace f0 : ((rT2 rInt rInt)).is K B u0 a0 := f0
    replace f1 : ((rT2 rInt rInt)).is K B u1 a1 := f1
    unfold m_plus at hm
    refine ⟨_, (pss_cons (ps_ret (pe_c c_ratio hr (by omega) rfl (pa_cons (pe_op op_add (pe_op op_mulX (pe_ix ix_seq (pv 0) pe_int (fun _ _ => rfl)) (pe_ix ix_seq (pv 1) pe_int (fun _ _ => rfl))) (pe_op op_mulX (pe_ix ix_seq (pv 1) pe_int (fun _ _ => rfl)) (pe_ix ix_seq (pv 0) pe_int (fun _ _ => rfl)))) (pa_cons (pe_op op_mulX (pe_ix ix_seq (pv 0) pe_int (fun _ _ => rfl)) (pe_ix ix_seq (pv 1) pe_int (fun _ _ => rfl))) pa_nil)))) pss_nil), ?_⟩
    rw [show start ["a", "b"] [u0, u1] = ([some u0, some u1] : L2.St) from rfl]
    obtain ⟨t1, e2, hm⟩ := bindS hm
    obtain ⟨t3, e4, hm⟩ := bindS hm
    obtain ⟨t5, e6, hm⟩ := bindS hm
    obtain ⟨t7, e8, hm⟩ := bindS hm
    replace hm : some _ = some _ := hm
    obtain rfl := Option.some.inj hm
    exact q_ret w (ev_call (ea_cons (ev_add (ev_mul (ev_fst (ev_var rfl f0)) (ev_snd (ev_var rfl f1)) e2) (ev_mul (ev_fst (ev_var rfl f1)) (ev_snd (ev_var rfl f0)) e4)) (ea_cons (ev_mul (ev_snd (ev_var rfl f0)) (ev_snd (ev_var rfl f1)) e6) ea_nil)) ⟨_, _, _, rfl, rfl, e8, rfl, rfl⟩) fun v9 B9 H9 x9 w9 h9 => k _ _ _ ((Ex.refl _).trans x9) w9 h9
noncomputable def m_total_weight (a0 : (List (Int × Int))) : Option Int :=
  Option.bind (sumM (fun (x9 : (Int × Int)) => ( some x9.2)) a0) fun t19 =>
  some t19
def C_total_weight : List Arg → List Cell → Arg → List Cell → Prop := fun as L r L' => ∃ a0 c, as = [⟨(rTup (rT2 rInt rInt)), a0⟩] ∧ L = [] ∧ m_total_weight a0 = some c ∧ r = ⟨rInt, c⟩ ∧ L' = []
theorem sc_total_weight : FnScope ["ends"] ["ends"] (defScope s_total_weight) := ⟨rfl, rfl, rfl, by decide +kernel, rfl, by decide +kernel, by decide +kernel⟩
set_option maxHeartbeats 4000000 in
theorem ok_total_weight (F : FunC K "total_weight" s_total_weight f fd cc) (z_sum : mg "sum" = none) (tb : ∃ P0, GxR.TabB base mg cc P0 ∧ P0 ∈ T) : FnOk P w K mg base CX0 2 f fd ["ends"] (spV K T C_total_weight) := by
  obtain ⟨P0, tb, hP0⟩ := tb
  refine F.ok sc_total_weight (fun vs H Q E h => ?_) (fun A outer s H vs Q E hr h => ?_)
  · obtain ⟨B, M, L, as, r, L', hT, w, ha, ⟨_, _, rfl, _⟩, k⟩ := h
    exact args_len ha
  · skip
    obtain ⟨B, M, L, as, r, L', rfl, w, ha, ⟨a0, c, rfl, rfl, hm, rfl, rfl⟩, k⟩ := h
    obtain ⟨u0, rfl, f0⟩ := args1 ha
    replace f0 : ((rTup (rT2 rInt rInt))).is K B u0 a0 := f0
    unfold m_total_weight at hm
    refine ⟨_, (pss_cons (ps_ret (L3G.pe_sumG (NG := ["_", "weight"]) (js := [none, none]) (Room.mono hr (j := 1) (by omega)) rfl z_sum bt_sum tb rfl (L3G.gs_by (sc := defScope s_total_weight) (by decide +kernel)) (pi_tup (pv 0)) (show L3G.capB ["ends"] ["_", "weight"] _ _ = true by decide +kernel) (fun _ => (pg_tup rfl (pgs_cons (pg_name (i := 0) (show List.Nodup (["_", "weight"] : List Str) by decide +kernel) rfl (by first | exact Or.inl rfl | exact Or.inr rfl)) (pgs_cons (pg_name (i := 1) (show List.Nodup (["_", "weight"] : List Str) by decide +kernel) rfl (by first | exact Or.inl rfl | exact Or.inr rfl)) pgs_nil)))) (fun _ hr => (pv 1)) (fun _ => rfl))) pss_nil), ?_⟩
    rw [show start ["ends"] [u0] = ([some u0] : L2.St) from rfl]
    obtain ⟨t19, e20, hm⟩ := bindS hm
    replace hm : some _ = some _ := hm
    obtain rfl := Option.some.inj hm
    exact q_ret w (ev_sumG hP0 (ei_tup (ev_var rfl f0)) _ (fun σ14 => ∃ o1 o2, σ14 = [o1, o2]) ⟨none, none, rfl⟩ e20 (by rintro _ x9 c10 v7 B3 H4 σ14 hb11 x5 ⟨o1, o2, rfl⟩ w6 h8 Q12 q13; replace w6 : Own K B3 M [] H4 := w6; refine g_T2 h8 w6 fun v15 v16 h17 h18 => ?_; refine g_cons ?_; refine g_name ?_; refine g_cons ?_; refine g_name ?_; refine g_nil ?_; obtain rfl := Option.some.inj hb11; exact (ev_varI rfl h18) B3 H4 (Ex.refl _) w6 _ fun v21 B22 H23 x24 w25 h26 => by rw [show v21 = V.int _ from h26]; exact q13 _ B22 H23 ⟨_, _, rfl⟩ x24 w25)) fun v9 B9 H9 x9 w9 h9 => k _ _ _ ((Ex.refl _).trans x9) w9 h9
noncomputable def m_moves (a0 : (List (List (Int × (List (Int × Int)))))) (a1 : Int) (a2 : Int) : Option (List (Int × (Int × Int))) :=
  Option.bind (ixL a0 a1) fun t1 =>
  Option.bind (ixL t1 a2) fun t3 =>
  Option.bind (m_total_weight t3.2) fun t8 =>
  Option.bind (room t3.2.length) fun t43 =>
  Option.bind (compM (S := Unit) (β := (Int × (Int × Int))) (fun (s13 : Unit) (x20 : (Int × Int)) => (Option.bind (m_ratio x20.2 t8) fun t41 => some (some ((x20.1, t41)), ()))) (()) t3.2) fun t45 =>
  some t45.1
def C_moves : List Arg → List Cell → Arg → List Cell → Prop := fun as L r L' => ∃ a0 a1 a2 c, as = [⟨(rTup (rTup (rT2 rInt (rTup (rT2 rInt rInt))))), a0⟩, ⟨rInt, a1⟩, ⟨rInt, a2⟩] ∧ L = [] ∧ m_moves a0 a1 a2 = some c ∧ r = ⟨(rLst (rT2 rInt (rT2 rInt rInt))), c⟩ ∧ L' = []
theorem sc_moves : FnScope ["system", "state", "choice", "ends", "total", "end", "weight"] ["system", "state", "choice"] (defScope s_moves) := ⟨rfl, rfl, rfl, by decide +kernel, rfl, by decide +kernel, by decide +kernel⟩
set_option maxHeartbeats 4000000 in
theorem ok_moves (F : FunC K "moves" s_moves f fd cc) (c_total_weight : Cl P w K mg base 2 "total_weight" (spV K T C_total_weight) []) (c_ratio : Cl P w K mg base 1 "ratio" (spV K T C_ratio) []) : FnOk P w K mg base CX0 3 f fd ["system", "state", "choice"] (spV K T C_moves) := by
  refine F.ok sc_moves (fun vs H Q E h => ?_) (fun A outer s H vs Q E hr h => ?_)
  · obtain ⟨B, M, L, as, r, L', hT, w, ha, ⟨_, _, _, _, rfl, _⟩, k⟩ := h
    exact args_len ha
  · skip
    obtain ⟨B, M, L, as, r, L', rfl, w, ha, ⟨a0, a1, a2, c, rfl, rfl, hm, rfl, rfl⟩, k⟩ := h
    obtain ⟨u0, u1, u2, rfl, f0, f1, f2⟩ := args3 ha
    replace f0 : ((rTup (rTup (rT2 rInt (rTup (rT2 rInt rInt)))))).is K B u0 a0 := f0
    replace f1 : (rInt).is K B u1 a1 := f1
    replace f2 : (rInt).is K B u2 a2 := f2
    unfold m_moves at hm
    refine ⟨_, (pss_cons (ps_set (i := 3) sc_moves.nd rfl (by first | exact Or.inl rfl | exact Or.inr rfl) (pe_ix ix_seq (pe_ix ix_seq (pe_ix ix_seq (pv 0) (pv 1) (fun _ _ => rfl)) (pv 2) (fun _ _ => rfl)) pe_int (fun _ _ => rfl))) (pss_cons (ps_set (i := 4) sc_moves.nd rfl (by first | exact Or.inl rfl | exact Or.inr rfl) (pe_c c_total_weight hr (by omega) rfl (pa_cons (pv 3) pa_nil))) (pss_cons (ps_ret (pe_lc rfl sc_moves.nd (pi_tup (pv 3)) (blkOk_by (own := [("end", 5), ("weight", 6)]) (show blkC ["system", "state", "choice", "ends", "total", "end", "weight"] (defScope s_moves) _ _ = true by decide +kernel)) (fun _ _ _ _ _ => (show PG _ _ (gTup K 2 (gCons (gName 5) (gCons (gName 6) gNil))) from (pg_tup rfl (pgs_cons (pg_name (i := 5) sc_moves.nd rfl (by first | exact Or.inl rfl | exact Or.inr rfl)) (pgs_cons (pg_name (i := 6) sc_moves.nd rfl (by first | exact Or.inl rfl | exact Or.inr rfl)) pgs_nil))))) (fun _ _ _ _ _ => pts_nil) (fun _ _ _ _ _ => (pe_tup (pa_cons (pv 5) (pa_cons (pe_c c_ratio hr (by omega) rfl (pa_cons (pv 6) (pa_cons (pv 4) pa_nil))) pa_nil)))))) pss_nil))), ?_⟩
    rw [show start ["system", "state", "choice", "ends", "total", "end", "weight"] [u0, u1, u2] = ([some u0, some u1, some u2, none, none, none, none] : L2.St) from rfl]
    obtain ⟨t1, e2, hm⟩ := bindS hm
    obtain ⟨t3, e4, hm⟩ := bindS hm
    refine q_asg (n := 3) w (ev_snd (ev_ix (ev_seqT (ev_ix (ev_seqT (ev_var rfl f0)) (ev_varI rfl f1) e2)) (ev_varI rfl f2) e4)) fun v6 B5 H5 x5 (w5 : Own K B5 M [] H5) h7 => ?_
    obtain ⟨t8, e9, hm⟩ := bindS hm
    refine q_asg (n := 4) w5 (ev_call (ea_cons (ev_var rfl h7) ea_nil) ⟨_, _, rfl, rfl, e9, rfl, rfl⟩) fun v11 B10 H10 x10 (w10 : Own K B10 M [] H10) h12 => ?_
    obtain ⟨t43, e44, hm⟩ := bindS hm
    obtain ⟨t45, e46, hm⟩ := bindS hm
    replace hm : some _ = some _ := hm
    obtain rfl := Option.some.inj hm
    exact q_ret w10 (ev_frz (el_lc (S := Unit) (ys := t45.1) (s1 := t45.2) (s0 := ()) (σ' := [some u0, some u1, some u2, some v6, some v11, none, none]) (rT2 rInt (rT2 rInt rInt)) (ei_tup (ev_var rfl (((rTup (rT2 rInt rInt))).mono x10 h7))) _ (fun (s13 : Unit) => []) rfl e46 e44 rfl (by rintro s13 x20 o25 s26 v18 D23 a24 B14 H15 hb22 x16 w17 h19 PY27 PN28 qY29 qN30; replace w17 : Own K B14 M [⟨D23, (cLst (rT2 rInt (rT2 rInt rInt))), a24⟩] H15 := w17; refine g_T2 h19 w17 fun v31 v32 h33 h34 => ?_; refine g_cons ?_; refine g_name ?_; refine g_cons ?_; refine g_name ?_; refine g_nil ?_; refine ⟨rfl, ?_⟩; obtain ⟨t41, e42, hb22⟩ := bindS hb22; obtain ⟨rfl, rfl⟩ := Prod.mk.inj (Option.some.inj hb22); refine lc_yes ?_; exact (ev_T2 (ea_cons (ev_varI rfl h33) (ea_cons (ev_call (ea_cons (ev_varI rfl h34) (ea_cons (ev_varI rfl h12) ea_nil)) ⟨_, _, _, rfl, rfl, e42, rfl, rfl⟩) ea_nil))) B14 H15 (Ex.refl _) w17 _ fun v35 B36 H37 x38 w39 h40 => qY29 v35 B36 H37 _ rfl x38 w39 h40))) fun v9 B9 H9 x9 w9 h9 => k _ _ _ ((x5.trans x10).trans x9) w9 h9
noncomputable def m_l_tape (a0 : (List Int)) : Option (List Int) :=
  Option.bind (foldO (S := (List Int)) (α := Int) (fun (s3 : (List Int)) (x4 : Int) => (
    Option.bind (mulI ((2 : Int)) x4) fun t26 =>
    Option.bind (if (decide (t26 < (0 : Int))) = true then
      some (((-(1 : Int)) - t26))
    else
      some t26
    ) fun (s32 : Int) =>
    Option.bind (powI ((10 : Int)) ((18 : Int))) fun t43 =>
    Option.bind (if (decide (s32 ≥ t43)) = true then
      Option.bind (foldO (S := (Int × (List Int))) (α := Int) (fun (s49 : (Int × (List Int))) (x50 : Int) => (
        Option.bind (if (decide (s49.1 > (0 : Int))) = true then
          Option.bind (modI s49.1 ((1000 : Int))) fun t75 =>
          Option.bind (room s49.2.length) fun t77 =>
          Option.bind (divI s49.1 ((1000 : Int))) fun t80 =>
          some ((t80, (s49.2 ++ [t75])))
        else
          some ((s49.1, s49.2))
        ) fun (s72 : (Int × (List Int))) =>
        some ((s72.1, s72.2))
      )) ((s32, s3)) ((rng 0 ((40 : Int))))) fun s90 =>
      some ((s90.1, s90.2))
    else
      Option.bind (foldO (S := (List Int)) (α := Int) (fun (s101 : (List Int)) (x102 : Int) => (
        Option.bind (mulI s32 ((48271 : Int))) fun t122 =>
        Option.bind (mulI x102 ((40503 : Int))) fun t124 =>
        Option.bind (modI (((t122 + t124) + (11 : Int))) ((2147483629 : Int))) fun t126 =>
        Option.bind (mulI t126 ((69621 : Int))) fun t131 =>
        Option.bind (divI t126 ((65536 : Int))) fun t133 =>
        Option.bind (modI ((t131 + t133)) ((2147483629 : Int))) fun t135 =>
        Option.bind (room s101.length) fun t137 =>
        some ((s101 ++ [t135]))
      )) s3 ((rng 0 ((3 : Int))))) fun s140 =>
      some ((s32, s140))
    ) fun (s46 : (Int × (List Int))) =>
    some s46.2
  )) (([] : List Int)) a0) fun s155 =>
  some s155
def C__law_tape : List Arg → List Cell → Arg → List Cell → Prop := fun as L r L' => ∃ a0 c, as = [⟨(rLst rInt), a0⟩] ∧ L = [] ∧ m_l_tape a0 = some c ∧ r = ⟨(rLst rInt), c⟩ ∧ L' = []
theorem sc__law_tape : FnScope ["_law_script", "_law_tape_here", "_law_cell", "_law_number", "_law_k", "_law_first"] ["_law_script"] (defScope s__law_tape) := ⟨rfl, rfl, rfl, by decide +kernel, rfl, by decide +kernel, by decide +kernel⟩
set_option maxHeartbeats 4000000 in
theorem ok__law_tape (F : FunC K "_law_tape" s__law_tape f fd cc) (z_int : mg "int" = none) (z_range : mg "range" = none) : FnOk P w K mg base CX0 1 f fd ["_law_script"] (spV K T C__law_tape) := by
  refine F.ok sc__law_tape (fun vs H Q E h => ?_) (fun A outer s H vs Q E hr h => ?_)
  · obtain ⟨B, M, L, as, r, L', hT, w, ha, ⟨_, _, rfl, _⟩, k⟩ := h
    exact args_len ha
  · skip
    obtain ⟨B, M, L, as, r, L', rfl, w, ha, ⟨a0, c, rfl, rfl, hm, rfl, rfl⟩, k⟩ := h
    obtain ⟨u0, rfl, f0⟩ := args1 ha
    replace f0 : ((rLst rInt)).is K B u0 a0 := f0
    unfold m_l_tape at hm
    refine ⟨_, (pss_cons (ps_set (i := 1) sc__law_tape.nd rfl (by first | exact Or.inl rfl | exact Or.inr rfl) (pe_lst pa_nil)) (pss_cons (ps_for PassesOwn.never rfl (pi_list (pv 0)) (pg_name (i := 2) sc__law_tape.nd rfl (by first | exact Or.inl rfl | exact Or.inr rfl)) (pss_cons (ps_set (i := 3) sc__law_tape.nd rfl (by first | exact Or.inl rfl | exact Or.inr rfl) (pe_op op_mulX pe_int (pe_callTy call_int1 rfl z_int bt_int (pa_cons (pv 2) pa_nil)))) (Evl.pss_cut (ps_if (pt_cmpR op_lt (pv 3) pe_int (nomark _)) (pss_cons (ps_set (i := 3) sc__law_tape.nd rfl (by first | exact Or.inl rfl | exact Or.inr rfl) (pe_op op_sub (pe_un un_neg pe_int) (pv 3))) pss_nil) pss_nil) (Evl.pss_cut (ps_if (pt_cmpR op_ge (pv 3) (pe_op op_pow pe_int pe_int) (nomark _)) (pss_cons (ps_for PassesOwn.never rfl (pi_range1 rfl z_range (pa_cons pe_int pa_nil)) (pg_name (i := 4) sc__law_tape.nd rfl (by first | exact Or.inl rfl | exact Or.inr rfl)) (Evl.pss_cut (ps_if (pt_cmpR op_gt (pv 3) pe_int (nomark _)) (pss_cons (ps_expr (pe_bm PySem.F.plainAttrs_list PySem.F.slot_list_append PySem.F.type_list_append mt_append (pv 1) (pa_cons (pe_op op_mod (pe_callTy call_int1 rfl z_int bt_int (pa_cons (pv 3) pa_nil)) pe_int) pa_nil))) (pss_cons (ps_set (i := 3) sc__law_tape.nd rfl (by first | exact Or.inl rfl | exact Or.inr rfl) (pe_op op_fdivW (pv 3) pe_int)) pss_nil)) pss_nil) pss_nil)) pss_nil) (pss_cons (ps_for PassesOwn.never rfl (pi_range1 rfl z_range (pa_cons pe_int pa_nil)) (pg_name (i := 4) sc__law_tape.nd rfl (by first | exact Or.inl rfl | exact Or.inr rfl)) (pss_cons (ps_set (i := 5) sc__law_tape.nd rfl (by first | exact Or.inl rfl | exact Or.inr rfl) (pe_op op_mod (pe_callTy call_int1 rfl z_int bt_int (pa_cons (pe_op op_add (pe_op op_add (pe_op op_mulX (pv 3) pe_int) (pe_op op_mulX (pv 4) pe_int)) pe_int) pa_nil)) pe_int)) (pss_cons (ps_expr (pe_bm PySem.F.plainAttrs_list PySem.F.slot_list_append PySem.F.type_list_append mt_append (pv 1) (pa_cons (pe_op op_mod (pe_callTy call_int1 rfl z_int bt_int (pa_cons (pe_op op_add (pe_op op_mulX (pv 5) pe_int) (pe_op op_fdivW (pv 5) pe_int)) pa_nil)) pe_int) pa_nil))) pss_nil))) pss_nil)) pss_nil)))) (pss_cons (ps_ret (pv 1)) pss_nil))), ?_⟩
    rw [show start ["_law_script", "_law_tape_here", "_law_cell", "_law_number", "_law_k", "_law_first"] [u0] = ([some u0, none, none, none, none, none] : L2.St) from rfl]
    refine q_asgL (n := 1) w (el_lst (r := rInt) ([] : List Int) ea_nil) fun p2 B1 H1 x1 (w1 : Own K B1 M [⟨p2, (cLst rInt), ([] : List Int)⟩] H1) => ?_
    obtain ⟨s155, e7, hm⟩ := bindS hm
    refine q_fold w1 (ei_lst (ev_var rfl (((rLst rInt)).mono x1 f0))) _ (fun s3 B8 σ21 => ∃ o22 o23 o24 o25, σ21 = [some u0, some (.ref p2), o22, o23, o24, o25]) (fun s3 => [⟨p2, (cLst rInt), s3⟩]) (([] : List Int)) e7 (fun B9 x9 => ⟨_, _, _, _, rfl⟩) rfl ?_ ?_
    · skip
      rintro s3 x4 s165 v14 B8 B9 H10 σ21 hb5 x11 ⟨o22, o23, o24, o25, rfl⟩ x12 w13 h15 N16 K17 hN18
      replace w13 : Own K B9 M [⟨p2, (cLst rInt), s3⟩] H10 := w13
      refine g_name ?_
      obtain ⟨t26, e27, hb5⟩ := bindS hb5
      refine q_asg (n := 3) w13 (ev_mul (ev_int (i := 2)) (ev_intI (ev_varI rfl h15)) e27) fun v29 B28 H28 x28 (w28 : Own K B28 M [⟨p2, (cLst rInt), s3⟩] H28) h30 => ?_
      obtain ⟨s32, e33, hb5⟩ := bindS hb5
      refine q_cut (fun σ42 H39 => ∃ v40 B39, Ex B28 B39 ∧ Own K B39 M [⟨p2, (cLst rInt), s3⟩] H39 ∧ σ42 = [some u0, some (.ref p2), some v14, some v40, o24, o25] ∧ (rInt).is K B39 v40 s32) ?_ ?_
      · skip
        refine q_ifc w28 (et_test (ev_lt (ev_varI rfl h30) (ev_int (i := 0)))) (fun hb31 B34 H34 x34 (w34 : Own K B34 M [⟨p2, (cLst rInt), s3⟩] H34) => ?_) (fun hb31 B38 H38 x38 (w38 : Own K B38 M [⟨p2, (cLst rInt), s3⟩] H38) => ?_)
        · skip
          rw [if_pos hb31] at e33
          refine q_asg (n := 3) w34 (ev_sub (ev_neg (ev_int (i := 1))) (ev_varI rfl h30)) fun v36 B35 H35 x35 (w35 : Own K B35 M [⟨p2, (cLst rInt), s3⟩] H35) h37 => ?_
          replace e33 : some _ = some _ := e33
          cases e33
          exact ⟨v36, _, (x34.trans x35), w35, rfl, h37⟩
        rw [if_neg (by rw [hb31]; exact Bool.false_ne_true)] at e33
        replace e33 : some _ = some _ := e33
        cases e33
        exact ⟨v29, _, x38, w38, rfl, ((rInt).mono x38 h30)⟩
      rintro σ42' H39 ⟨v40, B39, x39, w39, rfl, h41⟩
      obtain ⟨t43, e44, hb5⟩ := bindS hb5
      obtain ⟨s46, e47, hb5⟩ := bindS hb5
      refine q_cut (fun σ154 H149 => ∃ v150 o152 o153 B149, Ex B39 B149 ∧ Own K B149 M [⟨p2, (cLst rInt), s46.2⟩] H149 ∧ σ154 = [some u0, some (.ref p2), some v14, some v150, o152, o153] ∧ (rInt).is K B149 v150 s46.1) ?_ ?_
      · skip
        refine q_ifc w39 (et_test (ev_ge (ev_varI rfl h41) (ev_pow (ev_int (i := 10)) (ev_int (i := 18)) e44))) (fun hb45 B48 H48 x48 (w48 : Own K B48 M [⟨p2, (cLst rInt), s3⟩] H48) => ?_) (fun hb45 B100 H100 x100 (w100 : Own K B100 M [⟨p2, (cLst rInt), s3⟩] H100) => ?_)
        · skip
          rw [if_pos hb45] at e47
          obtain ⟨s90, e53, e47⟩ := bindS e47
          refine q_fold w48 (ei_rng1 (ea_cons (ev_int (i := 40)) ea_nil) (by decide)) _ (fun s49 B54 σ67 => ∃ v68 o70, σ67 = [some u0, some (.ref p2), some v14, some v68, o70, o25] ∧ (rInt).is K B54 v68 s49.1) (fun s49 => [⟨p2, (cLst rInt), s49.2⟩]) ((s32, s3)) e53 (fun B9 x9 => ⟨v40, _, rfl, ((rInt).mono x9 ((rInt).mono x48 h41))⟩) rfl ?_ ?_
          · skip
            rintro s49 x50 s99 v60 B54 B55 H56 σ67 hb51 x57 ⟨v68, o70, rfl, h69⟩ x58 w59 h61 N62 K63 hN64
            replace w59 : Own K B55 M [⟨p2, (cLst rInt), s49.2⟩] H56 := w59
            refine g_name ?_
            obtain ⟨s72, e73, hb51⟩ := bindS hb51
            refine q_cut (fun σ89 H86 => ∃ v87 B86, Ex B55 B86 ∧ Own K B86 M [⟨p2, (cLst rInt), s72.2⟩] H86 ∧ σ89 = [some u0, some (.ref p2), some v14, some v87, some v60, o25] ∧ (rInt).is K B86 v87 s72.1) ?_ ?_
            · skip
              refine q_ifc w59 (et_test (ev_gt (ev_varI rfl h69) (ev_int (i := 0)))) (fun hb71 B74 H74 x74 (w74 : Own K B74 M [⟨p2, (cLst rInt), s49.2⟩] H74) => ?_) (fun hb71 B85 H85 x85 (w85 : Own K B85 M [⟨p2, (cLst rInt), s49.2⟩] H85) => ?_)
              · skip
                rw [if_pos hb71] at e73
                obtain ⟨t75, e76, e73⟩ := bindS e73
                obtain ⟨t77, e78, e73⟩ := bindS e73
                refine q_app (n := 0) (m := 1) w74 rfl (ev_mod (ev_intI (ev_varI rfl h69)) (ev_int (i := 1000)) e76) rfl ⟨0, _, rfl⟩ e78 fun B79 H79 x79 (w79 : Own K B79 M [⟨p2, (cLst rInt), (s49.2 ++ [t75])⟩] H79) => ?_
                obtain ⟨t80, e81, e73⟩ := bindS e73
                refine q_asg (n := 3) w79 (ev_div (ev_varI rfl h69) (ev_int (i := 1000)) e81) fun v83 B82 H82 x82 (w82 : Own K B82 M [⟨p2, (cLst rInt), (s49.2 ++ [t75])⟩] H82) h84 => ?_
                replace e73 : some _ = some _ := e73
                cases e73
                exact ⟨v83, _, ((x74.trans x79).trans x82), w82, rfl, h84⟩
              rw [if_neg (by rw [hb71]; exact Bool.false_ne_true)] at e73
              replace e73 : some _ = some _ := e73
              cases e73
              exact ⟨v68, _, x85, w85, rfl, ((rInt).mono (x58.trans x85) h69)⟩
            rintro σ89' H86 ⟨v87, B86, x86, w86, rfl, h88⟩
            replace hb51 : some _ = some _ := hb51
            cases hb51
            exact hN64 _ _ _ x86 w86 ⟨v87, _, rfl, h88⟩
          rintro B91 H92 σ95 x93 w94 ⟨v96, o98, rfl, h97⟩
          replace w94 : Own K B91 M [⟨p2, (cLst rInt), s90.2⟩] H92 := w94
          replace e47 : some _ = some _ := e47
          cases e47
          exact ⟨v96, _, _, _, (x48.trans x93), w94, rfl, h97⟩
        rw [if_neg (by rw [hb45]; exact Bool.false_ne_true)] at e47
        obtain ⟨s140, e105, e47⟩ := bindS e47
        refine q_fold w100 (ei_rng1 (ea_cons (ev_int (i := 3)) ea_nil) (by decide)) _ (fun s101 B106 σ119 => ∃ o120 o121, σ119 = [some u0, some (.ref p2), some v14, some v40, o120, o121]) (fun s101 => [⟨p2, (cLst rInt), s101⟩]) s3 e105 (fun B9 x9 => ⟨_, _, rfl⟩) rfl ?_ ?_
        · skip
          rintro s101 x102 s148 v112 B106 B107 H108 σ119 hb103 x109 ⟨o120, o121, rfl⟩ x110 w111 h113 N114 K115 hN116
          replace w111 : Own K B107 M [⟨p2, (cLst rInt), s101⟩] H108 := w111
          refine g_name ?_
          obtain ⟨t122, e123, hb103⟩ := bindS hb103
          obtain ⟨t124, e125, hb103⟩ := bindS hb103
          obtain ⟨t126, e127, hb103⟩ := bindS hb103
          refine q_asg (n := 5) w111 (ev_mod (ev_intI (ev_add (ev_add (ev_mul (ev_varI rfl h41) (ev_int (i := 48271)) e123) (ev_mul (ev_varI rfl h113) (ev_int (i := 40503)) e125)) (ev_int (i := 11)))) (ev_int (i := 2147483629)) e127) fun v129 B128 H128 x128 (w128 : Own K B128 M [⟨p2, (cLst rInt), s101⟩] H128) h130 => ?_
          obtain ⟨t131, e132, hb103⟩ := bindS hb103
          obtain ⟨t133, e134, hb103⟩ := bindS hb103
          obtain ⟨t135, e136, hb103⟩ := bindS hb103
          obtain ⟨t137, e138, hb103⟩ := bindS hb103
          refine q_app (n := 0) (m := 1) w128 rfl (ev_mod (ev_intI (ev_add (ev_mul (ev_varI rfl h130) (ev_int (i := 69621)) e132) (ev_div (ev_varI rfl h130) (ev_int (i := 65536)) e134))) (ev_int (i := 2147483629)) e136) rfl ⟨0, _, rfl⟩ e138 fun B139 H139 x139 (w139 : Own K B139 M [⟨p2, (cLst rInt), (s101 ++ [t135])⟩] H139) => ?_
          replace hb103 : some _ = some _ := hb103
          cases hb103
          exact hN116 _ _ _ (x128.trans x139) w139 ⟨_, _, rfl⟩
        rintro B141 H142 σ145 x143 w144 ⟨o146, o147, rfl⟩
        replace w144 : Own K B141 M [⟨p2, (cLst rInt), s140⟩] H142 := w144
        replace e47 : some _ = some _ := e47
        cases e47
        exact ⟨v40, _, _, _, (x100.trans x143), w144, rfl, ((rInt).mono (x100.trans x143) h41)⟩
      rintro σ154' H149 ⟨v150, o152, o153, B149, x149, w149, rfl, h151⟩
      replace hb5 : some _ = some _ := hb5
      cases hb5
      exact hN18 _ _ _ ((x28.trans x39).trans x149) w149 ⟨_, _, _, _, rfl⟩
    rintro B156 H157 σ160 x158 w159 ⟨o161, o162, o163, o164, rfl⟩
    replace w159 : Own K B156 M [⟨p2, (cLst rInt), s155⟩] H157 := w159
    replace hm : some _ = some _ := hm
    obtain rfl := Option.some.inj hm
    exact q_retC (n := 0) (m := 1) w159 rfl rfl fun v9 B9 x9 w9 h9 => k _ _ _ ((x1.trans x158).trans x9) w9 h9
noncomputable def m_l_draw (a0 : (List Int)) (a1 : Int) (a2 : Int) : Option Int :=
  if (decide (a1 < (a0.length : Int))) = true then
    Option.bind (ixL a0 a1) fun t3 =>
    Option.bind (modI t3 a2) fun t5 =>
    some t5
  else
    Option.bind (if (decide ((a0.length : Int) > (0 : Int))) = true then
      Option.bind (modI a1 ((a0.length : Int))) fun t15 =>
      Option.bind (ixL a0 t15) fun t17 =>
      some t17
    else
      some ((1 : Int))
    ) fun (s12 : Int) =>
    Option.bind (mulI ((s12 + a1)) ((a1 + (3 : Int)))) fun t27 =>
    Option.bind (mulI t27 ((7919 : Int))) fun t29 =>
    Option.bind (mulI a1 ((104729 : Int))) fun t31 =>
    Option.bind (modI ((t29 + t31)) ((65521 : Int))) fun t33 =>
    Option.bind (modI t33 a2) fun t35 =>
    some t35
def C__law_draw : List Arg → List Cell → Arg → List Cell → Prop := fun as L r L' => ∃ a0 a1 a2 c, as = [⟨(rLst rInt), a0⟩, ⟨rInt, a1⟩, ⟨rInt, a2⟩] ∧ L = [] ∧ m_l_draw a0 a1 a2 = some c ∧ r = ⟨rInt, c⟩ ∧ L' = []
theorem sc__law_draw : FnScope ["_law_tape_here", "_law_at", "_law_many", "_law_number"] ["_law_tape_here", "_law_at", "_law_many"] (defScope s__law_draw) := ⟨rfl, rfl, rfl, by decide +kernel, rfl, by decide +kernel, by decide +kernel⟩
set_option maxHeartbeats 4000000 in
theorem ok__law_draw (F : FunC K "_law_draw" s__law_draw f fd cc) (z_len : mg "len" = none) (z_int : mg "int" = none) : FnOk P w K mg base CX0 1 f fd ["_law_tape_here", "_law_at", "_law_many"] (spV K T C__law_draw) := by
  refine F.ok sc__law_draw (fun vs H Q E h => ?_) (fun A outer s H vs Q E hr h => ?_)
  · obtain ⟨B, M, L, as, r, L', hT, w, ha, ⟨_, _, _, _, rfl, _⟩, k⟩ := h
    exact args_len ha
  · skip
    obtain ⟨B, M, L, as, r, L', rfl, w, ha, ⟨a0, a1, a2, c, rfl, rfl, hm, rfl, rfl⟩, k⟩ := h
    obtain ⟨u0, u1, u2, rfl, f0, f1, f2⟩ := args3 ha
    replace f0 : ((rLst rInt)).is K B u0 a0 := f0
    replace f1 : (rInt).is K B u1 a1 := f1
    replace f2 : (rInt).is K B u2 a2 := f2
    unfold m_l_draw at hm
    refine ⟨_, (pss_cons (ps_if (pt_cmpR op_lt (pv 1) (pe_callB call_len_seq rfl z_len bt_len (pa_cons (pv 0) pa_nil)) (nomark _)) (pss_cons (ps_ret (pe_op op_mod (pe_callTy call_int1 rfl z_int bt_int (pa_cons (pe_ix ix_seq (pv 0) (pv 1) (fun _ _ => rfl)) pa_nil)) (pv 2))) pss_nil) pss_nil) (pss_cons (ps_set (i := 3) sc__law_draw.nd rfl (by first | exact Or.inl rfl | exact Or.inr rfl) pe_int) (Evl.pss_cut (ps_if (pt_cmpR op_gt (pe_callB call_len_seq rfl z_len bt_len (pa_cons (pv 0) pa_nil)) pe_int (nomark _)) (pss_cons (ps_set (i := 3) sc__law_draw.nd rfl (by first | exact Or.inl rfl | exact Or.inr rfl) (pe_ix ix_seq (pv 0) (pe_op op_mod (pe_callTy call_int1 rfl z_int bt_int (pa_cons (pv 1) pa_nil)) (pe_callB call_len_seq rfl z_len bt_len (pa_cons (pv 0) pa_nil))) (fun _ _ => rfl))) pss_nil) pss_nil) (pss_cons (ps_ret (pe_op op_mod (pe_op op_mod (pe_callTy call_int1 rfl z_int bt_int (pa_cons (pe_op op_add (pe_op op_mulX (pe_op op_mulX (pe_op op_add (pv 3) (pv 1)) (pe_op op_add (pv 1) pe_int)) pe_int) (pe_op op_mulX (pv 1) pe_int)) pa_nil)) pe_int) (pv 2))) pss_nil)))), ?_⟩
    rw [show start ["_law_tape_here", "_law_at", "_law_many", "_law_number"] [u0, u1, u2] = ([some u0, some u1, some u2, none] : L2.St) from rfl]
    refine q_if w (et_test (ev_lt (ev_varI rfl f1) (ev_len (ev_seqL (ev_var rfl f0))))) (fun hb1 B2 H2 x2 (w2 : Own K B2 M [] H2) => ?_) (fun hb1 B7 H7 x7 (w7 : Own K B7 M [] H7) => ?_)
    · skip
      rw [if_pos hb1] at hm
      obtain ⟨t3, e4, hm⟩ := bindS hm
      obtain ⟨t5, e6, hm⟩ := bindS hm
      replace hm : some _ = some _ := hm
      obtain rfl := Option.some.inj hm
      exact q_ret w2 (ev_mod (ev_intI (ev_ix (ev_seqL (ev_var rfl (((rLst rInt)).mono x2 f0))) (ev_varI rfl f1) e4)) (ev_varI rfl f2) e6) fun v9 B9 H9 x9 w9 h9 => k _ _ _ (x2.trans x9) w9 h9
    rw [if_neg (by rw [hb1]; exact Bool.false_ne_true)] at hm
    refine q_asg (n := 3) w7 (ev_int (i := 1)) fun v9 B8 H8 x8 (w8 : Own K B8 M [] H8) h10 => ?_
    obtain ⟨s12, e13, hm⟩ := bindS hm
    refine q_cut (fun σ26 H23 => ∃ v24 B23, Ex B8 B23 ∧ Own K B23 M [] H23 ∧ σ26 = [some u0, some u1, some u2, some v24] ∧ (rInt).is K B23 v24 s12) ?_ ?_
    · skip
      refine q_ifc w8 (et_test (ev_gt (ev_len (ev_seqL (ev_var rfl (((rLst rInt)).mono (x7.trans x8) f0)))) (ev_int (i := 0)))) (fun hb11 B14 H14 x14 (w14 : Own K B14 M [] H14) => ?_) (fun hb11 B22 H22 x22 (w22 : Own K B22 M [] H22) => ?_)
      · skip
        rw [if_pos hb11] at e13
        obtain ⟨t15, e16, e13⟩ := bindS e13
        obtain ⟨t17, e18, e13⟩ := bindS e13
        refine q_asg (n := 3) w14 (ev_ix (ev_seqL (ev_var rfl (((rLst rInt)).mono ((x7.trans x8).trans x14) f0))) (ev_mod (ev_intI (ev_varI rfl f1)) (ev_len (ev_seqL (ev_var rfl (((rLst rInt)).mono ((x7.trans x8).trans x14) f0)))) e16) e18) fun v20 B19 H19 x19 (w19 : Own K B19 M [] H19) h21 => ?_
        replace e13 : some _ = some _ := e13
        cases e13
        exact ⟨v20, _, (x14.trans x19), w19, rfl, h21⟩
      rw [if_neg (by rw [hb11]; exact Bool.false_ne_true)] at e13
      replace e13 : some _ = some _ := e13
      cases e13
      exact ⟨v9, _, x22, w22, rfl, ((rInt).mono x22 h10)⟩
    rintro σ26' H23 ⟨v24, B23, x23, w23, rfl, h25⟩
    obtain ⟨t27, e28, hm⟩ := bindS hm
    obtain ⟨t29, e30, hm⟩ := bindS hm
    obtain ⟨t31, e32, hm⟩ := bindS hm
    obtain ⟨t33, e34, hm⟩ := bindS hm
    obtain ⟨t35, e36, hm⟩ := bindS hm
    replace hm : some _ = some _ := hm
    obtain rfl := Option.some.inj hm
    exact q_ret w23 (ev_mod (ev_mod (ev_intI (ev_add (ev_mul (ev_mul (ev_add (ev_varI rfl h25) (ev_varI rfl f1)) (ev_add (ev_varI rfl f1) (ev_int (i := 3))) e28) (ev_int (i := 7919)) e30) (ev_mul (ev_varI rfl f1) (ev_int (i := 104729)) e32))) (ev_int (i := 65521)) e34) (ev_varI rfl f2) e36) fun v9 B9 H9 x9 w9 h9 => k _ _ _ (((x7.trans x8).trans x23).trans x9) w9 h9
noncomputable def m_l_take (a0 : ((List Int) × Int)) (a1 : Int) : Option (Int × ((List Int) × Int)) :=
  Option.bind (m_l_draw (((a0.1, (a0.2 + (1 : Int)))).1) (((a0.1, (a0.2 + (1 : Int)))).2) a1) fun t2 =>
  some (t2, (a0.1, (a0.2 + (1 : Int))))
def C__law_take : List Arg → List Cell → Arg → List Cell → Prop := fun as L r L' => ∃ a0 a1 p0 c, as = [⟨rRef, p0⟩, ⟨rInt, a1⟩] ∧ L = [⟨p0, (cL2 (rLst rInt) rInt), a0⟩] ∧ m_l_take a0 a1 = some c ∧ r = ⟨rInt, c.1⟩ ∧ L' = [⟨p0, (cL2 (rLst rInt) rInt), c.2⟩]
theorem sc__law_take : FnScope ["_law_state", "_law_many"] ["_law_state", "_law_many"] (defScope s__law_take) := ⟨rfl, rfl, rfl, by decide +kernel, rfl, by decide +kernel, by decide +kernel⟩
set_option maxHeartbeats 4000000 in
theorem ok__law_take (F : FunC K "_law_take" s__law_take f fd cc) (c__law_draw : Cl P w K mg base 1 "_law_draw" (spV K T C__law_draw) []) : FnOk P w K mg base CX0 2 f fd ["_law_state", "_law_many"] (spV K T C__law_take) := by
  refine F.ok sc__law_take (fun vs H Q E h => ?_) (fun A outer s H vs Q E hr h => ?_)
  · obtain ⟨B, M, L, as, r, L', hT, w, ha, ⟨_, _, _, _, rfl, _⟩, k⟩ := h
    exact args_len ha
  · skip
    obtain ⟨B, M, L, as, r, L', rfl, w, ha, ⟨a0, a1, p0, c, rfl, rfl, hm, rfl, rfl⟩, k⟩ := h
    obtain ⟨u0, u1, rfl, f0, f1⟩ := args2 ha
    replace f0 : u0 = V.ref p0 := f0
    subst f0
    replace f1 : (rInt).is K B u1 a1 := f1
    unfold m_l_take at hm
    refine ⟨_, (pss_cons (ps_asg (pe_op op_add (pe_ix ix_seq (pv 0) pe_int (fun _ _ => rfl)) pe_int) (pg_sub (pv 0) pe_int set_list)) (pss_cons (ps_ret (pe_c c__law_draw hr (by omega) rfl (pa_cons (pe_ix ix_seq (pv 0) pe_int (fun _ _ => rfl)) (pa_cons (pe_ix ix_seq (pv 0) pe_int (fun _ _ => rfl)) (pa_cons (pv 1) pa_nil))))) pss_nil)), ?_⟩
    rw [show start ["_law_state", "_law_many"] [.ref p0, u1] = ([some (.ref p0), some u1] : L2.St) from rfl]
    refine q_set1 (n := 0) w (ev_add (ev_l2snd (n := 0) rfl rfl) (ev_int (i := 1))) rfl rfl fun B1 H1 x1 (w1 : Own K B1 M [⟨p0, (cL2 (rLst rInt) rInt), (a0.1, (a0.2 + (1 : Int)))⟩] H1) => ?_
    obtain ⟨t2, e3, hm⟩ := bindS hm
    replace hm : some _ = some _ := hm
    obtain rfl := Option.some.inj hm
    exact q_ret w1 (ev_call (ea_cons (ev_l2fst (n := 0) rfl rfl) (ea_cons (ev_l2snd (n := 0) rfl rfl) (ea_cons (ev_varI rfl f1) ea_nil))) ⟨_, _, _, _, rfl, rfl, e3, rfl, rfl⟩) fun v9 B9 H9 x9 w9 h9 => k _ _ _ (x1.trans x9) w9 h9
noncomputable def F_m_l_equal (rec : PyData → PyData → Option Bool) (a0 : PyData) (a1 : PyData) : Option Bool :=
  if (isNoneD a1) = true then
    some (isNoneD a0)
  else
    if (isBoolD a1) = true then
      Option.bind ((if (isBoolD a0) = true then (Option.bind (eqvD a0 a1) fun t6 => some (t6)) else (some (false)))) fun t8 =>
      some t8
    else
      if (isIntD a1) = true then
        Option.bind ((if (isIntD a0) = true then (Option.bind ((if (!(isBoolD a0)) = true then (Option.bind (eqvD a0 a1) fun t14 => some (t14)) else (some (false)))) fun t16 => some (t16)) else (some (false)))) fun t19 =>
        some t19
      else
        if (isStrD a1) = true then
          Option.bind ((if (isStrD a0) = true then (Option.bind (eqvD a0 a1) fun t25 => some (t25)) else (some (false)))) fun t27 =>
          some t27
        else
          if ((isTupD a1) && (!(isTupD a0))) = true then
            some false
          else
            if ((isLstD a1) && (!(isLstD a0))) = true then
              some false
            else
              Option.bind (lenD a0) fun t37 =>
              Option.bind (lenD a1) fun t39 =>
              if (!decide (t37 = t39)) = true then
                some false
              else
                Option.bind (lenD a1) fun t44 =>
                Option.bind (small62 t44) fun t46 =>
                Option.bind (loopR (S := Unit) (R := Bool) (α := Int) (fun (s48 : Unit) (x49 : Int) => (
                  Option.bind (ixD a0 x49) fun t68 =>
                  Option.bind (ixD a1 x49) fun t70 =>
                  Option.bind (rec t68 t70) fun t72 =>
                  if (!t72) = true then
                    some (Stp.rt false)
                  else
                    some (Stp.nx (()))
                )) (()) ((rng 0 t44))) fun o51 =>
                match o51 with
                | .inl s77 =>
                  some true
                | .inr q9 => some q9
noncomputable def m_l_equal : Nat → PyData → PyData → Option Bool
  | 0 => fun _ _ => none
  | n + 1 => F_m_l_equal (m_l_equal n)
def C__law_equal (n : Nat) : List Arg → List Cell → Arg → List Cell → Prop := fun as L r L' => ∃ a0 a1 c, as = [⟨rDat, a0⟩, ⟨rDat, a1⟩] ∧ L = [] ∧ m_l_equal n a0 a1 = some c ∧ r = ⟨rBool, c⟩ ∧ L' = []
theorem sc__law_equal : FnScope ["_law_actual", "_law_due", "_law_k"] ["_law_actual", "_law_due"] (defScope s__law_equal) := ⟨rfl, rfl, rfl, by decide +kernel, rfl, by decide +kernel, by decide +kernel⟩
set_option maxHeartbeats 4000000 in
theorem ok__law_equal (F : FunC K "_law_equal" s__law_equal f fd cc) (z_isinstance : mg "isinstance" = none) (z_bool : mg "bool" = none) (z_int : mg "int" = none) (z_str : mg "str" = none) (z_tuple : mg "tuple" = none) (z_list : mg "list" = none) (z_len : mg "len" = none) (z_range : mg "range" = none) (n : Nat) (c__law_equal : Cl P w K mg base (0 + n) "_law_equal" (spV K T (C__law_equal n)) []) : FnOk P w K mg base CX0 (0 + n + 1) f fd ["_law_actual", "_law_due"] (spV K T (C__law_equal (n + 1))) := by
  refine F.ok sc__law_equal (fun vs H Q E h => ?_) (fun A outer s H vs Q E hr h => ?_)
  · obtain ⟨B, M, L, as, r, L', hT, w, ha, ⟨_, _, _, rfl, _⟩, k⟩ := h
    exact args_len ha
  · skip
    obtain ⟨B, M, L, as, r, L', rfl, w, ha, ⟨a0, a1, c, rfl, rfl, hm, rfl, rfl⟩, k⟩ := h
    obtain ⟨u0, u1, rfl, f0, f1⟩ := args2 ha
    replace f0 : (rDat).is K B u0 a0 := f0
    replace f1 : (rDat).is K B u1 a1 := f1
    have hu := room_hu hr
    replace hm : F_m_l_equal (m_l_equal n) a0 a1 = some c := hm
    unfold F_m_l_equal at hm
    refine ⟨_, (pss_cons (ps_if (pt_cmp (pc_isN (pv 1))) (pss_cons (ps_ret (pe_cmp (pc_isN (pv 0)))) pss_nil) pss_nil) (pss_cons (ps_if (pt_val (pe_callB call_isi rfl z_isinstance bt_isinstance (pa_cons (pv 1) (pa_cons (pe_bltn (v := .ty "bool") rfl z_bool bt_bool rfl) pa_nil)))) (pss_cons (ps_ret (pe_and (pe_callB call_isi rfl z_isinstance bt_isinstance (pa_cons (pv 0) (pa_cons (pe_bltn (v := .ty "bool") rfl z_bool bt_bool rfl) pa_nil))) (pe_one (pe_cmpR (op_eqD hu) (pv 0) (pv 1) (nomark _))))) pss_nil) pss_nil) (pss_cons (ps_if (pt_val (pe_callB call_isi rfl z_isinstance bt_isinstance (pa_cons (pv 1) (pa_cons (pe_bltn (v := .ty "int") rfl z_int bt_int rfl) pa_nil)))) (pss_cons (ps_ret (pe_and (pe_callB call_isi rfl z_isinstance bt_isinstance (pa_cons (pv 0) (pa_cons (pe_bltn (v := .ty "int") rfl z_int bt_int rfl) pa_nil))) (pe_and (pe_not (pe_callB call_isi rfl z_isinstance bt_isinstance (pa_cons (pv 0) (pa_cons (pe_bltn (v := .ty "bool") rfl z_bool bt_bool rfl) pa_nil)))) (pe_one (pe_cmpR (op_eqD hu) (pv 0) (pv 1) (nomark _)))))) pss_nil) pss_nil) (pss_cons (ps_if (pt_val (pe_callB call_isi rfl z_isinstance bt_isinstance (pa_cons (pv 1) (pa_cons (pe_bltn (v := .ty "str") rfl z_str bt_str rfl) pa_nil)))) (pss_cons (ps_ret (pe_and (pe_callB call_isi rfl z_isinstance bt_isinstance (pa_cons (pv 0) (pa_cons (pe_bltn (v := .ty "str") rfl z_str bt_str rfl) pa_nil))) (pe_one (pe_cmpR (op_eqD hu) (pv 0) (pv 1) (nomark _))))) pss_nil) pss_nil) (pss_cons (ps_if (PW.pt (pw_and (pt_val (pe_callB call_isi rfl z_isinstance bt_isinstance (pa_cons (pv 1) (pa_cons (pe_bltn (v := .ty "tuple") rfl z_tuple bt_tuple rfl) pa_nil)))) (pw_and1 (pt_not (pt_val (pe_callB call_isi rfl z_isinstance bt_isinstance (pa_cons (pv 0) (pa_cons (pe_bltn (v := .ty "tuple") rfl z_tuple bt_tuple rfl) pa_nil)))))))) (pss_cons (ps_ret pe_bl) pss_nil) pss_nil) (pss_cons (ps_if (PW.pt (pw_and (pt_val (pe_callB call_isi rfl z_isinstance bt_isinstance (pa_cons (pv 1) (pa_cons (pe_bltn (v := .ty "list") rfl z_list bt_list rfl) pa_nil)))) (pw_and1 (pt_not (pt_val (pe_callB call_isi rfl z_isinstance bt_isinstance (pa_cons (pv 0) (pa_cons (pe_bltn (v := .ty "list") rfl z_list bt_list rfl) pa_nil)))))))) (pss_cons (ps_ret pe_bl) pss_nil) pss_nil) (pss_cons (ps_if (pt_cmpR op_ne (pe_callB call_len_seq rfl z_len bt_len (pa_cons (pv 0) pa_nil)) (pe_callB call_len_seq rfl z_len bt_len (pa_cons (pv 1) pa_nil)) (nomark _)) (pss_cons (ps_ret pe_bl) pss_nil) pss_nil) (pss_cons (ps_for PassesOwn.never rfl (pi_range1 rfl z_range (pa_cons (pe_callB call_len_seq rfl z_len bt_len (pa_cons (pv 1) pa_nil)) pa_nil)) (pg_name (i := 2) sc__law_equal.nd rfl (by first | exact Or.inl rfl | exact Or.inr rfl)) (pss_cons (ps_if (pt_not (pt_val (pe_c c__law_equal hr (by omega) rfl (pa_cons (pe_ix ix_seq (pv 0) (pv 2) (fun _ _ => rfl)) (pa_cons (pe_ix ix_seq (pv 1) (pv 2) (fun _ _ => rfl)) pa_nil))))) (pss_cons (ps_ret pe_bl) pss_nil) pss_nil) pss_nil)) (pss_cons (ps_ret pe_bl) pss_nil))))))))), ?_⟩
    rw [show start ["_law_actual", "_law_due", "_law_k"] [u0, u1] = ([some u0, some u1, none] : L2.St) from rfl]
    refine q_if w (et_B (ev_isND (ev_var rfl f1))) (fun hb1 B2 H2 x2 (w2 : Own K B2 M [] H2) => ?_) (fun hb1 B3 H3 x3 (w3 : Own K B3 M [] H3) => ?_)
    · skip
      rw [if_pos hb1] at hm
      replace hm : some _ = some _ := hm
      obtain rfl := Option.some.inj hm
      exact q_ret w2 (ev_isND (ev_var rfl ((rDat).mono x2 f0))) fun v9 B9 H9 x9 w9 h9 => k _ _ _ (x2.trans x9) w9 h9
    rw [if_neg (by rw [hb1]; exact Bool.false_ne_true)] at hm
    refine q_if w3 (et_B (ev_isi "bool" isBoolD isi_bool (ev_var rfl ((rDat).mono x3 f1)))) (fun hb4 B5 H5 x5 (w5 : Own K B5 M [] H5) => ?_) (fun hb4 B11 H11 x11 (w11 : Own K B11 M [] H11) => ?_)
    · skip
      rw [if_pos hb4] at hm
      obtain ⟨t8, e9, hm⟩ := bindS hm
      replace hm : some _ = some _ := hm
      obtain rfl := Option.some.inj hm
      exact q_ret w5 (ev_andV (d := t8) (ev_isi "bool" isBoolD isi_bool (ev_var rfl ((rDat).mono (x3.trans x5) f0))) (fun hb10 => by rw [if_pos hb10] at e9; obtain ⟨t6, e7, e9⟩ := bindS e9; obtain rfl := Option.some.inj e9; exact (ev_eqvD (ev_var rfl ((rDat).mono (x3.trans x5) f0)) (ev_var rfl ((rDat).mono (x3.trans x5) f1)) e7)) (fun hb10 => by rw [if_neg (by rw [hb10]; exact Bool.false_ne_true)] at e9; obtain rfl := Option.some.inj e9; exact ⟨rfl, rfl⟩)) fun v9 B9 H9 x9 w9 h9 => k _ _ _ ((x3.trans x5).trans x9) w9 h9
    rw [if_neg (by rw [hb4]; exact Bool.false_ne_true)] at hm
    refine q_if w11 (et_B (ev_isi "int" isIntD isi_int (ev_var rfl ((rDat).mono (x3.trans x11) f1)))) (fun hb12 B13 H13 x13 (w13 : Own K B13 M [] H13) => ?_) (fun hb12 B22 H22 x22 (w22 : Own K B22 M [] H22) => ?_)
    · skip
      rw [if_pos hb12] at hm
      obtain ⟨t19, e20, hm⟩ := bindS hm
      replace hm : some _ = some _ := hm
      obtain rfl := Option.some.inj hm
      exact q_ret w13 (ev_andV (d := t19) (ev_isi "int" isIntD isi_int (ev_var rfl ((rDat).mono ((x3.trans x11).trans x13) f0))) (fun hb21 => by rw [if_pos hb21] at e20; obtain ⟨t16, e17, e20⟩ := bindS e20; obtain rfl := Option.some.inj e20; exact (ev_andV (d := t16) (ev_notV (ev_isi "bool" isBoolD isi_bool (ev_var rfl ((rDat).mono ((x3.trans x11).trans x13) f0)))) (fun hb18 => by rw [if_pos hb18] at e17; obtain ⟨t14, e15, e17⟩ := bindS e17; obtain rfl := Option.some.inj e17; exact (ev_eqvD (ev_var rfl ((rDat).mono ((x3.trans x11).trans x13) f0)) (ev_var rfl ((rDat).mono ((x3.trans x11).trans x13) f1)) e15)) (fun hb18 => by rw [if_neg (by rw [hb18]; exact Bool.false_ne_true)] at e17; obtain rfl := Option.some.inj e17; exact ⟨rfl, rfl⟩))) (fun hb21 => by rw [if_neg (by rw [hb21]; exact Bool.false_ne_true)] at e20; obtain rfl := Option.some.inj e20; exact ⟨rfl, rfl⟩)) fun v9 B9 H9 x9 w9 h9 => k _ _ _ (((x3.trans x11).trans x13).trans x9) w9 h9
    rw [if_neg (by rw [hb12]; exact Bool.false_ne_true)] at hm
    refine q_if w22 (et_B (ev_isi "str" isStrD isi_str (ev_var rfl ((rDat).mono ((x3.trans x11).trans x22) f1)))) (fun hb23 B24 H24 x24 (w24 : Own K B24 M [] H24) => ?_) (fun hb23 B30 H30 x30 (w30 : Own K B30 M [] H30) => ?_)
    · skip
      rw [if_pos hb23] at hm
      obtain ⟨t27, e28, hm⟩ := bindS hm
      replace hm : some _ = some _ := hm
      obtain rfl := Option.some.inj hm
      exact q_ret w24 (ev_andV (d := t27) (ev_isi "str" isStrD isi_str (ev_var rfl ((rDat).mono (((x3.trans x11).trans x22).trans x24) f0))) (fun hb29 => by rw [if_pos hb29] at e28; obtain ⟨t25, e26, e28⟩ := bindS e28; obtain rfl := Option.some.inj e28; exact (ev_eqvD (ev_var rfl ((rDat).mono (((x3.trans x11).trans x22).trans x24) f0)) (ev_var rfl ((rDat).mono (((x3.trans x11).trans x22).trans x24) f1)) e26)) (fun hb29 => by rw [if_neg (by rw [hb29]; exact Bool.false_ne_true)] at e28; obtain rfl := Option.some.inj e28; exact ⟨rfl, rfl⟩)) fun v9 B9 H9 x9 w9 h9 => k _ _ _ ((((x3.trans x11).trans x22).trans x24).trans x9) w9 h9
    rw [if_neg (by rw [hb23]; exact Bool.false_ne_true)] at hm
    refine q_if w30 (et_and (et_B (ev_isi "tuple" isTupD isi_tuple (ev_var rfl ((rDat).mono (((x3.trans x11).trans x22).trans x30) f1)))) fun _ => (et_not (et_B (ev_isi "tuple" isTupD isi_tuple (ev_var rfl ((rDat).mono (((x3.trans x11).trans x22).trans x30) f0)))))) (fun hb31 B32 H32 x32 (w32 : Own K B32 M [] H32) => ?_) (fun hb31 B33 H33 x33 (w33 : Own K B33 M [] H33) => ?_)
    · skip
      rw [if_pos hb31] at hm
      replace hm : some _ = some _ := hm
      obtain rfl := Option.some.inj hm
      exact q_ret w32 (ev_bl (b := false)) fun v9 B9 H9 x9 w9 h9 => k _ _ _ (((((x3.trans x11).trans x22).trans x30).trans x32).trans x9) w9 h9
    rw [if_neg (by rw [hb31]; exact Bool.false_ne_true)] at hm
    refine q_if w33 (et_and (et_B (ev_isi "list" isLstD isi_list (ev_var rfl ((rDat).mono ((((x3.trans x11).trans x22).trans x30).trans x33) f1)))) fun _ => (et_not (et_B (ev_isi "list" isLstD isi_list (ev_var rfl ((rDat).mono ((((x3.trans x11).trans x22).trans x30).trans x33) f0)))))) (fun hb34 B35 H35 x35 (w35 : Own K B35 M [] H35) => ?_) (fun hb34 B36 H36 x36 (w36 : Own K B36 M [] H36) => ?_)
    · skip
      rw [if_pos hb34] at hm
      replace hm : some _ = some _ := hm
      obtain rfl := Option.some.inj hm
      exact q_ret w35 (ev_bl (b := false)) fun v9 B9 H9 x9 w9 h9 => k _ _ _ ((((((x3.trans x11).trans x22).trans x30).trans x33).trans x35).trans x9) w9 h9
    rw [if_neg (by rw [hb34]; exact Bool.false_ne_true)] at hm
    obtain ⟨t37, e38, hm⟩ := bindS hm
    obtain ⟨t39, e40, hm⟩ := bindS hm
    refine q_if w36 (et_test (ev_neI (ev_lenD (ev_var rfl ((rDat).mono (((((x3.trans x11).trans x22).trans x30).trans x33).trans x36) f0)) e38) (ev_lenD (ev_var rfl ((rDat).mono (((((x3.trans x11).trans x22).trans x30).trans x33).trans x36) f1)) e40))) (fun hb41 B42 H42 x42 (w42 : Own K B42 M [] H42) => ?_) (fun hb41 B43 H43 x43 (w43 : Own K B43 M [] H43) => ?_)
    · skip
      rw [if_pos hb41] at hm
      replace hm : some _ = some _ := hm
      obtain rfl := Option.some.inj hm
      exact q_ret w42 (ev_bl (b := false)) fun v9 B9 H9 x9 w9 h9 => k _ _ _ (((((((x3.trans x11).trans x22).trans x30).trans x33).trans x36).trans x42).trans x9) w9 h9
    rw [if_neg (by rw [hb41]; exact Bool.false_ne_true)] at hm
    obtain ⟨t44, e45, hm⟩ := bindS hm
    obtain ⟨t46, e47, hm⟩ := bindS hm
    obtain ⟨o51, e52, hm⟩ := bindS hm
    refine q_forR w43 (ei_rng1 (ea_cons (ev_lenD (ev_var rfl ((rDat).mono ((((((x3.trans x11).trans x22).trans x30).trans x33).trans x36).trans x43) f1)) e45) ea_nil) e47) _ (fun s48 B53 σ66 => ∃ o67, σ66 = [some u0, some u1, o67]) (fun s48 => []) (()) e52 (fun B9 x9 => ⟨_, rfl⟩) rfl ?_ ?_
    · skip
      rintro s48 x49 s84 v59 B53 B54 H55 σ66 hb50 x56 ⟨o67, rfl⟩ x57 w58 h60 ho65 N61 K62 hN63 hB64
      replace w58 : Own K B54 M [] H55 := w58
      refine g_name ?_
      obtain ⟨t68, e69, hb50⟩ := bindS hb50
      obtain ⟨t70, e71, hb50⟩ := bindS hb50
      obtain ⟨t72, e73, hb50⟩ := bindS hb50
      refine q_if w58 (et_not (et_B (ev_call (ea_cons (ev_ixD (ev_var rfl ((rDat).mono ((((((((x3.trans x11).trans x22).trans x30).trans x33).trans x36).trans x43).trans x56).trans x57) f0)) (ev_varI rfl h60) e69) (ea_cons (ev_ixD (ev_var rfl ((rDat).mono ((((((((x3.trans x11).trans x22).trans x30).trans x33).trans x36).trans x43).trans x56).trans x57) f1)) (ev_varI rfl h60) e71) ea_nil)) ⟨_, _, _, rfl, rfl, e73, rfl, rfl⟩))) (fun hb74 B75 H75 x75 (w75 : Own K B75 M [] H75) => ?_) (fun hb74 B76 H76 x76 (w76 : Own K B76 M [] H76) => ?_)
      · skip
        rw [if_pos hb74] at hb50
        replace hb50 : some _ = some _ := hb50
        obtain rfl := Option.some.inj hb50
        obtain rfl := ho65 _ rfl
        replace hm : some _ = some _ := hm
        obtain rfl := Option.some.inj hm
        exact q_ret w75 (ev_bl (b := false)) fun v9 B9 H9 x9 w9 h9 => k _ _ _ ((((((((((x3.trans x11).trans x22).trans x30).trans x33).trans x36).trans x43).trans x56).trans x57).trans x75).trans x9) w9 h9
      rw [if_neg (by rw [hb74]; exact Bool.false_ne_true)] at hb50
      replace hb50 : some _ = some _ := hb50
      cases hb50
      exact hN63 _ _ _ _ rfl x76 w76 ⟨_, rfl⟩
    rintro s77 B78 H79 σ82 rfl x80 w81 ⟨o83, rfl⟩
    dsimp only at hm
    replace w81 : Own K B78 M [] H79 := w81
    replace hm : some _ = some _ := hm
    obtain rfl := Option.some.inj hm
    exact q_ret w81 (ev_bl (b := true)) fun v9 B9 H9 x9 w9 h9 => k _ _ _ ((((((((x3.trans x11).trans x22).trans x30).trans x33).trans x36).trans x43).trans x80).trans x9) w9 h9
theorem all__law_equal (F : FunC K "_law_equal" s__law_equal f fd cc) (z_isinstance : mg "isinstance" = none) (z_bool : mg "bool" = none) (z_int : mg "int" = none) (z_str : mg "str" = none) (z_tuple : mg "tuple" = none) (z_list : mg "list" = none) (z_len : mg "len" = none) (z_range : mg "range" = none) (mf : mg "_law_equal" = some (.ref f)) (kp : PySem.W.keepIn K (.ref f) = true) (bf : Binds K fd ["_law_actual", "_law_due"] []) : ∀ n, FnOk P w K mg base CX0 (0 + n) f fd ["_law_actual", "_law_due"] (spV K T (C__law_equal n))
  | 0 => fn_none fun _ _ _ _ ⟨_, _, _, _, _, h, _⟩ => (by cases h)
  | n + 1 => ok__law_equal F z_isinstance z_bool z_int z_str z_tuple z_list z_len z_range n ⟨f, fd, ["_law_actual", "_law_due"], [], all__law_equal F z_isinstance z_bool z_int z_str z_tuple z_list z_len z_range mf kp bf n, mf, kp, bf, .nil⟩
noncomputable def m_l_ratio (a0 : Int) (a1 : Int) : Option (Int × Int) :=
  Option.bind (if (decide (a1 < (0 : Int))) = true then
    some ((((0 : Int) - a0), ((0 : Int) - a1)))
  else
    some ((a0, a1))
  ) fun (s2 : (Int × Int)) =>
  Option.bind (loopB (S := (Int × Int)) (α := Int) (fun (s24 : (Int × Int)) (x25 : Int) => (
    if (decide (s24.2 = (0 : Int))) = true then
      some (Stp.bk ((s24.1, s24.2)))
    else
      Option.bind (modI s24.1 s24.2) fun t52 =>
      some (Stp.nx ((s24.2, t52)))
  )) ((s2.2, (absI s2.1))) ((rng 0 ((2000 : Int))))) fun s63 =>
  Option.bind (divI s2.1 s63.1) fun t75 =>
  Option.bind (divI s2.2 s63.1) fun t77 =>
  some (t75, t77)
def C__law_ratio : List Arg → List Cell → Arg → List Cell → Prop := fun as L r L' => ∃ a0 a1 c, as = [⟨rInt, a0⟩, ⟨rInt, a1⟩] ∧ L = [] ∧ m_l_ratio a0 a1 = some c ∧ r = ⟨(rT2 rInt rInt), c⟩ ∧ L' = []
theorem sc__law_ratio : FnScope ["_law_n", "_law_d", "_law_a", "_law_b", "_law_k", "_law_rest"] ["_law_n", "_law_d"] (defScope s__law_ratio) := ⟨rfl, rfl, rfl, by decide +kernel, rfl, by decide +kernel, by decide +kernel⟩
set_option maxHeartbeats 4000000 in
theorem ok__law_ratio (F : FunC K "_law_ratio" s__law_ratio f fd cc) (z_abs : mg "abs" = none) (z_range : mg "range" = none) (z_int : mg "int" = none) : FnOk P w K mg base CX0 1 f fd ["_law_n", "_law_d"] (spV K T C__law_ratio) := by
  refine F.ok sc__law_ratio (fun vs H Q E h => ?_) (fun A outer s H vs Q E hr h => ?_)
  · obtain ⟨B, M, L, as, r, L', hT, w, ha, ⟨_, _, _, rfl, _⟩, k⟩ := h
    exact args_len ha
  · skip
    obtain ⟨B, M, L, as, r, L', rfl, w, ha, ⟨a0, a1, c, rfl, rfl, hm, rfl, rfl⟩, k⟩ := h
    obtain ⟨u0, u1, rfl, f0, f1⟩ := args2 ha
    replace f0 : (rInt).is K B u0 a0 := f0
    replace f1 : (rInt).is K B u1 a1 := f1
    unfold m_l_ratio at hm
    refine ⟨_, (Evl.pss_cut (ps_if (pt_cmpR op_lt (pv 1) pe_int (nomark _)) (pss_cons (ps_set (i := 0) sc__law_ratio.nd rfl (by first | exact Or.inl rfl | exact Or.inr rfl) (pe_op op_sub pe_int (pv 0))) (pss_cons (ps_set (i := 1) sc__law_ratio.nd rfl (by first | exact Or.inl rfl | exact Or.inr rfl) (pe_op op_sub pe_int (pv 1))) pss_nil)) pss_nil) (pss_cons (ps_set (i := 2) sc__law_ratio.nd rfl (by first | exact Or.inl rfl | exact Or.inr rfl) (pe_callB call_abs rfl z_abs bt_abs (pa_cons (pv 0) pa_nil))) (pss_cons (ps_set (i := 3) sc__law_ratio.nd rfl (by first | exact Or.inl rfl | exact Or.inr rfl) (pv 1)) (pss_cons (ps_for PassesOwn.never rfl (pi_range1 rfl z_range (pa_cons pe_int pa_nil)) (pg_name (i := 4) sc__law_ratio.nd rfl (by first | exact Or.inl rfl | exact Or.inr rfl)) (pss_cons (ps_if (pt_cmpR op_eq (pv 2) pe_int (nomark _)) (pss_cons ps_break pss_nil) pss_nil) (pss_cons (ps_set (i := 5) sc__law_ratio.nd rfl (by first | exact Or.inl rfl | exact Or.inr rfl) (pe_op op_mod (pe_callTy call_int1 rfl z_int bt_int (pa_cons (pv 3) pa_nil)) (pv 2))) (pss_cons (ps_set (i := 3) sc__law_ratio.nd rfl (by first | exact Or.inl rfl | exact Or.inr rfl) (pv 2)) (pss_cons (ps_set (i := 2) sc__law_ratio.nd rfl (by first | exact Or.inl rfl | exact Or.inr rfl) (pv 5)) pss_nil))))) (pss_cons (ps_ret (pe_tup (pa_cons (pe_op op_fdivW (pv 0) (pv 3)) (pa_cons (pe_op op_fdivW (pv 1) (pv 3)) pa_nil)))) pss_nil))))), ?_⟩
    rw [show start ["_law_n", "_law_d", "_law_a", "_law_b", "_law_k", "_law_rest"] [u0, u1] = ([some u0, some u1, none, none, none, none] : L2.St) from rfl]
    obtain ⟨s2, e3, hm⟩ := bindS hm
    refine q_cut (fun σ17 H12 => ∃ v13 v15 B12, Ex B B12 ∧ Own K B12 M [] H12 ∧ σ17 = [some v13, some v15, none, none, none, none] ∧ (rInt).is K B12 v13 s2.1 ∧ (rInt).is K B12 v15 s2.2) ?_ ?_
    · skip
      refine q_ifc w (et_test (ev_lt (ev_varI rfl f1) (ev_int (i := 0)))) (fun hb1 B4 H4 x4 (w4 : Own K B4 M [] H4) => ?_) (fun hb1 B11 H11 x11 (w11 : Own K B11 M [] H11) => ?_)
      · skip
        rw [if_pos hb1] at e3
        refine q_asg (n := 0) w4 (ev_sub (ev_int (i := 0)) (ev_varI rfl f0)) fun v6 B5 H5 x5 (w5 : Own K B5 M [] H5) h7 => ?_
        refine q_asg (n := 1) w5 (ev_sub (ev_int (i := 0)) (ev_varI rfl f1)) fun v9 B8 H8 x8 (w8 : Own K B8 M [] H8) h10 => ?_
        replace e3 : some _ = some _ := e3
        cases e3
        exact ⟨v6, v9, _, ((x4.trans x5).trans x8), w8, rfl, ((rInt).mono x8 h7), h10⟩
      rw [if_neg (by rw [hb1]; exact Bool.false_ne_true)] at e3
      replace e3 : some _ = some _ := e3
      cases e3
      exact ⟨u0, u1, _, x11, w11, rfl, ((rInt).mono x11 f0), ((rInt).mono x11 f1)⟩
    rintro σ17' H12 ⟨v13, v15, B12, x12, w12, rfl, h14, h16⟩
    refine q_asg (n := 2) w12 (ev_abs (ev_varI rfl h14)) fun v19 B18 H18 x18 (w18 : Own K B18 M [] H18) h20 => ?_
    refine q_asg (n := 3) w18 (ev_varI rfl h16) fun v22 B21 H21 x21 (w21 : Own K B21 M [] H21) h23 => ?_
    obtain ⟨s63, e28, hm⟩ := bindS hm
    refine q_forB w21 (ei_rng1 (ea_cons (ev_int (i := 2000)) ea_nil) (by decide)) _ (fun s24 B29 σ42 => ∃ v43 v45 o47 o48, σ42 = [some v13, some v15, some v45, some v43, o47, o48] ∧ (rInt).is K B29 v43 s24.1 ∧ (rInt).is K B29 v45 s24.2) (fun s24 => []) ((s2.2, (absI s2.1))) e28 (fun B9 x9 => ⟨v22, v19, _, _, rfl, ((rInt).mono x9 h23), ((rInt).mono x9 ((rInt).mono x21 h20))⟩) rfl ?_ ?_
    · skip
      rintro s24 x25 s79 v35 B29 B30 H31 σ42 hb26 x32 ⟨v43, v45, o47, o48, rfl, h44, h46⟩ x33 w34 h36 N37 K38 hN39 hB40
      replace w34 : Own K B30 M [] H31 := w34
      refine g_name ?_
      refine q_if w34 (et_test (ev_eqI (ev_varI rfl h46) (ev_int (i := 0)))) (fun hb49 B50 H50 x50 (w50 : Own K B50 M [] H50) => ?_) (fun hb49 B51 H51 x51 (w51 : Own K B51 M [] H51) => ?_)
      · skip
        rw [if_pos hb49] at hb26
        replace hb26 : some _ = some _ := hb26
        cases hb26
        exact hB40 _ _ _ _ rfl x50 w50 ⟨v43, v45, _, _, rfl, ((rInt).mono (x33.trans x50) h44), ((rInt).mono (x33.trans x50) h46)⟩
      rw [if_neg (by rw [hb49]; exact Bool.false_ne_true)] at hb26
      obtain ⟨t52, e53, hb26⟩ := bindS hb26
      refine q_asg (n := 5) w51 (ev_mod (ev_intI (ev_varI rfl h44)) (ev_varI rfl h46) e53) fun v55 B54 H54 x54 (w54 : Own K B54 M [] H54) h56 => ?_
      refine q_asg (n := 3) w54 (ev_varI rfl h46) fun v58 B57 H57 x57 (w57 : Own K B57 M [] H57) h59 => ?_
      refine q_asg (n := 2) w57 (ev_varI rfl h56) fun v61 B60 H60 x60 (w60 : Own K B60 M [] H60) h62 => ?_
      replace hb26 : some _ = some _ := hb26
      cases hb26
      exact hN39 _ _ _ _ rfl (((x51.trans x54).trans x57).trans x60) w60 ⟨v58, v61, _, _, rfl, ((rInt).mono x60 h59), h62⟩
    rintro B64 H65 σ68 x66 w67 ⟨v69, v71, o73, o74, rfl, h70, h72⟩
    replace w67 : Own K B64 M [] H65 := w67
    obtain ⟨t75, e76, hm⟩ := bindS hm
    obtain ⟨t77, e78, hm⟩ := bindS hm
    replace hm : some _ = some _ := hm
    obtain rfl := Option.some.inj hm
    exact q_ret w67 (ev_T2 (ea_cons (ev_div (ev_varI rfl h14) (ev_varI rfl h70) e76) (ea_cons (ev_div (ev_varI rfl h16) (ev_varI rfl h70) e78) ea_nil))) fun v9 B9 H9 x9 w9 h9 => k _ _ _ ((((x12.trans x18).trans x21).trans x66).trans x9) w9 h9
noncomputable def m_l_ends (a0 : ((List Int) × Int)) (a1 : Int) : Option ((List (Int × Int)) × ((List Int) × Int)) :=
  Option.bind (m_l_take a0 a1) fun t3 =>
  Option.bind (small62 a1) fun t8 =>
  Option.bind (foldO (S := ((List (Int × Int)) × ((List Int) × Int))) (α := Int) (fun (s10 : ((List (Int × Int)) × ((List Int) × Int))) (x11 : Int) => (
    Option.bind ((if (decide (x11 = t3.1)) = true then (some (true, s10.2)) else (Option.bind (m_l_take s10.2 ((3 : Int))) fun t30 => some ((decide (t30.1 = (0 : Int))), t30.2)))) fun t32 =>
    Option.bind (if t32.1 = true then
      Option.bind (m_l_take t32.2 ((6 : Int))) fun t39 =>
      Option.bind (ixL ([(1 : Int), (1 : Int), (2 : Int), (3 : Int), (10 : Int), (1000 : Int)]) t39.1) fun t41 =>
      Option.bind (room s10.1.length) fun t43 =>
      some (((s10.1 ++ [(x11, t41)]), t39.2))
    else
      some ((s10.1, t32.2))
    ) fun (s36 : ((List (Int × Int)) × ((List Int) × Int))) =>
    some ((s36.1, s36.2))
  )) ((([] : List (Int × Int)), t3.2)) ((rng 0 a1))) fun s49 =>
  some (s49.1, s49.2)
def C__law_ends : List Arg → List Cell → Arg → List Cell → Prop := fun as L r L' => ∃ a0 a1 p0 c, as = [⟨rRef, p0⟩, ⟨rInt, a1⟩] ∧ L = [⟨p0, (cL2 (rLst rInt) rInt), a0⟩] ∧ m_l_ends a0 a1 = some c ∧ r = ⟨(rTup (rT2 rInt rInt)), c.1⟩ ∧ L' = [⟨p0, (cL2 (rLst rInt) rInt), c.2⟩]
theorem sc__law_ends : FnScope ["_law_state", "_law_many", "_law_ends_here", "_law_first", "_law_goal"] ["_law_state", "_law_many"] (defScope s__law_ends) := ⟨rfl, rfl, rfl, by decide +kernel, rfl, by decide +kernel, by decide +kernel⟩
set_option maxHeartbeats 4000000 in
theorem ok__law_ends (F : FunC K "_law_ends" s__law_ends f fd cc) (c__law_take : Cl P w K mg base 2 "_law_take" (spV K T C__law_take) []) (z_range : mg "range" = none) (z_tuple : mg "tuple" = none) : FnOk P w K mg base CX0 3 f fd ["_law_state", "_law_many"] (spV K T C__law_ends) := by
  refine F.ok sc__law_ends (fun vs H Q E h => ?_) (fun A outer s H vs Q E hr h => ?_)
  · obtain ⟨B, M, L, as, r, L', hT, w, ha, ⟨_, _, _, _, rfl, _⟩, k⟩ := h
    exact args_len ha
  · skip
    obtain ⟨B, M, L, as, r, L', rfl, w, ha, ⟨a0, a1, p0, c, rfl, rfl, hm, rfl, rfl⟩, k⟩ := h
    obtain ⟨u0, u1, rfl, f0, f1⟩ := args2 ha
    replace f0 : u0 = V.ref p0 := f0
    subst f0
    replace f1 : (rInt).is K B u1 a1 := f1
    unfold m_l_ends at hm
    refine ⟨_, (pss_cons (ps_set (i := 2) sc__law_ends.nd rfl (by first | exact Or.inl rfl | exact Or.inr rfl) (pe_lst pa_nil)) (pss_cons (ps_set (i := 3) sc__law_ends.nd rfl (by first | exact Or.inl rfl | exact Or.inr rfl) (pe_c c__law_take hr (by omega) rfl (pa_cons (pv 0) (pa_cons (pv 1) pa_nil)))) (pss_cons (ps_for PassesOwn.never rfl (pi_range1 rfl z_range (pa_cons (pv 1) pa_nil)) (pg_name (i := 4) sc__law_ends.nd rfl (by first | exact Or.inl rfl | exact Or.inr rfl)) (Evl.pss_cut (ps_if (PW.pt (pw_or (pt_cmpR op_eq (pv 4) (pv 3) (nomark _)) (pw_or1 (pt_cmpR op_eq (pe_c c__law_take hr (by omega) rfl (pa_cons (pv 0) (pa_cons pe_int pa_nil))) pe_int (nomark _))))) (pss_cons (ps_expr (pe_bm PySem.F.plainAttrs_list PySem.F.slot_list_append PySem.F.type_list_append mt_append (pv 2) (pa_cons (pe_tup (pa_cons (pv 4) (pa_cons (pe_ix ix_seq (pe_lst (pa_cons pe_int (pa_cons pe_int (pa_cons pe_int (pa_cons pe_int (pa_cons pe_int (pa_cons pe_int pa_nil))))))) (pe_c c__law_take hr (by omega) rfl (pa_cons (pv 0) (pa_cons pe_int pa_nil))) (fun _ _ => rfl)) pa_nil))) pa_nil))) pss_nil) pss_nil) pss_nil)) (pss_cons (ps_ret (pe_callTy call_tuple_of rfl z_tuple bt_tuple (pa_cons (pv 2) pa_nil))) pss_nil)))), ?_⟩
    rw [show start ["_law_state", "_law_many", "_law_ends_here", "_law_first", "_law_goal"] [.ref p0, u1] = ([some (.ref p0), some u1, none, none, none] : L2.St) from rfl]
    refine q_asgL (n := 2) w (el_lst (r := (rT2 rInt rInt)) ([] : List (Int × Int)) ea_nil) fun p2 B1 H1 x1 (w1 : Own K B1 M [⟨p2, (cLst (rT2 rInt rInt)), ([] : List (Int × Int))⟩, ⟨p0, (cL2 (rLst rInt) rInt), a0⟩] H1) => ?_
    obtain ⟨t3, e4, hm⟩ := bindS hm
    refine q_asg (n := 3) w1 (ev_callC 1 (x := ⟨p0, (cL2 (rLst rInt) rInt), a0⟩) (x' := ⟨p0, (cL2 (rLst rInt) rInt), t3.2⟩) (ea_cons (ev_varR rfl) (ea_cons (ev_varI rfl f1) ea_nil)) rfl ⟨_, _, _, _, rfl, rfl, e4, rfl, rfl⟩ rfl) fun v6 B5 H5 x5 (w5 : Own K B5 M [⟨p2, (cLst (rT2 rInt rInt)), ([] : List (Int × Int))⟩, ⟨p0, (cL2 (rLst rInt) rInt), t3.2⟩] H5) h7 => ?_
    obtain ⟨t8, e9, hm⟩ := bindS hm
    obtain ⟨s49, e14, hm⟩ := bindS hm
    refine q_fold w5 (ei_rng1 (ea_cons (ev_varI rfl f1) ea_nil) e9) _ (fun s10 B15 σ28 => ∃ o29, σ28 = [some (.ref p0), some u1, some (.ref p2), some v6, o29]) (fun s10 => [⟨p2, (cLst (rT2 rInt rInt)), s10.1⟩, ⟨p0, (cL2 (rLst rInt) rInt), s10.2⟩]) ((([] : List (Int × Int)), t3.2)) e14 (fun B9 x9 => ⟨_, rfl⟩) rfl ?_ ?_
    · skip
      rintro s10 x11 s56 v21 B15 B16 H17 σ28 hb12 x18 ⟨o29, rfl⟩ x19 w20 h22 N23 K24 hN25
      replace w20 : Own K B16 M [⟨p2, (cLst (rT2 rInt rInt)), s10.1⟩, ⟨p0, (cL2 (rLst rInt) rInt), s10.2⟩] H17 := w20
      refine g_name ?_
      obtain ⟨t32, e33, hb12⟩ := bindS hb12
      obtain ⟨s36, e37, hb12⟩ := bindS hb12
      refine q_cut (fun σ48 H47 => ∃ B47, Ex B16 B47 ∧ Own K B47 M [⟨p2, (cLst (rT2 rInt rInt)), s36.1⟩, ⟨p0, (cL2 (rLst rInt) rInt), s36.2⟩] H47 ∧ σ48 = [some (.ref p0), some u1, some (.ref p2), some v6, some v21]) ?_ ?_
      · skip
        refine q_ifc w20 (et_or' (d := t32.1) (et_test (ev_eqI (ev_varI rfl h22) (ev_varI rfl h7))) (fun hb34 => by rw [if_neg (by rw [hb34]; exact Bool.false_ne_true)] at e33; obtain ⟨t30, e31, e33⟩ := bindS e33; obtain rfl := Option.some.inj e33; exact (et_test (ev_eqI (ev_callC 1 (x := ⟨p0, (cL2 (rLst rInt) rInt), s10.2⟩) (x' := ⟨p0, (cL2 (rLst rInt) rInt), t30.2⟩) (ea_cons (ev_varR rfl) (ea_cons (ev_int (i := 3)) ea_nil)) rfl ⟨_, _, _, _, rfl, rfl, e31, rfl, rfl⟩ rfl) (ev_int (i := 0))))) (fun hb34 => by rw [if_pos hb34] at e33; obtain rfl := Option.some.inj e33; exact ⟨rfl, rfl⟩)) (fun hb35 B38 H38 x38 (w38 : Own K B38 M [⟨p2, (cLst (rT2 rInt rInt)), s10.1⟩, ⟨p0, (cL2 (rLst rInt) rInt), t32.2⟩] H38) => ?_) (fun hb35 B46 H46 x46 (w46 : Own K B46 M [⟨p2, (cLst (rT2 rInt rInt)), s10.1⟩, ⟨p0, (cL2 (rLst rInt) rInt), t32.2⟩] H46) => ?_)
        · skip
          rw [if_pos hb35] at e37
          obtain ⟨t39, e40, e37⟩ := bindS e37
          obtain ⟨t41, e42, e37⟩ := bindS e37
          obtain ⟨t43, e44, e37⟩ := bindS e37
          refine q_app (n := 0) (m := 2) w38 rfl (ev_T2 (ea_cons (ev_varI rfl h22) (ea_cons (ev_ix (ev_seqL (ev_frz (el_lst (r := rInt) [(1 : Int), (1 : Int), (2 : Int), (3 : Int), (10 : Int), (1000 : Int)] (ea_cons (ev_int (i := 1)) (ea_cons (ev_int (i := 1)) (ea_cons (ev_int (i := 2)) (ea_cons (ev_int (i := 3)) (ea_cons (ev_int (i := 10)) (ea_cons (ev_int (i := 1000)) ea_nil))))))))) (ev_callC 1 (x := ⟨p0, (cL2 (rLst rInt) rInt), t32.2⟩) (x' := ⟨p0, (cL2 (rLst rInt) rInt), t39.2⟩) (ea_cons (ev_varR rfl) (ea_cons (ev_int (i := 6)) ea_nil)) rfl ⟨_, _, _, _, rfl, rfl, e40, rfl, rfl⟩ rfl) e42) ea_nil))) rfl ⟨0, _, rfl⟩ e44 fun B45 H45 x45 (w45 : Own K B45 M [⟨p2, (cLst (rT2 rInt rInt)), (s10.1 ++ [(x11, t41)])⟩, ⟨p0, (cL2 (rLst rInt) rInt), t39.2⟩] H45) => ?_
          replace e37 : some _ = some _ := e37
          cases e37
          exact ⟨_, (x38.trans x45), w45, rfl⟩
        rw [if_neg (by rw [hb35]; exact Bool.false_ne_true)] at e37
        replace e37 : some _ = some _ := e37
        cases e37
        exact ⟨_, x46, w46, rfl⟩
      rintro σ48' H47 ⟨B47, x47, w47, rfl⟩
      replace hb12 : some _ = some _ := hb12
      cases hb12
      exact hN25 _ _ _ x47 w47 ⟨_, rfl⟩
    rintro B50 H51 σ54 x52 w53 ⟨o55, rfl⟩
    replace w53 : Own K B50 M [⟨p2, (cLst (rT2 rInt rInt)), s49.1⟩, ⟨p0, (cL2 (rLst rInt) rInt), s49.2⟩] H51 := w53
    replace hm : some _ = some _ := hm
    obtain rfl := Option.some.inj hm
    exact q_ret w53 (ev_tupOfC (n := 0) (ev_varR rfl) rfl) fun v9 B9 H9 x9 w9 h9 => k _ _ _ (((x1.trans x5).trans x52).trans x9) w9.tail h9
noncomputable def m_l_choices (a0 : ((List Int) × Int)) (a1 : Int) (a2 : Int) : Option ((List (Int × (List (Int × Int)))) × ((List Int) × Int)) :=
  Option.bind (m_l_take a0 a2) fun t3 =>
  Option.bind (small62 (((1 : Int) + t3.1))) fun t5 =>
  Option.bind (foldO (S := ((List (Int × (List (Int × Int)))) × ((List Int) × Int))) (α := Int) (fun (s7 : ((List (Int × (List (Int × Int)))) × ((List Int) × Int))) (x8 : Int) => (
    Option.bind (m_l_take s7.2 ((5 : Int))) fun t27 =>
    Option.bind (ixL ([(0 : Int), (1 : Int), (2 : Int), (5 : Int), (1000 : Int)]) t27.1) fun t29 =>
    Option.bind (m_l_ends t27.2 a1) fun t31 =>
    Option.bind (room s7.1.length) fun t33 =>
    some (((s7.1 ++ [(t29, t31.1)]), t31.2))
  )) ((([] : List (Int × (List (Int × Int)))), t3.2)) ((rng 0 (((1 : Int) + t3.1))))) fun s36 =>
  some (s36.1, s36.2)
def C__law_choices : List Arg → List Cell → Arg → List Cell → Prop := fun as L r L' => ∃ a0 a1 a2 p0 c, as = [⟨rRef, p0⟩, ⟨rInt, a1⟩, ⟨rInt, a2⟩] ∧ L = [⟨p0, (cL2 (rLst rInt) rInt), a0⟩] ∧ m_l_choices a0 a1 a2 = some c ∧ r = ⟨(rTup (rT2 rInt (rTup (rT2 rInt rInt)))), c.1⟩ ∧ L' = [⟨p0, (cL2 (rLst rInt) rInt), c.2⟩]
theorem sc__law_choices : FnScope ["_law_state", "_law_many", "_law_most", "_law_choices_here", "_law_k"] ["_law_state", "_law_many", "_law_most"] (defScope s__law_choices) := ⟨rfl, rfl, rfl, by decide +kernel, rfl, by decide +kernel, by decide +kernel⟩
set_option maxHeartbeats 4000000 in
theorem ok__law_choices (F : FunC K "_law_choices" s__law_choices f fd cc) (c__law_take : Cl P w K mg base 2 "_law_take" (spV K T C__law_take) []) (c__law_ends : Cl P w K mg base 3 "_law_ends" (spV K T C__law_ends) []) (z_range : mg "range" = none) (z_tuple : mg "tuple" = none) : FnOk P w K mg base CX0 4 f fd ["_law_state", "_law_many", "_law_most"] (spV K T C__law_choices) := by
  refine F.ok sc__law_choices (fun vs H Q E h => ?_) (fun A outer s H vs Q E hr h => ?_)
  · obtain ⟨B, M, L, as, r, L', hT, w, ha, ⟨_, _, _, _, _, rfl, _⟩, k⟩ := h
    exact args_len ha
  · skip
    obtain ⟨B, M, L, as, r, L', rfl, w, ha, ⟨a0, a1, a2, p0, c, rfl, rfl, hm, rfl, rfl⟩, k⟩ := h
    obtain ⟨u0, u1, u2, rfl, f0, f1, f2⟩ := args3 ha
    replace f0 : u0 = V.ref p0 := f0
    subst f0
    replace f1 : (rInt).is K B u1 a1 := f1
    replace f2 : (rInt).is K B u2 a2 := f2
    unfold m_l_choices at hm
    refine ⟨_, (pss_cons (ps_set (i := 3) sc__law_choices.nd rfl (by first | exact Or.inl rfl | exact Or.inr rfl) (pe_lst pa_nil)) (pss_cons (ps_for PassesOwn.never rfl (pi_range1 rfl z_range (pa_cons (pe_op op_add pe_int (pe_c c__law_take hr (by omega) rfl (pa_cons (pv 0) (pa_cons (pv 2) pa_nil)))) pa_nil)) (pg_name (i := 4) sc__law_choices.nd rfl (by first | exact Or.inl rfl | exact Or.inr rfl)) (pss_cons (ps_expr (pe_bm PySem.F.plainAttrs_list PySem.F.slot_list_append PySem.F.type_list_append mt_append (pv 3) (pa_cons (pe_tup (pa_cons (pe_ix ix_seq (pe_lst (pa_cons pe_int (pa_cons pe_int (pa_cons pe_int (pa_cons pe_int (pa_cons pe_int pa_nil)))))) (pe_c c__law_take hr (by omega) rfl (pa_cons (pv 0) (pa_cons pe_int pa_nil))) (fun _ _ => rfl)) (pa_cons (pe_c c__law_ends hr (by omega) rfl (pa_cons (pv 0) (pa_cons (pv 1) pa_nil))) pa_nil))) pa_nil))) pss_nil)) (pss_cons (ps_ret (pe_callTy call_tuple_of rfl z_tuple bt_tuple (pa_cons (pv 3) pa_nil))) pss_nil))), ?_⟩
    rw [show start ["_law_state", "_law_many", "_law_most", "_law_choices_here", "_law_k"] [.ref p0, u1, u2] = ([some (.ref p0), some u1, some u2, none, none] : L2.St) from rfl]
    refine q_asgL (n := 3) w (el_lst (r := (rT2 rInt (rTup (rT2 rInt rInt)))) ([] : List (Int × (List (Int × Int)))) ea_nil) fun p2 B1 H1 x1 (w1 : Own K B1 M [⟨p2, (cLst (rT2 rInt (rTup (rT2 rInt rInt)))), ([] : List (Int × (List (Int × Int))))⟩, ⟨p0, (cL2 (rLst rInt) rInt), a0⟩] H1) => ?_
    obtain ⟨t3, e4, hm⟩ := bindS hm
    obtain ⟨t5, e6, hm⟩ := bindS hm
    obtain ⟨s36, e11, hm⟩ := bindS hm
    refine q_fold w1 (ei_rng1 (ea_cons (ev_add (ev_int (i := 1)) (ev_callC 1 (x := ⟨p0, (cL2 (rLst rInt) rInt), a0⟩) (x' := ⟨p0, (cL2 (rLst rInt) rInt), t3.2⟩) (ea_cons (ev_varR rfl) (ea_cons (ev_varI rfl f2) ea_nil)) rfl ⟨_, _, _, _, rfl, rfl, e4, rfl, rfl⟩ rfl)) ea_nil) e6) _ (fun s7 B12 σ25 => ∃ o26, σ25 = [some (.ref p0), some u1, some u2, some (.ref p2), o26]) (fun s7 => [⟨p2, (cLst (rT2 rInt (rTup (rT2 rInt rInt)))), s7.1⟩, ⟨p0, (cL2 (rLst rInt) rInt), s7.2⟩]) ((([] : List (Int × (List (Int × Int)))), t3.2)) e11 (fun B9 x9 => ⟨_, rfl⟩) rfl ?_ ?_
    · skip
      rintro s7 x8 s43 v18 B12 B13 H14 σ25 hb9 x15 ⟨o26, rfl⟩ x16 w17 h19 N20 K21 hN22
      replace w17 : Own K B13 M [⟨p2, (cLst (rT2 rInt (rTup (rT2 rInt rInt)))), s7.1⟩, ⟨p0, (cL2 (rLst rInt) rInt), s7.2⟩] H14 := w17
      refine g_name ?_
      obtain ⟨t27, e28, hb9⟩ := bindS hb9
      obtain ⟨t29, e30, hb9⟩ := bindS hb9
      obtain ⟨t31, e32, hb9⟩ := bindS hb9
      obtain ⟨t33, e34, hb9⟩ := bindS hb9
      refine q_app (n := 0) (m := 3) w17 rfl (ev_T2 (ea_cons (ev_ix (ev_seqL (ev_frz (el_lst (r := rInt) [(0 : Int), (1 : Int), (2 : Int), (5 : Int), (1000 : Int)] (ea_cons (ev_int (i := 0)) (ea_cons (ev_int (i := 1)) (ea_cons (ev_int (i := 2)) (ea_cons (ev_int (i := 5)) (ea_cons (ev_int (i := 1000)) ea_nil)))))))) (ev_callC 1 (x := ⟨p0, (cL2 (rLst rInt) rInt), s7.2⟩) (x' := ⟨p0, (cL2 (rLst rInt) rInt), t27.2⟩) (ea_cons (ev_varR rfl) (ea_cons (ev_int (i := 5)) ea_nil)) rfl ⟨_, _, _, _, rfl, rfl, e28, rfl, rfl⟩ rfl) e30) (ea_cons (ev_callC 1 (x := ⟨p0, (cL2 (rLst rInt) rInt), t27.2⟩) (x' := ⟨p0, (cL2 (rLst rInt) rInt), t31.2⟩) (ea_cons (ev_varR rfl) (ea_cons (ev_varI rfl f1) ea_nil)) rfl ⟨_, _, _, _, rfl, rfl, e32, rfl, rfl⟩ rfl) ea_nil))) rfl ⟨0, _, rfl⟩ e34 fun B35 H35 x35 (w35 : Own K B35 M [⟨p2, (cLst (rT2 rInt (rTup (rT2 rInt rInt)))), (s7.1 ++ [(t29, t31.1)])⟩, ⟨p0, (cL2 (rLst rInt) rInt), t31.2⟩] H35) => ?_
      replace hb9 : some _ = some _ := hb9
      cases hb9
      exact hN22 _ _ _ x35 w35 ⟨_, rfl⟩
    rintro B37 H38 σ41 x39 w40 ⟨o42, rfl⟩
    replace w40 : Own K B37 M [⟨p2, (cLst (rT2 rInt (rTup (rT2 rInt rInt)))), s36.1⟩, ⟨p0, (cL2 (rLst rInt) rInt), s36.2⟩] H38 := w40
    replace hm : some _ = some _ := hm
    obtain rfl := Option.some.inj hm
    exact q_ret w40 (ev_tupOfC (n := 0) (ev_varR rfl) rfl) fun v9 B9 H9 x9 w9 h9 => k _ _ _ ((x1.trans x39).trans x9) w9.tail h9
noncomputable def m_l_system (a0 : ((List Int) × Int)) (a1 : Int) : Option ((List (List (Int × (List (Int × Int))))) × ((List Int) × Int)) :=
  Option.bind (m_l_take a0 a1) fun t1 =>
  Option.bind (small62 (((1 : Int) + t1.1))) fun t6 =>
  Option.bind (room ((rng 0 (((1 : Int) + t1.1)))).length) fun t34 =>
  Option.bind (compM (S := ((List Int) × Int)) (β := (List (Int × (List (Int × Int))))) (fun (s8 : ((List Int) × Int)) (x15 : Int) => (Option.bind (m_l_choices s8 (((1 : Int) + t1.1)) ((3 : Int))) fun t32 => some (some t32.1, t32.2))) t1.2 ((rng 0 (((1 : Int) + t1.1))))) fun t36 =>
  some (t36.1, t36.2)
def C__law_system : List Arg → List Cell → Arg → List Cell → Prop := fun as L r L' => ∃ a0 a1 p0 c, as = [⟨rRef, p0⟩, ⟨rInt, a1⟩] ∧ L = [⟨p0, (cL2 (rLst rInt) rInt), a0⟩] ∧ m_l_system a0 a1 = some c ∧ r = ⟨(rTup (rTup (rT2 rInt (rTup (rT2 rInt rInt))))), c.1⟩ ∧ L' = [⟨p0, (cL2 (rLst rInt) rInt), c.2⟩]
theorem sc__law_system : FnScope ["_law_state", "_law_most", "_law_many", "_law_k"] ["_law_state", "_law_most"] (defScope s__law_system) := ⟨rfl, rfl, rfl, by decide +kernel, rfl, by decide +kernel, by decide +kernel⟩
set_option maxHeartbeats 4000000 in
theorem ok__law_system (F : FunC K "_law_system" s__law_system f fd cc) (c__law_take : Cl P w K mg base 2 "_law_take" (spV K T C__law_take) []) (c__law_choices : Cl P w K mg base 4 "_law_choices" (spV K T C__law_choices) []) (z_range : mg "range" = none) (z_tuple : mg "tuple" = none) : FnOk P w K mg base CX0 5 f fd ["_law_state", "_law_most"] (spV K T C__law_system) := by
  refine F.ok sc__law_system (fun vs H Q E h => ?_) (fun A outer s H vs Q E hr h => ?_)
  · obtain ⟨B, M, L, as, r, L', hT, w, ha, ⟨_, _, _, _, rfl, _⟩, k⟩ := h
    exact args_len ha
  · skip
    obtain ⟨B, M, L, as, r, L', rfl, w, ha, ⟨a0, a1, p0, c, rfl, rfl, hm, rfl, rfl⟩, k⟩ := h
    obtain ⟨u0, u1, rfl, f0, f1⟩ := args2 ha
    replace f0 : u0 = V.ref p0 := f0
    subst f0
    replace f1 : (rInt).is K B u1 a1 := f1
    unfold m_l_system at hm
    refine ⟨_, (pss_cons (ps_set (i := 2) sc__law_system.nd rfl (by first | exact Or.inl rfl | exact Or.inr rfl) (pe_op op_add pe_int (pe_c c__law_take hr (by omega) rfl (pa_cons (pv 0) (pa_cons (pv 1) pa_nil))))) (pss_cons (ps_ret (pe_callTy call_tuple_of rfl z_tuple bt_tuple (pa_cons (pe_lc rfl sc__law_system.nd (pi_range1 rfl z_range (pa_cons (pv 2) pa_nil)) (blkOk_by (own := [("_law_k", 3)]) (show blkC ["_law_state", "_law_most", "_law_many", "_law_k"] (defScope s__law_system) _ _ = true by decide +kernel)) (fun _ _ _ _ _ => (pg_name (i := 3) sc__law_system.nd rfl (by first | exact Or.inl rfl | exact Or.inr rfl))) (fun _ _ _ _ _ => pts_nil) (fun _ _ _ _ _ => (pe_c c__law_choices hr (by omega) rfl (pa_cons (pv 0) (pa_cons (pv 2) (pa_cons pe_int pa_nil)))))) pa_nil))) pss_nil)), ?_⟩
    rw [show start ["_law_state", "_law_most", "_law_many", "_law_k"] [.ref p0, u1] = ([some (.ref p0), some u1, none, none] : L2.St) from rfl]
    obtain ⟨t1, e2, hm⟩ := bindS hm
    refine q_asg (n := 2) w (ev_add (ev_int (i := 1)) (ev_callC 0 (x := ⟨p0, (cL2 (rLst rInt) rInt), a0⟩) (x' := ⟨p0, (cL2 (rLst rInt) rInt), t1.2⟩) (ea_cons (ev_varR rfl) (ea_cons (ev_varI rfl f1) ea_nil)) rfl ⟨_, _, _, _, rfl, rfl, e2, rfl, rfl⟩ rfl)) fun v4 B3 H3 x3 (w3 : Own K B3 M [⟨p0, (cL2 (rLst rInt) rInt), t1.2⟩] H3) h5 => ?_
    obtain ⟨t6, e7, hm⟩ := bindS hm
    obtain ⟨t34, e35, hm⟩ := bindS hm
    obtain ⟨t36, e37, hm⟩ := bindS hm
    replace hm : some _ = some _ := hm
    obtain rfl := Option.some.inj hm
    exact q_ret w3 (ev_tupOfL (ev_frz (el_lc (S := ((List Int) × Int)) (ys := t36.1) (s1 := t36.2) (s0 := t1.2) (σ' := [some (.ref p0), some u1, some v4, none]) (rTup (rT2 rInt (rTup (rT2 rInt rInt)))) (ei_rng1 (ea_cons (ev_varI rfl h5) ea_nil) e7) _ (fun (s8 : ((List Int) × Int)) => [⟨p0, (cL2 (rLst rInt) rInt), s8⟩]) rfl e37 e35 rfl (by rintro s8 x15 o20 s21 v13 D18 a19 B9 H10 hb17 x11 w12 h14 PY22 PN23 qY24 qN25; replace w12 : Own K B9 M [⟨D18, (cLst (rTup (rT2 rInt (rTup (rT2 rInt rInt))))), a19⟩, ⟨p0, (cL2 (rLst rInt) rInt), s8⟩] H10 := w12; refine g_name ?_; refine ⟨rfl, ?_⟩; obtain ⟨t32, e33, hb17⟩ := bindS hb17; obtain ⟨rfl, rfl⟩ := Prod.mk.inj (Option.some.inj hb17); refine lc_yes ?_; exact (ev_callC 1 (x := ⟨p0, (cL2 (rLst rInt) rInt), s8⟩) (x' := ⟨p0, (cL2 (rLst rInt) rInt), t32.2⟩) (ea_cons (ev_varR rfl) (ea_cons (ev_varI rfl h5) (ea_cons (ev_int (i := 3)) ea_nil))) rfl ⟨_, _, _, _, _, rfl, rfl, e33, rfl, rfl⟩ rfl) B9 H10 (Ex.refl _) w12 _ fun v26 B27 H28 x29 w30 h31 => qY24 v26 B27 H28 _ rfl x29 w30 h31)))) fun v9 B9 H9 x9 w9 h9 => k _ _ _ (x3.trans x9) w9 h9
noncomputable def m_l_large (a0 : ((List Int) × Int)) (a1 : Int) : Option ((List (List (Int × (List (Int × Int))))) × ((List Int) × Int)) :=
  Option.bind (small62 a1) fun t3 =>
  Option.bind (foldO (S := ((List (List (Int × (List (Int × Int))))) × ((List Int) × Int))) (α := Int) (fun (s5 : ((List (List (Int × (List (Int × Int))))) × ((List Int) × Int))) (x6 : Int) => (
    Option.bind (m_l_take s5.2 ((3 : Int))) fun t31 =>
    Option.bind (ixL ([(1 : Int), (2 : Int), (6 : Int)]) t31.1) fun t33 =>
    Option.bind (small62 t33) fun t35 =>
    Option.bind (foldO (S := ((List (Int × (List (Int × Int)))) × ((List Int) × Int))) (α := Int) (fun (s37 : ((List (Int × (List (Int × Int)))) × ((List Int) × Int))) (x38 : Int) => (
      Option.bind (m_l_take s37.2 ((6 : Int))) fun t61 =>
      Option.bind (small62 (((1 : Int) + t61.1))) fun t63 =>
      Option.bind (foldO (S := ((List (Int × Int)) × ((List Int) × Int))) (α := Int) (fun (s65 : ((List (Int × Int)) × ((List Int) × Int))) (x66 : Int) => (
        Option.bind (m_l_take s65.2 ((5 : Int))) fun t85 =>
        Option.bind (ixL ([(1 : Int), (1 : Int), (2 : Int), (5 : Int), (1000 : Int)]) t85.1) fun t87 =>
        Option.bind (m_l_take t85.2 a1) fun t89 =>
        Option.bind (room s65.1.length) fun t91 =>
        some (((putI s65.1 t89.1 t87), t89.2))
      )) (([], t61.2)) ((rng 0 (((1 : Int) + t61.1))))) fun s94 =>
      Option.bind (m_l_take s94.2 ((1001 : Int))) fun t101 =>
      Option.bind (room s37.1.length) fun t103 =>
      some (((s37.1 ++ [(t101.1, (sortI s94.1))]), t101.2))
    )) ((([] : List (Int × (List (Int × Int)))), t31.2)) ((rng 0 t33))) fun s107 =>
    Option.bind (room s5.1.length) fun t116 =>
    some (((s5.1 ++ [s107.1]), s107.2))
  )) ((([] : List (List (Int × (List (Int × Int))))), a0)) ((rng 0 a1))) fun s120 =>
  some (s120.1, s120.2)
def C__law_large : List Arg → List Cell → Arg → List Cell → Prop := fun as L r L' => ∃ a0 a1 p0 c, as = [⟨rRef, p0⟩, ⟨rInt, a1⟩] ∧ L = [⟨p0, (cL2 (rLst rInt) rInt), a0⟩] ∧ m_l_large a0 a1 = some c ∧ r = ⟨(rTup (rTup (rT2 rInt (rTup (rT2 rInt rInt))))), c.1⟩ ∧ L' = [⟨p0, (cL2 (rLst rInt) rInt), c.2⟩]
theorem sc__law_large : FnScope ["_law_state", "_law_many", "_law_system_here", "_law_k", "_law_choices_here", "_law_number", "_law_ends_here", "_law_j"] ["_law_state", "_law_many"] (defScope s__law_large) := ⟨rfl, rfl, rfl, by decide +kernel, rfl, by decide +kernel, by decide +kernel⟩
set_option maxHeartbeats 4000000 in
theorem ok__law_large (F : FunC K "_law_large" s__law_large f fd cc) (c__law_take : Cl P w K mg base 2 "_law_take" (spV K T C__law_take) []) (z_range : mg "range" = none) (z_sorted : mg "sorted" = none) (z_tuple : mg "tuple" = none) : FnOk P w K mg base CX0 3 f fd ["_law_state", "_law_many"] (spV K T C__law_large) := by
  refine F.ok sc__law_large (fun vs H Q E h => ?_) (fun A outer s H vs Q E hr h => ?_)
  · obtain ⟨B, M, L, as, r, L', hT, w, ha, ⟨_, _, _, _, rfl, _⟩, k⟩ := h
    exact args_len ha
  · skip
    obtain ⟨B, M, L, as, r, L', rfl, w, ha, ⟨a0, a1, p0, c, rfl, rfl, hm, rfl, rfl⟩, k⟩ := h
    obtain ⟨u0, u1, rfl, f0, f1⟩ := args2 ha
    replace f0 : u0 = V.ref p0 := f0
    subst f0
    replace f1 : (rInt).is K B u1 a1 := f1
    unfold m_l_large at hm
    refine ⟨_, (pss_cons (ps_set (i := 2) sc__law_large.nd rfl (by first | exact Or.inl rfl | exact Or.inr rfl) (pe_lst pa_nil)) (pss_cons (ps_for PassesOwn.never rfl (pi_range1 rfl z_range (pa_cons (pv 1) pa_nil)) (pg_name (i := 3) sc__law_large.nd rfl (by first | exact Or.inl rfl | exact Or.inr rfl)) (pss_cons (ps_set (i := 4) sc__law_large.nd rfl (by first | exact Or.inl rfl | exact Or.inr rfl) (pe_lst pa_nil)) (pss_cons (ps_for PassesOwn.never rfl (pi_range1 rfl z_range (pa_cons (pe_ix ix_seq (pe_lst (pa_cons pe_int (pa_cons pe_int (pa_cons pe_int pa_nil)))) (pe_c c__law_take hr (by omega) rfl (pa_cons (pv 0) (pa_cons pe_int pa_nil))) (fun _ _ => rfl)) pa_nil)) (pg_name (i := 5) sc__law_large.nd rfl (by first | exact Or.inl rfl | exact Or.inr rfl)) (pss_cons (ps_set (i := 6) sc__law_large.nd rfl (by first | exact Or.inl rfl | exact Or.inr rfl) pe_dnewK) (pss_cons (ps_for PassesOwn.never rfl (pi_range1 rfl z_range (pa_cons (pe_op op_add pe_int (pe_c c__law_take hr (by omega) rfl (pa_cons (pv 0) (pa_cons pe_int pa_nil)))) pa_nil)) (pg_name (i := 7) sc__law_large.nd rfl (by first | exact Or.inl rfl | exact Or.inr rfl)) (pss_cons (ps_asg (pe_ix ix_seq (pe_lst (pa_cons pe_int (pa_cons pe_int (pa_cons pe_int (pa_cons pe_int (pa_cons pe_int pa_nil)))))) (pe_c c__law_take hr (by omega) rfl (pa_cons (pv 0) (pa_cons pe_int pa_nil))) (fun _ _ => rfl)) (pg_sub (pv 6) (pe_c c__law_take hr (by omega) rfl (pa_cons (pv 0) (pa_cons (pv 1) pa_nil))) (set_dict (by have := room_hu hr; exact Nat.lt_of_le_of_lt (Nat.add_le_add_left (by decide) _) this)))) pss_nil)) (pss_cons (ps_expr (pe_bm PySem.F.plainAttrs_list PySem.F.slot_list_append PySem.F.type_list_append mt_append (pv 4) (pa_cons (pe_tup (pa_cons (pe_c c__law_take hr (by omega) rfl (pa_cons (pv 0) (pa_cons pe_int pa_nil))) (pa_cons (pe_callTy call_tuple_of rfl z_tuple bt_tuple (pa_cons (L3G.pe_sortI rfl (pv 6) rfl z_sorted bt_sorted) pa_nil)) pa_nil))) pa_nil))) pss_nil)))) (pss_cons (ps_expr (pe_bm PySem.F.plainAttrs_list PySem.F.slot_list_append PySem.F.type_list_append mt_append (pv 2) (pa_cons (pe_callTy call_tuple_of rfl z_tuple bt_tuple (pa_cons (pv 4) pa_nil)) pa_nil))) pss_nil)))) (pss_cons (ps_ret (pe_callTy call_tuple_of rfl z_tuple bt_tuple (pa_cons (pv 2) pa_nil))) pss_nil))), ?_⟩
    rw [show start ["_law_state", "_law_many", "_law_system_here", "_law_k", "_law_choices_here", "_law_number", "_law_ends_here", "_law_j"] [.ref p0, u1] = ([some (.ref p0), some u1, none, none, none, none, none, none] : L2.St) from rfl]
    refine q_asgL (n := 2) w (el_lst (r := (rTup (rT2 rInt (rTup (rT2 rInt rInt))))) ([] : List (List (Int × (List (Int × Int))))) ea_nil) fun p2 B1 H1 x1 (w1 : Own K B1 M [⟨p2, (cLst (rTup (rT2 rInt (rTup (rT2 rInt rInt))))), ([] : List (List (Int × (List (Int × Int)))))⟩, ⟨p0, (cL2 (rLst rInt) rInt), a0⟩] H1) => ?_
    obtain ⟨t3, e4, hm⟩ := bindS hm
    obtain ⟨s120, e9, hm⟩ := bindS hm
    refine q_fold w1 (ei_rng1 (ea_cons (ev_varI rfl f1) ea_nil) e4) _ (fun s5 B10 σ23 => ∃ o24 o25 o26 o27 o28, σ23 = [some (.ref p0), some u1, some (.ref p2), o24, o25, o26, o27, o28]) (fun s5 => [⟨p2, (cLst (rTup (rT2 rInt (rTup (rT2 rInt rInt))))), s5.1⟩, ⟨p0, (cL2 (rLst rInt) rInt), s5.2⟩]) ((([] : List (List (Int × (List (Int × Int))))), a0)) e9 (fun B9 x9 => ⟨_, _, _, _, _, rfl⟩) rfl ?_ ?_
    · skip
      rintro s5 x6 s131 v16 B10 B11 H12 σ23 hb7 x13 ⟨o24, o25, o26, o27, o28, rfl⟩ x14 w15 h17 N18 K19 hN20
      replace w15 : Own K B11 M [⟨p2, (cLst (rTup (rT2 rInt (rTup (rT2 rInt rInt))))), s5.1⟩, ⟨p0, (cL2 (rLst rInt) rInt), s5.2⟩] H12 := w15
      refine g_name ?_
      refine q_asgL (n := 4) w15 (el_lst (r := (rT2 rInt (rTup (rT2 rInt rInt)))) ([] : List (Int × (List (Int × Int)))) ea_nil) fun p30 B29 H29 x29 (w29 : Own K B29 M [⟨p30, (cLst (rT2 rInt (rTup (rT2 rInt rInt)))), ([] : List (Int × (List (Int × Int))))⟩, ⟨p2, (cLst (rTup (rT2 rInt (rTup (rT2 rInt rInt))))), s5.1⟩, ⟨p0, (cL2 (rLst rInt) rInt), s5.2⟩] H29) => ?_
      obtain ⟨t31, e32, hb7⟩ := bindS hb7
      obtain ⟨t33, e34, hb7⟩ := bindS hb7
      obtain ⟨t35, e36, hb7⟩ := bindS hb7
      obtain ⟨s107, e41, hb7⟩ := bindS hb7
      refine q_fold w29 (ei_rng1 (ea_cons (ev_ix (ev_seqL (ev_frz (el_lst (r := rInt) [(1 : Int), (2 : Int), (6 : Int)] (ea_cons (ev_int (i := 1)) (ea_cons (ev_int (i := 2)) (ea_cons (ev_int (i := 6)) ea_nil)))))) (ev_callC 2 (x := ⟨p0, (cL2 (rLst rInt) rInt), s5.2⟩) (x' := ⟨p0, (cL2 (rLst rInt) rInt), t31.2⟩) (ea_cons (ev_varR rfl) (ea_cons (ev_int (i := 3)) ea_nil)) rfl ⟨_, _, _, _, rfl, rfl, e32, rfl, rfl⟩ rfl) e34) ea_nil) e36) _ (fun s37 B42 σ55 => ∃ o56 o57 o58, σ55 = [some (.ref p0), some u1, some (.ref p2), some v16, some (.ref p30), o56, o57, o58]) (fun s37 => [⟨p30, (cLst (rT2 rInt (rTup (rT2 rInt rInt)))), s37.1⟩, ⟨p2, (cLst (rTup (rT2 rInt (rTup (rT2 rInt rInt))))), s5.1⟩, ⟨p0, (cL2 (rLst rInt) rInt), s37.2⟩]) ((([] : List (Int × (List (Int × Int)))), t31.2)) e41 (fun B9 x9 => ⟨_, _, _, rfl⟩) rfl ?_ ?_
      · skip
        rintro s37 x38 s119 v48 B42 B43 H44 σ55 hb39 x45 ⟨o56, o57, o58, rfl⟩ x46 w47 h49 N50 K51 hN52
        replace w47 : Own K B43 M [⟨p30, (cLst (rT2 rInt (rTup (rT2 rInt rInt)))), s37.1⟩, ⟨p2, (cLst (rTup (rT2 rInt (rTup (rT2 rInt rInt))))), s5.1⟩, ⟨p0, (cL2 (rLst rInt) rInt), s37.2⟩] H44 := w47
        refine g_name ?_
        refine q_asgD (n := 6) w47 fun p60 H59 (w59 : Own K B43 M [⟨p60, cDk, []⟩, ⟨p30, (cLst (rT2 rInt (rTup (rT2 rInt rInt)))), s37.1⟩, ⟨p2, (cLst (rTup (rT2 rInt (rTup (rT2 rInt rInt))))), s5.1⟩, ⟨p0, (cL2 (rLst rInt) rInt), s37.2⟩] H59) => ?_
        obtain ⟨t61, e62, hb39⟩ := bindS hb39
        obtain ⟨t63, e64, hb39⟩ := bindS hb39
        obtain ⟨s94, e69, hb39⟩ := bindS hb39
        refine q_fold w59 (ei_rng1 (ea_cons (ev_add (ev_int (i := 1)) (ev_callC 3 (x := ⟨p0, (cL2 (rLst rInt) rInt), s37.2⟩) (x' := ⟨p0, (cL2 (rLst rInt) rInt), t61.2⟩) (ea_cons (ev_varR rfl) (ea_cons (ev_int (i := 6)) ea_nil)) rfl ⟨_, _, _, _, rfl, rfl, e62, rfl, rfl⟩ rfl)) ea_nil) e64) _ (fun s65 B70 σ83 => ∃ o84, σ83 = [some (.ref p0), some u1, some (.ref p2), some v16, some (.ref p30), some v48, some (.ref p60), o84]) (fun s65 => [⟨p60, cDk, s65.1⟩, ⟨p30, (cLst (rT2 rInt (rTup (rT2 rInt rInt)))), s37.1⟩, ⟨p2, (cLst (rTup (rT2 rInt (rTup (rT2 rInt rInt))))), s5.1⟩, ⟨p0, (cL2 (rLst rInt) rInt), s65.2⟩]) (([], t61.2)) e69 (fun B9 x9 => ⟨_, rfl⟩) rfl ?_ ?_
        · skip
          rintro s65 x66 s106 v76 B70 B71 H72 σ83 hb67 x73 ⟨o84, rfl⟩ x74 w75 h77 N78 K79 hN80
          replace w75 : Own K B71 M [⟨p60, cDk, s65.1⟩, ⟨p30, (cLst (rT2 rInt (rTup (rT2 rInt rInt)))), s37.1⟩, ⟨p2, (cLst (rTup (rT2 rInt (rTup (rT2 rInt rInt))))), s5.1⟩, ⟨p0, (cL2 (rLst rInt) rInt), s65.2⟩] H72 := w75
          refine g_name ?_
          obtain ⟨t85, e86, hb67⟩ := bindS hb67
          obtain ⟨t87, e88, hb67⟩ := bindS hb67
          obtain ⟨t89, e90, hb67⟩ := bindS hb67
          obtain ⟨t91, e92, hb67⟩ := bindS hb67
          refine q_setD (n := 0) w75 (ev_ix (ev_seqL (ev_frz (el_lst (r := rInt) [(1 : Int), (1 : Int), (2 : Int), (5 : Int), (1000 : Int)] (ea_cons (ev_int (i := 1)) (ea_cons (ev_int (i := 1)) (ea_cons (ev_int (i := 2)) (ea_cons (ev_int (i := 5)) (ea_cons (ev_int (i := 1000)) ea_nil)))))))) (ev_callC 3 (x := ⟨p0, (cL2 (rLst rInt) rInt), s65.2⟩) (x' := ⟨p0, (cL2 (rLst rInt) rInt), t85.2⟩) (ea_cons (ev_varR rfl) (ea_cons (ev_int (i := 5)) ea_nil)) rfl ⟨_, _, _, _, rfl, rfl, e86, rfl, rfl⟩ rfl) e88) rfl (ev_callC 3 (x := ⟨p0, (cL2 (rLst rInt) rInt), t85.2⟩) (x' := ⟨p0, (cL2 (rLst rInt) rInt), t89.2⟩) (ea_cons (ev_varR rfl) (ea_cons (ev_varI rfl f1) ea_nil)) rfl ⟨_, _, _, _, rfl, rfl, e90, rfl, rfl⟩ rfl) rfl e92 fun B93 H93 x93 (w93 : Own K B93 M [⟨p60, cDk, (putI s65.1 t89.1 t87)⟩, ⟨p30, (cLst (rT2 rInt (rTup (rT2 rInt rInt)))), s37.1⟩, ⟨p2, (cLst (rTup (rT2 rInt (rTup (rT2 rInt rInt))))), s5.1⟩, ⟨p0, (cL2 (rLst rInt) rInt), t89.2⟩] H93) => ?_
          replace hb67 : some _ = some _ := hb67
          cases hb67
          exact hN80 _ _ _ x93 w93 ⟨_, rfl⟩
        rintro B95 H96 σ99 x97 w98 ⟨o100, rfl⟩
        replace w98 : Own K B95 M [⟨p60, cDk, s94.1⟩, ⟨p30, (cLst (rT2 rInt (rTup (rT2 rInt rInt)))), s37.1⟩, ⟨p2, (cLst (rTup (rT2 rInt (rTup (rT2 rInt rInt))))), s5.1⟩, ⟨p0, (cL2 (rLst rInt) rInt), s94.2⟩] H96 := w98
        obtain ⟨t101, e102, hb39⟩ := bindS hb39
        obtain ⟨t103, e104, hb39⟩ := bindS hb39
        refine q_app (n := 1) (m := 4) w98 rfl (ev_T2 (ea_cons (ev_callC 3 (x := ⟨p0, (cL2 (rLst rInt) rInt), s94.2⟩) (x' := ⟨p0, (cL2 (rLst rInt) rInt), t101.2⟩) (ea_cons (ev_varR rfl) (ea_cons (ev_int (i := 1001)) ea_nil)) rfl ⟨_, _, _, _, rfl, rfl, e102, rfl, rfl⟩ rfl) (ea_cons (ev_tupOfL (ev_frz (el_sortI (n := 0) rfl rfl))) ea_nil))) rfl ⟨1, _, rfl⟩ e104 fun B105 H105 x105 (w105 : Own K B105 M [⟨p60, cDk, s94.1⟩, ⟨p30, (cLst (rT2 rInt (rTup (rT2 rInt rInt)))), (s37.1 ++ [(t101.1, (sortI s94.1))])⟩, ⟨p2, (cLst (rTup (rT2 rInt (rTup (rT2 rInt rInt))))), s5.1⟩, ⟨p0, (cL2 (rLst rInt) rInt), t101.2⟩] H105) => ?_
        replace hb39 : some _ = some _ := hb39
        cases hb39
        exact hN52 _ _ _ (x97.trans x105) w105.tail ⟨_, _, _, rfl⟩
      rintro B108 H109 σ112 x110 w111 ⟨o113, o114, o115, rfl⟩
      replace w111 : Own K B108 M [⟨p30, (cLst (rT2 rInt (rTup (rT2 rInt rInt)))), s107.1⟩, ⟨p2, (cLst (rTup (rT2 rInt (rTup (rT2 rInt rInt))))), s5.1⟩, ⟨p0, (cL2 (rLst rInt) rInt), s107.2⟩] H109 := w111
      obtain ⟨t116, e117, hb7⟩ := bindS hb7
      refine q_app (n := 1) (m := 2) w111 rfl (ev_tupOfC (n := 0) (ev_varR rfl) rfl) rfl ⟨1, _, rfl⟩ e117 fun B118 H118 x118 (w118 : Own K B118 M [⟨p30, (cLst (rT2 rInt (rTup (rT2 rInt rInt)))), s107.1⟩, ⟨p2, (cLst (rTup (rT2 rInt (rTup (rT2 rInt rInt))))), (s5.1 ++ [s107.1])⟩, ⟨p0, (cL2 (rLst rInt) rInt), s107.2⟩] H118) => ?_
      replace hb7 : some _ = some _ := hb7
      cases hb7
      exact hN20 _ _ _ ((x29.trans x110).trans x118) w118.tail ⟨_, _, _, _, _, rfl⟩
    rintro B121 H122 σ125 x123 w124 ⟨o126, o127, o128, o129, o130, rfl⟩
    replace w124 : Own K B121 M [⟨p2, (cLst (rTup (rT2 rInt (rTup (rT2 rInt rInt))))), s120.1⟩, ⟨p0, (cL2 (rLst rInt) rInt), s120.2⟩] H122 := w124
    replace hm : some _ = some _ := hm
    obtain rfl := Option.some.inj hm
    exact q_ret w124 (ev_tupOfC (n := 0) (ev_varR rfl) rfl) fun v9 B9 H9 x9 w9 h9 => k _ _ _ ((x1.trans x123).trans x9) w9.tail h9
noncomputable def m_law (a0 : (List Int)) : Option Bool :=
  Option.bind (m_l_tape a0) fun t1 =>
  Option.bind (m_l_system ((t1, (0 : Int))) ((5 : Int))) fun t5 =>
  Option.bind (m_l_take t5.2 ((6 : Int))) fun t10 =>
  Option.bind (if (decide (t10.1 = (0 : Int))) = true then
    Option.bind (m_l_take t10.2 ((13 : Int))) fun t16 =>
    Option.bind (m_l_large t16.2 (((8 : Int) + t16.1))) fun t18 =>
    some ((t18.1, t18.2))
  else
    some ((t5.1, t10.2))
  ) fun (s13 : ((List (List (Int × (List (Int × Int))))) × ((List Int) × Int))) =>
  Option.bind (small62 ((s13.1.length : Int))) fun t28 =>
  Option.bind (loopR (S := Unit) (R := Bool) (α := Int) (fun (s30 : Unit) (x31 : Int) => (
    Option.bind (ixL s13.1 x31) fun t57 =>
    Option.bind (small62 ((t57.length : Int))) fun t59 =>
    Option.bind (loopR (S := Unit) (R := Bool) (α := Int) (fun (s61 : Unit) (x62 : Int) => (
      Option.bind (ixL s13.1 x31) fun t87 =>
      Option.bind (ixL t87 x62) fun t89 =>
      Option.bind (room t89.2.length) fun t118 =>
      Option.bind (compM (S := Unit) (β := Int) (fun (s94 : Unit) (x101 : (Int × Int)) => ( some (some x101.2, ()))) (()) t89.2) fun t120 =>
      Option.bind (m_moves s13.1 x31 x62) fun t125 =>
      Option.bind (room t89.2.length) fun t156 =>
      Option.bind (compM (S := Unit) (β := (Int × (Int × Int))) (fun (s130 : Unit) (x137 : (Int × Int)) => (Option.bind (m_l_ratio x137.2 t120.1.sum) fun t154 => some (some ((x137.1, t154)), ()))) (()) t89.2) fun t158 =>
      Option.bind (m_l_equal 8 (((dLst (dT2 PyData.int (dT2 PyData.int PyData.int))) t125)) (((dLst (dT2 PyData.int (dT2 PyData.int PyData.int))) t158.1))) fun t160 =>
      if (!t160) = true then
        some (Stp.rt false)
      else
        Option.bind (foldO (S := (Int × Int)) (α := (Int × (Int × Int))) (fun (s168 : (Int × Int)) (x169 : (Int × (Int × Int))) => (
          Option.bind (m_plus s168 x169.2) fun t195 =>
          some t195
        )) (((0 : Int), (1 : Int))) t125) fun s200 =>
        if (!decide (s200 = ((1 : Int), (1 : Int)))) = true then
          some (Stp.rt false)
        else
          some (Stp.nx (()))
    )) (()) ((rng 0 ((t57.length : Int))))) fun o64 =>
    match o64 with
    | .inl s214 =>
      some (Stp.nx (()))
    | .inr q9 => some (Stp.rt q9)
  )) (()) ((rng 0 ((s13.1.length : Int))))) fun o33 =>
  match o33 with
  | .inl s228 =>
    some true
  | .inr q9 => some q9
def C_law : List Arg → List Cell → Arg → List Cell → Prop := fun as L r L' => ∃ a0 c, as = [⟨(rLst rInt), a0⟩] ∧ L = [] ∧ m_law a0 = some c ∧ r = ⟨rBool, c⟩ ∧ L' = []
theorem sc_law : FnScope ["_law_script", "_law_state", "_law_system_here", "_law_at", "_law_number", "_law_ends_here", "_law_whole", "_law_told", "_law_total", "_law_end", "_law_chance"] ["_law_script"] (defScope s_law) := ⟨rfl, rfl, rfl, by decide +kernel, rfl, by decide +kernel, by decide +kernel⟩
set_option maxHeartbeats 4000000 in
theorem ok_law (F : FunC K "law" s_law f fd cc) (c__law_tape : Cl P w K mg base 1 "_law_tape" (spV K T C__law_tape) []) (c__law_system : Cl P w K mg base 5 "_law_system" (spV K T C__law_system) []) (c__law_take : Cl P w K mg base 2 "_law_take" (spV K T C__law_take) []) (c__law_large : Cl P w K mg base 3 "_law_large" (spV K T C__law_large) []) (c_moves : Cl P w K mg base 3 "moves" (spV K T C_moves) []) (c__law_equal : Cl P w K mg base 8 "_law_equal" (spV K T (C__law_equal 8)) []) (c__law_ratio : Cl P w K mg base 1 "_law_ratio" (spV K T C__law_ratio) []) (c_plus : Cl P w K mg base 2 "plus" (spV K T C_plus) []) (z_range : mg "range" = none) (z_len : mg "len" = none) (z_sum : mg "sum" = none) : FnOk P w K mg base CX0 9 f fd ["_law_script"] (spV K T C_law) := by
  refine F.ok sc_law (fun vs H Q E h => ?_) (fun A outer s H vs Q E hr h => ?_)
  · obtain ⟨B, M, L, as, r, L', hT, w, ha, ⟨_, _, rfl, _⟩, k⟩ := h
    exact args_len ha
  · skip
    obtain ⟨B, M, L, as, r, L', rfl, w, ha, ⟨a0, c, rfl, rfl, hm, rfl, rfl⟩, k⟩ := h
    obtain ⟨u0, rfl, f0⟩ := args1 ha
    replace f0 : ((rLst rInt)).is K B u0 a0 := f0
    have hu := room_hu hr
    unfold m_law at hm
    refine ⟨_, (pss_cons (ps_set (i := 1) sc_law.nd rfl (by first | exact Or.inl rfl | exact Or.inr rfl) (pe_lst (pa_cons (pe_c c__law_tape hr (by omega) rfl (pa_cons (pv 0) pa_nil)) (pa_cons pe_int pa_nil)))) (pss_cons (ps_set (i := 2) sc_law.nd rfl (by first | exact Or.inl rfl | exact Or.inr rfl) (pe_c c__law_system hr (by omega) rfl (pa_cons (pv 1) (pa_cons pe_int pa_nil)))) (Evl.pss_cut (ps_if (pt_cmpR op_eq (pe_c c__law_take hr (by omega) rfl (pa_cons (pv 1) (pa_cons pe_int pa_nil))) pe_int (nomark _)) (pss_cons (ps_set (i := 2) sc_law.nd rfl (by first | exact Or.inl rfl | exact Or.inr rfl) (pe_c c__law_large hr (by omega) rfl (pa_cons (pv 1) (pa_cons (pe_op op_add pe_int (pe_c c__law_take hr (by omega) rfl (pa_cons (pv 1) (pa_cons pe_int pa_nil)))) pa_nil)))) pss_nil) pss_nil) (pss_cons (ps_for PassesOwn.never rfl (pi_range1 rfl z_range (pa_cons (pe_callB call_len_seq rfl z_len bt_len (pa_cons (pv 2) pa_nil)) pa_nil)) (pg_name (i := 3) sc_law.nd rfl (by first | exact Or.inl rfl | exact Or.inr rfl)) (pss_cons (ps_for PassesOwn.never rfl (pi_range1 rfl z_range (pa_cons (pe_callB call_len_seq rfl z_len bt_len (pa_cons (pe_ix ix_seq (pv 2) (pv 3) (fun _ _ => rfl)) pa_nil)) pa_nil)) (pg_name (i := 4) sc_law.nd rfl (by first | exact Or.inl rfl | exact Or.inr rfl)) (pss_cons (ps_set (i := 5) sc_law.nd rfl (by first | exact Or.inl rfl | exact Or.inr rfl) (pe_ix ix_seq (pe_ix ix_seq (pe_ix ix_seq (pv 2) (pv 3) (fun _ _ => rfl)) (pv 4) (fun _ _ => rfl)) pe_int (fun _ _ => rfl))) (pss_cons (ps_set (i := 6) sc_law.nd rfl (by first | exact Or.inl rfl | exact Or.inr rfl) (pe_callB (cr_sum rfl) rfl z_sum bt_sum (pa_cons (pe_lc rfl sc_law.nd (pi_tup (pv 5)) (blkOk_by (own := [("_law_end", 9)]) (show blkC ["_law_script", "_law_state", "_law_system_here", "_law_at", "_law_number", "_law_ends_here", "_law_whole", "_law_told", "_law_total", "_law_end", "_law_chance"] (defScope s_law) _ _ = true by decide +kernel)) (fun _ _ _ _ _ => (pg_name (i := 9) sc_law.nd rfl (by first | exact Or.inl rfl | exact Or.inr rfl))) (fun _ _ _ _ _ => pts_nil) (fun _ _ _ _ _ => (pe_ix (show IxR _ (rIx K) from ix_seq) (pv 9) pe_int (fun _ _ => rfl)))) pa_nil))) (pss_cons (ps_set (i := 7) sc_law.nd rfl (by first | exact Or.inl rfl | exact Or.inr rfl) (pe_c c_moves hr (by omega) rfl (pa_cons (pv 2) (pa_cons (pv 3) (pa_cons (pv 4) pa_nil))))) (pss_cons (ps_if (pt_not (pt_val (pe_c c__law_equal hr (by omega) rfl (pa_cons (pv 7) (pa_cons (pe_lc rfl sc_law.nd (pi_tup (pv 5)) (blkOk_by (own := [("_law_end", 9)]) (show blkC ["_law_script", "_law_state", "_law_system_here", "_law_at", "_law_number", "_law_ends_here", "_law_whole", "_law_told", "_law_total", "_law_end", "_law_chance"] (defScope s_law) _ _ = true by decide +kernel)) (fun _ _ _ _ _ => (pg_name (i := 9) sc_law.nd rfl (by first | exact Or.inl rfl | exact Or.inr rfl))) (fun _ _ _ _ _ => pts_nil) (fun _ _ _ _ _ => (pe_tup (pa_cons (pe_ix (show IxR _ (rIx K) from ix_seq) (pv 9) pe_int (fun _ _ => rfl)) (pa_cons (pe_c c__law_ratio hr (by omega) rfl (pa_cons (pe_ix (show IxR _ (rIx K) from ix_seq) (pv 9) pe_int (fun _ _ => rfl)) (pa_cons (pv 6) pa_nil))) pa_nil))))) pa_nil))))) (pss_cons (ps_ret pe_bl) pss_nil) pss_nil) (pss_cons (ps_set (i := 8) sc_law.nd rfl (by first | exact Or.inl rfl | exact Or.inr rfl) (pe_tup (pa_cons pe_int (pa_cons pe_int pa_nil)))) (pss_cons (ps_for PassesOwn.never rfl (pi_list (pv 7)) (pg_tup rfl (pgs_cons (pg_name (i := 9) sc_law.nd rfl (by first | exact Or.inl rfl | exact Or.inr rfl)) (pgs_cons (pg_name (i := 10) sc_law.nd rfl (by first | exact Or.inl rfl | exact Or.inr rfl)) pgs_nil))) (pss_cons (ps_set (i := 8) sc_law.nd rfl (by first | exact Or.inl rfl | exact Or.inr rfl) (pe_c c_plus hr (by omega) rfl (pa_cons (pv 8) (pa_cons (pv 10) pa_nil)))) pss_nil)) (pss_cons (ps_if (pt_cmpR (op_neD hu) (pv 8) (pe_tup (pa_cons pe_int (pa_cons pe_int pa_nil))) (nomark _)) (pss_cons (ps_ret pe_bl) pss_nil) pss_nil) pss_nil)))))))) pss_nil)) (pss_cons (ps_ret pe_bl) pss_nil))))), ?_⟩
    rw [show start ["_law_script", "_law_state", "_law_system_here", "_law_at", "_law_number", "_law_ends_here", "_law_whole", "_law_told", "_law_total", "_law_end", "_law_chance"] [u0] = ([some u0, none, none, none, none, none, none, none, none, none, none] : L2.St) from rfl]
    obtain ⟨t1, e2, hm⟩ := bindS hm
    refine q_asgL2 (n := 1) (r := (rLst rInt)) (s := rInt) w (ea_cons (ev_call (ea_cons (ev_var rfl f0) ea_nil) ⟨_, _, rfl, rfl, e2, rfl, rfl⟩) (ea_cons (ev_int (i := 0)) ea_nil)) fun p4 B3 H3 x3 (w3 : Own K B3 M [⟨p4, (cL2 (rLst rInt) rInt), (t1, (0 : Int))⟩] H3) => ?_
    obtain ⟨t5, e6, hm⟩ := bindS hm
    refine q_asg (n := 2) w3 (ev_callC 0 (x := ⟨p4, (cL2 (rLst rInt) rInt), (t1, (0 : Int))⟩) (x' := ⟨p4, (cL2 (rLst rInt) rInt), t5.2⟩) (ea_cons (ev_varR rfl) (ea_cons (ev_int (i := 5)) ea_nil)) rfl ⟨_, _, _, _, rfl, rfl, e6, rfl, rfl⟩ rfl) fun v8 B7 H7 x7 (w7 : Own K B7 M [⟨p4, (cL2 (rLst rInt) rInt), t5.2⟩] H7) h9 => ?_
    obtain ⟨t10, e11, hm⟩ := bindS hm
    obtain ⟨s13, e14, hm⟩ := bindS hm
    refine q_cut (fun σ27 H24 => ∃ v25 B24, Ex B7 B24 ∧ Own K B24 M [⟨p4, (cL2 (rLst rInt) rInt), s13.2⟩] H24 ∧ σ27 = [some u0, some (.ref p4), some v25, none, none, none, none, none, none, none, none] ∧ ((rTup (rTup (rT2 rInt (rTup (rT2 rInt rInt)))))).is K B24 v25 s13.1) ?_ ?_
    · skip
      refine q_ifc w7 (et_test (ev_eqI (ev_callC 0 (x := ⟨p4, (cL2 (rLst rInt) rInt), t5.2⟩) (x' := ⟨p4, (cL2 (rLst rInt) rInt), t10.2⟩) (ea_cons (ev_varR rfl) (ea_cons (ev_int (i := 6)) ea_nil)) rfl ⟨_, _, _, _, rfl, rfl, e11, rfl, rfl⟩ rfl) (ev_int (i := 0)))) (fun hb12 B15 H15 x15 (w15 : Own K B15 M [⟨p4, (cL2 (rLst rInt) rInt), t10.2⟩] H15) => ?_) (fun hb12 B23 H23 x23 (w23 : Own K B23 M [⟨p4, (cL2 (rLst rInt) rInt), t10.2⟩] H23) => ?_)
      · skip
        rw [if_pos hb12] at e14
        obtain ⟨t16, e17, e14⟩ := bindS e14
        obtain ⟨t18, e19, e14⟩ := bindS e14
        refine q_asg (n := 2) w15 (ev_callC 0 (x := ⟨p4, (cL2 (rLst rInt) rInt), t16.2⟩) (x' := ⟨p4, (cL2 (rLst rInt) rInt), t18.2⟩) (ea_cons (ev_varR rfl) (ea_cons (ev_add (ev_int (i := 8)) (ev_callC 0 (x := ⟨p4, (cL2 (rLst rInt) rInt), t10.2⟩) (x' := ⟨p4, (cL2 (rLst rInt) rInt), t16.2⟩) (ea_cons (ev_varR rfl) (ea_cons (ev_int (i := 13)) ea_nil)) rfl ⟨_, _, _, _, rfl, rfl, e17, rfl, rfl⟩ rfl)) ea_nil)) rfl ⟨_, _, _, _, rfl, rfl, e19, rfl, rfl⟩ rfl) fun v21 B20 H20 x20 (w20 : Own K B20 M [⟨p4, (cL2 (rLst rInt) rInt), t18.2⟩] H20) h22 => ?_
        replace e14 : some _ = some _ := e14
        cases e14
        exact ⟨v21, _, (x15.trans x20), w20, rfl, h22⟩
      rw [if_neg (by rw [hb12]; exact Bool.false_ne_true)] at e14
      replace e14 : some _ = some _ := e14
      cases e14
      exact ⟨v8, _, x23, w23, rfl, (((rTup (rTup (rT2 rInt (rTup (rT2 rInt rInt)))))).mono x23 h9)⟩
    rintro σ27' H24 ⟨v25, B24, x24, w24, rfl, h26⟩
    obtain ⟨t28, e29, hm⟩ := bindS hm
    obtain ⟨o33, e34, hm⟩ := bindS hm
    refine q_forR w24 (ei_rng1 (ea_cons (ev_len (ev_seqT (ev_var rfl h26))) ea_nil) e29) _ (fun s30 B35 σ48 => ∃ o49 o50 o51 o52 o53 o54 o55 o56, σ48 = [some u0, some (.ref p4), some v25, o49, o50, o51, o52, o53, o54, o55, o56]) (fun s30 => [⟨p4, (cL2 (rLst rInt) rInt), s13.2⟩]) (()) e34 (fun B9 x9 => ⟨_, _, _, _, _, _, _, _, rfl⟩) rfl ?_ ?_
    · skip
      rintro s30 x31 s242 v41 B35 B36 H37 σ48 hb32 x38 ⟨o49, o50, o51, o52, o53, o54, o55, o56, rfl⟩ x39 w40 h42 ho47 N43 K44 hN45 hB46
      replace w40 : Own K B36 M [⟨p4, (cL2 (rLst rInt) rInt), s13.2⟩] H37 := w40
      refine g_name ?_
      obtain ⟨t57, e58, hb32⟩ := bindS hb32
      obtain ⟨t59, e60, hb32⟩ := bindS hb32
      obtain ⟨o64, e65, hb32⟩ := bindS hb32
      refine q_forR w40 (ei_rng1 (ea_cons (ev_len (ev_seqT (ev_ix (ev_seqT (ev_var rfl (((rTup (rTup (rT2 rInt (rTup (rT2 rInt rInt)))))).mono (x38.trans x39) h26))) (ev_varI rfl h42) e58))) ea_nil) e60) _ (fun s61 B66 σ79 => ∃ o80 o81 o82 o83 o84 o85 o86, σ79 = [some u0, some (.ref p4), some v25, some v41, o80, o81, o82, o83, o84, o85, o86]) (fun s61 => [⟨p4, (cL2 (rLst rInt) rInt), s13.2⟩]) (()) e65 (fun B9 x9 => ⟨_, _, _, _, _, _, _, rfl⟩) rfl ?_ ?_
      · skip
        rintro s61 x62 s227 v72 B66 B67 H68 σ79 hb63 x69 ⟨o80, o81, o82, o83, o84, o85, o86, rfl⟩ x70 w71 h73 ho78 N74 K75 hN76 hB77
        replace w71 : Own K B67 M [⟨p4, (cL2 (rLst rInt) rInt), s13.2⟩] H68 := w71
        refine g_name ?_
        obtain ⟨t87, e88, hb63⟩ := bindS hb63
        obtain ⟨t89, e90, hb63⟩ := bindS hb63
        refine q_asg (n := 5) w71 (ev_snd (ev_ix (ev_seqT (ev_ix (ev_seqT (ev_var rfl (((rTup (rTup (rT2 rInt (rTup (rT2 rInt rInt)))))).mono (((x38.trans x39).trans x69).trans x70) h26))) (ev_varI rfl h42) e88)) (ev_varI rfl h73) e90)) fun v92 B91 H91 x91 (w91 : Own K B91 M [⟨p4, (cL2 (rLst rInt) rInt), s13.2⟩] H91) h93 => ?_
        obtain ⟨t118, e119, hb63⟩ := bindS hb63
        obtain ⟨t120, e121, hb63⟩ := bindS hb63
        refine q_asg (n := 6) w91 (ev_sumL (ev_frz (el_lc (S := Unit) (ys := t120.1) (s1 := t120.2) (s0 := ()) (σ' := [some u0, some (.ref p4), some v25, some v41, some v72, some v92, o82, o83, o84, none, o86]) rInt (ei_tup (ev_var rfl h93)) _ (fun (s94 : Unit) => [⟨p4, (cL2 (rLst rInt) rInt), s13.2⟩]) rfl e121 e119 rfl (by rintro s94 x101 o106 s107 v99 D104 a105 B95 H96 hb103 x97 w98 h100 PY108 PN109 qY110 qN111; replace w98 : Own K B95 M [⟨D104, (cLst rInt), a105⟩, ⟨p4, (cL2 (rLst rInt) rInt), s13.2⟩] H96 := w98; refine g_name ?_; refine ⟨rfl, ?_⟩; obtain ⟨rfl, rfl⟩ := Prod.mk.inj (Option.some.inj hb103); refine lc_yes ?_; exact (ev_snd (ev_var rfl h100)) B95 H96 (Ex.refl _) w98 _ fun v112 B113 H114 x115 w116 h117 => qY110 v112 B113 H114 _ rfl x115 w116 h117)))) fun v123 B122 H122 x122 (w122 : Own K B122 M [⟨p4, (cL2 (rLst rInt) rInt), s13.2⟩] H122) h124 => ?_
        obtain ⟨t125, e126, hb63⟩ := bindS hb63
        refine q_asg (n := 7) w122 (ev_call (ea_cons (ev_var rfl (((rTup (rTup (rT2 rInt (rTup (rT2 rInt rInt)))))).mono (((((x38.trans x39).trans x69).trans x70).trans x91).trans x122) h26)) (ea_cons (ev_varI rfl h42) (ea_cons (ev_varI rfl h73) ea_nil))) ⟨_, _, _, _, rfl, rfl, e126, rfl, rfl⟩) fun v128 B127 H127 x127 (w127 : Own K B127 M [⟨p4, (cL2 (rLst rInt) rInt), s13.2⟩] H127) h129 => ?_
        obtain ⟨t156, e157, hb63⟩ := bindS hb63
        obtain ⟨t158, e159, hb63⟩ := bindS hb63
        obtain ⟨t160, e161, hb63⟩ := bindS hb63
        refine q_if w127 (et_not (et_B (ev_call (ea_cons (ev_dq (ev_var rfl h129) (dq_lst (dq_T2 dq_int (dq_T2 dq_int dq_int)))) (ea_cons (ev_dq (ev_frz (el_lc (S := Unit) (ys := t158.1) (s1 := t158.2) (s0 := ()) (σ' := [some u0, some (.ref p4), some v25, some v41, some v72, some v92, some v123, some v128, o84, none, o86]) (rT2 rInt (rT2 rInt rInt)) (ei_tup (ev_var rfl (((rTup (rT2 rInt rInt))).mono (x122.trans x127) h93))) _ (fun (s130 : Unit) => [⟨p4, (cL2 (rLst rInt) rInt), s13.2⟩]) rfl e159 e157 rfl (by rintro s130 x137 o142 s143 v135 D140 a141 B131 H132 hb139 x133 w134 h136 PY144 PN145 qY146 qN147; replace w134 : Own K B131 M [⟨D140, (cLst (rT2 rInt (rT2 rInt rInt))), a141⟩, ⟨p4, (cL2 (rLst rInt) rInt), s13.2⟩] H132 := w134; refine g_name ?_; refine ⟨rfl, ?_⟩; obtain ⟨t154, e155, hb139⟩ := bindS hb139; obtain ⟨rfl, rfl⟩ := Prod.mk.inj (Option.some.inj hb139); refine lc_yes ?_; exact (ev_T2 (ea_cons (ev_fst (ev_var rfl h136)) (ea_cons (ev_call (ea_cons (ev_snd (ev_var rfl h136)) (ea_cons (ev_varI rfl h124) ea_nil)) ⟨_, _, _, rfl, rfl, e155, rfl, rfl⟩) ea_nil))) B131 H132 (Ex.refl _) w134 _ fun v148 B149 H150 x151 w152 h153 => qY146 v148 B149 H150 _ rfl x151 w152 h153))) (dq_lst (dq_T2 dq_int (dq_T2 dq_int dq_int)))) ea_nil)) ⟨_, _, _, rfl, rfl, e161, rfl, rfl⟩))) (fun hb162 B163 H163 x163 (w163 : Own K B163 M [⟨p4, (cL2 (rLst rInt) rInt), s13.2⟩] H163) => ?_) (fun hb162 B164 H164 x164 (w164 : Own K B164 M [⟨p4, (cL2 (rLst rInt) rInt), s13.2⟩] H164) => ?_)
        · skip
          rw [if_pos hb162] at hb63
          replace hb63 : some _ = some _ := hb63
          obtain rfl := Option.some.inj hb63
          obtain rfl := ho78 _ rfl
          replace hb32 : some _ = some _ := hb32
          obtain rfl := Option.some.inj hb32
          obtain rfl := ho47 _ rfl
          replace hm : some _ = some _ := hm
          obtain rfl := Option.some.inj hm
          exact q_ret w163 (ev_bl (b := false)) fun v9 B9 H9 x9 w9 h9 => k _ _ _ (((((((((((x3.trans x7).trans x24).trans x38).trans x39).trans x69).trans x70).trans x91).trans x122).trans x127).trans x163).trans x9) w9.tail h9
        rw [if_neg (by rw [hb162]; exact Bool.false_ne_true)] at hb63
        refine q_asg (n := 8) w164 (ev_T2 (ea_cons (ev_int (i := 0)) (ea_cons (ev_int (i := 1)) ea_nil))) fun v166 B165 H165 x165 (w165 : Own K B165 M [⟨p4, (cL2 (rLst rInt) rInt), s13.2⟩] H165) h167 => ?_
        obtain ⟨s200, e172, hb63⟩ := bindS hb63
        refine q_fold w165 (ei_lst (ev_var rfl (((rLst (rT2 rInt (rT2 rInt rInt)))).mono (x164.trans x165) h129))) _ (fun s168 B173 σ186 => ∃ v187 o189 o190, σ186 = [some u0, some (.ref p4), some v25, some v41, some v72, some v92, some v123, some v128, some v187, o189, o190] ∧ ((rT2 rInt rInt)).is K B173 v187 s168) (fun s168 => [⟨p4, (cL2 (rLst rInt) rInt), s13.2⟩]) (((0 : Int), (1 : Int))) e172 (fun B9 x9 => ⟨v166, _, _, rfl, (((rT2 rInt rInt)).mono x9 h167)⟩) rfl ?_ ?_
        · skip
          rintro s168 x169 s213 v179 B173 B174 H175 σ186 hb170 x176 ⟨v187, o189, o190, rfl, h188⟩ x177 w178 h180 N181 K182 hN183
          replace w178 : Own K B174 M [⟨p4, (cL2 (rLst rInt) rInt), s13.2⟩] H175 := w178
          refine g_T2 h180 w178 fun v191 v192 h193 h194 => ?_
          refine g_cons ?_
          refine g_name ?_
          refine g_cons ?_
          refine g_name ?_
          refine g_nil ?_
          obtain ⟨t195, e196, hb170⟩ := bindS hb170
          refine q_asg (n := 8) w178 (ev_call (ea_cons (ev_var rfl (((rT2 rInt rInt)).mono x177 h188)) (ea_cons (ev_var rfl h194) ea_nil)) ⟨_, _, _, rfl, rfl, e196, rfl, rfl⟩) fun v198 B197 H197 x197 (w197 : Own K B197 M [⟨p4, (cL2 (rLst rInt) rInt), s13.2⟩] H197) h199 => ?_
          replace hb170 : some _ = some _ := hb170
          cases hb170
          exact hN183 _ _ _ x197 w197 ⟨v198, _, _, rfl, h199⟩
        rintro B201 H202 σ205 x203 w204 ⟨v206, o208, o209, rfl, h207⟩
        replace w204 : Own K B201 M [⟨p4, (cL2 (rLst rInt) rInt), s13.2⟩] H202 := w204
        refine q_if w204 (et_test (ev_neT (dr_T2 dr_int dr_int) (by decide) (ev_var rfl h207) (ev_T2 (ea_cons (ev_int (i := 1)) (ea_cons (ev_int (i := 1)) ea_nil))))) (fun hb210 B211 H211 x211 (w211 : Own K B211 M [⟨p4, (cL2 (rLst rInt) rInt), s13.2⟩] H211) => ?_) (fun hb210 B212 H212 x212 (w212 : Own K B212 M [⟨p4, (cL2 (rLst rInt) rInt), s13.2⟩] H212) => ?_)
        · skip
          rw [if_pos hb210] at hb63
          replace hb63 : some _ = some _ := hb63
          obtain rfl := Option.some.inj hb63
          obtain rfl := ho78 _ rfl
          replace hb32 : some _ = some _ := hb32
          obtain rfl := Option.some.inj hb32
          obtain rfl := ho47 _ rfl
          replace hm : some _ = some _ := hm
          obtain rfl := Option.some.inj hm
          exact q_ret w211 (ev_bl (b := false)) fun v9 B9 H9 x9 w9 h9 => k _ _ _ ((((((((((((((x3.trans x7).trans x24).trans x38).trans x39).trans x69).trans x70).trans x91).trans x122).trans x127).trans x164).trans x165).trans x203).trans x211).trans x9) w9.tail h9
        rw [if_neg (by rw [hb210]; exact Bool.false_ne_true)] at hb63
        replace hb63 : some _ = some _ := hb63
        cases hb63
        exact hN76 _ _ _ _ rfl ((((((x91.trans x122).trans x127).trans x164).trans x165).trans x203).trans x212) w212 ⟨_, _, _, _, _, _, _, rfl⟩
      rintro s214 B215 H216 σ219 rfl x217 w218 ⟨o220, o221, o222, o223, o224, o225, o226, rfl⟩
      dsimp only at hb32
      replace w218 : Own K B215 M [⟨p4, (cL2 (rLst rInt) rInt), s13.2⟩] H216 := w218
      replace hb32 : some _ = some _ := hb32
      cases hb32
      exact hN45 _ _ _ _ rfl x217 w218 ⟨_, _, _, _, _, _, _, _, rfl⟩
    rintro s228 B229 H230 σ233 rfl x231 w232 ⟨o234, o235, o236, o237, o238, o239, o240, o241, rfl⟩
    dsimp only at hm
    replace w232 : Own K B229 M [⟨p4, (cL2 (rLst rInt) rInt), s13.2⟩] H230 := w232
    replace hm : some _ = some _ := hm
    obtain rfl := Option.some.inj hm
    exact q_ret w232 (ev_bl (b := true)) fun v9 B9 H9 x9 w9 h9 => k _ _ _ ((((x3.trans x7).trans x24).trans x231).trans x9) w9.tail h9
end
end L3

namespace L3
open PySem L2
/-! ### the prelude of the laws: tape, draw, take, equal -/
def TapeOk (t : List Int) : Prop := t.length ≤ 4000 ∧ ∀ x ∈ t, 0 ≤ x ∧ x < 2 ^ 31
theorem all_app {t : List Int} {x : Int} (h : ∀ y ∈ t, 0 ≤ y ∧ y < (2 : Int) ^ 31) (hx : 0 ≤ x ∧ x < (2 : Int) ^ 31) : ∀ y ∈ t ++ [x], 0 ≤ y ∧ y < (2 : Int) ^ 31 := fun y hy => by
  rcases List.mem_append.mp hy with hy | hy
  · exact h y hy
  · rw [List.mem_singleton.mp hy]; exact hx
theorem tape_ok {ns : List Int} (h : ns.length ≤ 63) : Yes (m_l_tape ns) TapeOk := by
  unfold m_l_tape
  refine y_bind (Q := TapeOk) ?_ fun t h => y_some h
  refine (y_foldI _ (fun i t => t.length ≤ 40 * i ∧ ∀ x ∈ t, 0 ≤ x ∧ x < (2 : Int) ^ 31) ⟨by simp, by simp⟩ ?_).mono fun t ht => ⟨by have := ht.1; omega, ht.2⟩
  rintro i x s hx ⟨h1, h2⟩
  have hi : i < ns.length := (List.getElem?_eq_some_iff.mp hx).1
  refine y_eq (mulI_l (by decide) (by decide)) ?_
  refine y_bind (Q := fun n => 0 ≤ n) (y_if (fun c => y_some ?_) (fun c => y_some ?_)) fun n hn => ?_
  · have := of_decide_eq_true c; omega
  · have : ¬ (2 * x < 0) := fun z => c (decide_eq_true z)
    omega
  refine y_eq (a := 1000000000000000000) (by decide +kernel) ?_
  refine y_bind (Q := fun (p : Int × List Int) => p.2.length ≤ 40 * (i + 1) ∧ ∀ x ∈ p.2, 0 ≤ x ∧ x < (2 : Int) ^ 31) (y_if (fun c => ?_) (fun c => ?_)) fun p hp => y_some hp
  · refine y_bind (Q := fun (p : Int × List Int) => p.2.length ≤ 40 * (i + 1) ∧ ∀ x ∈ p.2, 0 ≤ x ∧ x < (2 : Int) ^ 31) ?_ fun p hp => y_some hp
    refine (y_foldI _ (fun j (p : Int × List Int) => 0 ≤ p.1 ∧ p.2.length ≤ 40 * i + j ∧ ∀ x ∈ p.2, 0 ≤ x ∧ x < (2 : Int) ^ 31) ⟨hn, h1, h2⟩ ?_).mono fun p hp => ⟨by have := hp.2.1; rw [rng_len] at this; simp at this; omega, hp.2.2⟩
    rintro j y ⟨m, t⟩ hy ⟨g1, g2, g3⟩
    have hj := (rng_at hy).2
    have hj : j < 40 := by omega
    refine y_bind (Q := fun (p : Int × List Int) => 0 ≤ p.1 ∧ p.2.length ≤ 40 * i + (j + 1) ∧ ∀ x ∈ p.2, 0 ≤ x ∧ x < (2 : Int) ^ 31) (y_if (fun c => ?_) (fun c => ?_)) fun p hp => y_some hp
    · refine y_eq (modI_s (by decide)) (y_eq (room_s (by show t.length ≤ _; show _ ≤ 1000000; have : t.length ≤ 40 * i + j := g2; omega)) (y_eq (divI_s (by decide) (by decide)) (y_some ⟨?_, ?_, ?_⟩)))
      · show 0 ≤ m / 1000
        have : 0 ≤ m := g1
        omega
      · show (t ++ [_]).length ≤ _
        have : t.length ≤ 40 * i + j := g2
        simp
        omega
      · refine all_app g3 ?_
        show 0 ≤ m % 1000 ∧ m % 1000 < _
        omega
    · exact y_some ⟨g1, by have : t.length ≤ 40 * i + j := g2; show t.length ≤ _; omega, g3⟩
  · refine y_bind (Q := fun (t : List Int) => t.length ≤ 40 * (i + 1) ∧ ∀ x ∈ t, 0 ≤ x ∧ x < (2 : Int) ^ 31) ?_ fun p hp => y_some hp
    refine (y_foldI _ (fun j (t : List Int) => t.length ≤ 40 * i + j ∧ ∀ x ∈ t, 0 ≤ x ∧ x < (2 : Int) ^ 31) ⟨h1, h2⟩ ?_).mono fun p hp => ⟨by have := hp.1; rw [rng_len] at this; simp at this; omega, hp.2⟩
    rintro j y t hy ⟨g2, g3⟩
    have hj := (rng_at hy).2
    have hj : j < 3 := by omega
    refine y_eq (mulI_r (by decide) (by decide)) (y_eq (mulI_r (by decide) (by decide)) (y_eq (modI_s (by decide)) (y_eq (mulI_r (by decide) (by decide)) (y_eq (divI_s (by decide) (by decide)) (y_eq (modI_s (by decide)) (y_eq (room_s (by omega)) (y_some ⟨?_, ?_⟩)))))))
    · rw [List.length_append, List.length_singleton]; omega
    · refine all_app g3 ?_
      omega
theorem draw_ok {t : List Int} {at' many : Int} (ht : TapeOk t) (h0 : 0 ≤ at') (h1 : at' < 2 ^ 62) (hm : 0 < many) : Yes (m_l_draw t at' many) fun r => 0 ≤ r ∧ r < many := by
  unfold m_l_draw
  refine y_if (fun c => ?_) (fun c => ?_)
  · have c := of_decide_eq_true c
    obtain ⟨n, rfl⟩ := Int.eq_ofNat_of_zero_le h0
    have hn : n < t.length := by omega
    refine y_eq (ixL_s (List.getElem?_eq_getElem hn) rfl) (y_eq (modI_s hm) (y_some ⟨Int.emod_nonneg _ (by omega), Int.emod_lt_of_pos _ hm⟩))
  · refine y_bind (Q := fun _ => True) (y_if (fun c => ?_) fun c => y_some trivial) fun n _ => ?_
    · have c := of_decide_eq_true c
      obtain ⟨n, hn⟩ := Int.eq_ofNat_of_zero_le (Int.emod_nonneg at' (show (t.length : Int) ≠ 0 by omega))
      have hl := Int.emod_lt_of_pos at' c
      refine y_eq (modI_s c) (y_eq (ixL_s (n := n) (List.getElem?_eq_getElem (by omega)) hn) (y_some trivial))
    · refine y_eq (mulI_r (by omega) (by omega)) (y_eq (mulI_r (by decide) (by decide)) (y_eq (mulI_r (by decide) (by decide)) (y_eq (modI_s (by decide)) (y_eq (modI_s hm) (y_some ⟨Int.emod_nonneg _ (by omega), Int.emod_lt_of_pos _ hm⟩)))))
/-- the tape and how far it is read -/
def StOk (s : List Int × Int) (n : Int) : Prop := TapeOk s.1 ∧ 0 ≤ s.2 ∧ s.2 ≤ n
theorem take_ok {s : List Int × Int} {n many : Int} (hs : StOk s n) (hn : n < 2 ^ 61) (hm : 0 < many) : Yes (m_l_take s many) fun r => (0 ≤ r.1 ∧ r.1 < many) ∧ StOk r.2 (n + 1) := by
  unfold m_l_take
  obtain ⟨h1, h2, h3⟩ := hs
  refine y_bind (draw_ok h1 (by show 0 ≤ s.2 + 1; omega) (by show s.2 + 1 < _; omega) hm) fun r hr => y_some ⟨hr, h1, by show 0 ≤ s.2 + 1; omega, by show s.2 + 1 ≤ _; omega⟩
/-- == of a kind -/
theorem eqvD_ok {a b : PyData} (ha : SeqAt.shaped a = true) (hb : SeqAt.shaped b = true) : eqvD a b = some (PyData.eqv a b) := if_pos ⟨ha, hb⟩
end L3
namespace L3
open PySem L2
/-! ### law_equal is equality -/
def okD : Nat → PyData → Prop
  | 0, _ => False
  | _ + 1, .none => True
  | _ + 1, .bool _ => True
  | _ + 1, .int _ => True
  | _ + 1, .str s => SeqAt.shaped (.str s) = true
  | n + 1, .list xs => xs.length < 2 ^ 60 ∧ ∀ x ∈ xs, okD n x
  | n + 1, .tuple xs => xs.length < 2 ^ 60 ∧ ∀ x ∈ xs, okD n x
  | _ + 1, .dict _ => False
def Is (o : Option Bool) (p : Prop) : Prop := ∃ c : Bool, o = some c ∧ (c = true ↔ p)
theorem is_t {p : Prop} (h : p) : Is (some true) p := ⟨true, rfl, fun _ => h, fun _ => rfl⟩
theorem is_f {p : Prop} (h : ¬ p) : Is (some false) p := ⟨false, rfl, fun e => absurd e (by decide), fun e => absurd e h⟩
theorem is_p {p : Prop} {b : Bool} {x y : Option Bool} (h : b = true) (k : Is x p) : Is (if b = true then x else y) p := by rw [if_pos h]; exact k
theorem is_n {p : Prop} {b : Bool} {x y : Option Bool} (h : b = false) (k : Is y p) : Is (if b = true then x else y) p := by rw [if_neg (by rw [h]; exact Bool.false_ne_true)]; exact k
theorem is_bd {α : Type} {p : Prop} {o : Option α} {a : α} {f : α → Option Bool} (h : o = some a) (k : Is (f a) p) : Is (Option.bind o f) p := by rw [h]; exact k
theorem is_bi {p : Prop} {o : Option Bool} (k : Is o p) : Is (Option.bind o fun t => some t) p := by obtain ⟨c, h, g⟩ := k; rw [h]; exact ⟨c, rfl, g⟩
theorem is_b {p : Prop} {c : Bool} (h : c = true ↔ p) : Is (some c) p := ⟨c, rfl, h⟩
theorem eq_seq {f : PyData → PyData → Option Bool} {xs ys : List PyData} {A B : PyData} (hl : xs.length = ys.length) (hb : ys.length < 2 ^ 60) (hA : ∀ i : Int, ixD A i = atI xs i) (hB : ∀ i : Int, ixD B i = atI ys i) (h : ∀ x ∈ xs, ∀ y ∈ ys, Is (f x y) (x = y)) :
    Yes (loopR (S := Unit) (R := Bool) (α := Int) (fun (s48 : Unit) (x49 : Int) => (
                  Option.bind (ixD A x49) fun t68 =>
                  Option.bind (ixD B x49) fun t70 =>
                  Option.bind (f t68 t70) fun t72 =>
                  if (!t72) = true then
                    some (Stp.rt false)
                  else
                    some (Stp.nx (()))
                )) (()) (rng 0 ys.length)) fun o => match o with | .inl _ => xs = ys | .inr b => b = false ∧ xs ≠ ys := by
  refine y_loopR _ (fun i _ => ∀ j < i, xs[j]? = ys[j]?) _ (fun j hj => absurd hj (by omega)) ?_ ?_
  · rintro i x ⟨⟩ hx hI
    obtain ⟨h1, h2⟩ := rng_at hx
    have hi : i < ys.length := by omega
    have hi' : i < xs.length := by omega
    have e1 : x = (i : Int) := by omega
    obtain ⟨v, g1, g2⟩ := h _ (List.getElem_mem hi') _ (List.getElem_mem hi)
    refine y_eq (by rw [hA]; exact ixL_s (List.getElem?_eq_getElem hi') e1) (y_eq (by rw [hB]; exact ixL_s (List.getElem?_eq_getElem hi) e1) (y_eq g1 (y_if (fun c => y_some ⟨rfl, fun e => ?_⟩) fun c => y_some ?_)))
    · subst e
      rw [g2.mpr rfl] at c
      exact absurd c (by decide)
    · intro j hj
      by_cases e : j = i
      · subst e
        rw [List.getElem?_eq_getElem hi, List.getElem?_eq_getElem hi']
        have c : v = true := by revert c; cases v <;> simp
        rw [g2.mp c]
      · exact hI j (by omega)
  · intro s hI
    rw [rng_len] at hI
    refine List.ext_getElem? fun j => ?_
    by_cases e : j < ys.length
    · exact hI j (by omega)
    · rw [List.getElem?_eq_none (by omega), List.getElem?_eq_none (by omega)]
theorem eq_seq2 {n : Nat} (IH : ∀ a b : PyData, okD n a → okD n b → Is (m_l_equal n a b) (a = b)) : ∀ xs ys : List PyData, xs.length < 2 ^ 60 → ys.length < 2 ^ 60 → (∀ x ∈ xs, okD n x) → (∀ x ∈ ys, okD n x) → ∀ A B : PyData, (∀ i : Int, ixD A i = atI xs i) → (∀ i : Int, ixD B i = atI ys i) → lenD A = some (xs.length : Int) → lenD B = some (ys.length : Int) →
        Is (Option.bind (lenD A) fun t37 => Option.bind (lenD B) fun t39 => if (!decide (t37 = t39)) = true then some false else Option.bind (lenD B) fun t44 => Option.bind (small62 t44) fun t46 =>
          Option.bind (loopR (S := Unit) (R := Bool) (α := Int) (fun (s48 : Unit) (x49 : Int) => (
                  Option.bind (ixD A x49) fun t68 =>
                  Option.bind (ixD B x49) fun t70 =>
                  Option.bind (m_l_equal n t68 t70) fun t72 =>
                  if (!t72) = true then
                    some (Stp.rt false)
                  else
                    some (Stp.nx (()))
                )) (()) ((rng 0 t44))) fun o51 => match o51 with | .inl s77 => some true | .inr q9 => some q9) (xs = ys) := by
  intro xs ys l1 l2 h1 h2 A B hA hB lA lB
  refine is_bd lA (is_bd lB ?_)
  by_cases e : xs.length = ys.length
  · refine is_n (by rw [e]; simp) (is_bd lB (is_bd (small62_s (by omega) (by omega)) ?_))
    obtain ⟨o, g1, g2⟩ := eq_seq (f := m_l_equal n) e l2 hA hB fun x hx y hy => IH x y (h1 x hx) (h2 y hy)
    refine is_bd g1 ?_
    match o, g2 with
    | .inl _, g2 => exact is_t g2
    | .inr b, ⟨g2, g3⟩ => subst g2; exact is_f g3
  · refine is_p ?_ (is_f fun h => e (congrArg List.length h))
    rw [Bool.not_eq_true']
    exact decide_eq_false fun h => e (by omega)
theorem eq_ok : ∀ (n : Nat) (a b : PyData), okD n a → okD n b → Is (m_l_equal n a b) (a = b)
  | 0, _, _, h, _ => h.elim
  | n + 1, a, b, ha, hb => by
    show Is (F_m_l_equal _ _ _) _
    unfold F_m_l_equal
    cases b with
    | none =>
      refine is_p rfl ?_
      cases a <;> first | exact is_t rfl | exact is_f (by intro e; cases e)
    | bool y =>
      refine is_n rfl (is_p rfl (is_bi ?_))
      cases a with
      | bool x => exact is_p rfl (is_bi (by rw [eqvD_ok (a := .bool x) (b := .bool y) (by rfl) (by rfl)]; exact is_b (by simp [PyData.eqv])))
      | _ => exact is_n rfl (is_f (by intro e; cases e))
    | int y =>
      refine is_n rfl (is_n rfl (is_p rfl (is_bi ?_)))
      cases a with
      | int x => exact is_p rfl (is_bi (is_p rfl (is_bi (by rw [eqvD_ok (a := .int x) (b := .int y) (by rfl) (by rfl)]; exact is_b (by simp [PyData.eqv])))))
      | bool x => exact is_p rfl (is_bi (is_n rfl (is_f (by intro e; cases e))))
      | _ => exact is_n rfl (is_f (by intro e; cases e))
    | str y =>
      refine is_n rfl (is_n rfl (is_n rfl (is_p rfl (is_bi ?_))))
      cases a with
      | str x => exact is_p rfl (is_bi (by rw [eqvD_ok (a := .str x) (b := .str y) ha hb]; exact is_b (by simp [PyData.eqv])))
      | _ => exact is_n rfl (is_f (by intro e; cases e))
    | list ys =>
      refine is_n rfl (is_n rfl (is_n rfl (is_n rfl (is_n rfl ?_))))
      cases a with
      | list xs =>
        refine is_n rfl ?_
        exact eq_seq2 (eq_ok n) xs ys ha.1 hb.1 ha.2 hb.2 (.list xs) (.list ys) (fun _ => rfl) (fun _ => rfl) rfl rfl |>.imp fun c h => ⟨h.1, h.2.trans (by simp)⟩
      | _ => exact is_p rfl (is_f (by intro e; cases e))
    | tuple ys =>
      refine is_n rfl (is_n rfl (is_n rfl (is_n rfl ?_)))
      cases a with
      | tuple xs =>
        refine is_n rfl (is_n rfl ?_)
        exact eq_seq2 (eq_ok n) xs ys ha.1 hb.1 ha.2 hb.2 (.tuple xs) (.tuple ys) (fun _ => rfl) (fun _ => rfl) rfl rfl |>.imp fun c h => ⟨h.1, h.2.trans (by simp)⟩
      | _ => exact is_p rfl (is_f (by intro e; cases e))
    | dict _ => exact hb.elim
theorem eq_typed {α : Type} [DecidableEq α] {r : Rep α} {f : α → PyData} {m n : Nat} (D : DR r f m) {a b : α} (ha : okD n (f a)) (hb : okD n (f b)) : m_l_equal n (f a) (f b) = some (decide (a = b)) := by
  obtain ⟨c, h1, h2⟩ := eq_ok n _ _ ha hb
  rw [h1]
  congr 1
  rw [Bool.eq_iff_iff, h2, decide_eq_true_iff]
  exact ⟨D.inj a b, fun h => by rw [h]⟩
end L3

namespace L3
open PySem L2
theorem y_p {α : Type} {P : α → Prop} {b : Bool} {x y : Option α} (h : b = true) (k : Yes x P) : Yes (if b = true then x else y) P := by rw [if_pos h]; exact k
theorem y_n {α : Type} {P : α → Prop} {b : Bool} {x y : Option α} (h : b = false) (k : Yes y P) : Yes (if b = true then x else y) P := by rw [if_neg (by rw [h]; exact Bool.false_ne_true)]; exact k
end L3

namespace L3
open PySem L2
/-! ### fractions -/
def rat (n d : Int) : Int × Int := if d < 0 then (-n / (Int.gcd n d : Int), -d / (Int.gcd n d : Int)) else (n / (Int.gcd n d : Int), d / (Int.gcd n d : Int))
theorem gcdI_neg (n d : Int) : gcdI (-n) (-d) = (Int.gcd n d : Int) := by
  unfold gcdI; rw [Int.natAbs_neg, Int.natAbs_neg]; rfl
theorem gcd_pos {n d : Int} (h : d ≠ 0) : 0 < Int.gcd n d := Int.gcd_pos_of_ne_zero_right n h
theorem gcd_le' {n d : Int} (h : d ≠ 0) : Int.gcd n d ≤ d.natAbs := Nat.le_of_dvd (by omega) (Int.gcd_dvd_natAbs_right n d)
theorem ratio_ok {n d : Int} (h : d ≠ 0) (hb : d.natAbs < 2 ^ 8999) : m_ratio n d = some (rat n d) := by
  have g0 := gcd_pos (n := n) h
  have g1 := gcd_le' (n := n) h
  have gl : ((Int.gcd n d : Nat) : Int).natAbs < 2 ^ 8999 := Nat.lt_of_le_of_lt (by omega) hb
  have dv : ∀ x : Int, divI x (Int.gcd n d : Int) = some (x / (Int.gcd n d : Int)) := fun x => divI_w (by omega) gl (by decide) (by decide)
  unfold m_ratio rat
  by_cases hd : d < 0
  · rw [if_pos (decide_eq_true hd), if_pos hd]
    show Option.bind (divI (-n) (gcdI (-n) (-d))) _ = _
    rw [gcdI_neg, dv]
    show Option.bind (divI (-d) (Int.gcd n d : Int)) _ = _
    rw [dv]
    rfl
  · rw [if_neg (by simp [hd]), if_neg hd]
    show Option.bind (divI n (Int.gcd n d : Int)) _ = _
    rw [dv]
    show Option.bind (divI d (Int.gcd n d : Int)) _ = _
    rw [dv]
    rfl
theorem euclid_ok {b a : Int} (hb : 0 < b) (ha : 0 ≤ a) (hp : a.natAbs * b.natAbs < 2 ^ 1990) : Yes (loopB (S := (Int × Int)) (α := Int) (fun (s24 : (Int × Int)) (x25 : Int) => (
    if (decide (s24.2 = (0 : Int))) = true then
      some (Stp.bk ((s24.1, s24.2)))
    else
      Option.bind (modI s24.1 s24.2) fun t52 =>
      some (Stp.nx ((s24.2, t52)))
  )) ((b, a)) ((rng 0 ((2000 : Int))))) fun s => s.1 = (Int.gcd a b : Int) := by
  refine y_loopB _ (fun i s => 0 < s.1 ∧ 0 ≤ s.2 ∧ Int.gcd s.2 s.1 = Int.gcd a b ∧ (i = 0 → s = (b, a)) ∧ (0 < i → s.2 < s.1 ∧ s.2.natAbs * s.1.natAbs * 2 ^ (i - 1) ≤ a.natAbs * b.natAbs)) _ ⟨hb, ha, rfl, fun _ => rfl, fun h => absurd h (by omega)⟩ ?_ ?_
  · rintro i x ⟨u, v⟩ hx ⟨h1, h2, h3, h4, h5⟩
    replace h1 : 0 < u := h1
    replace h2 : 0 ≤ v := h2
    refine y_if (fun c => y_some ?_) (fun c => ?_)
    · have c : v = 0 := of_decide_eq_true c
      subst c
      show u = _
      rw [← h3]
      show u = ((Int.gcd 0 u : Nat) : Int)
      rw [Int.gcd_zero_left]
      omega
    · have c : v ≠ 0 := fun e => c (decide_eq_true e)
      have hv : 0 < v := by omega
      have m0 := Int.emod_nonneg u c
      have m1 := Int.emod_lt_of_pos u hv
      refine y_eq (modI_s hv) (y_some ⟨hv, m0, ?_, fun e => absurd e (by omega), fun _ => ⟨m1, ?_⟩⟩)
      · show Int.gcd (u % v) v = _
        rw [← h3]
        show _ = Int.gcd v u
        obtain ⟨p, rfl⟩ := Int.eq_ofNat_of_zero_le (Int.le_of_lt h1)
        obtain ⟨q, rfl⟩ := Int.eq_ofNat_of_zero_le h2
        rw [← Int.natCast_emod]
        exact (Nat.gcd_rec q p).symm
      · show (u % v).natAbs * v.natAbs * 2 ^ i ≤ _
        obtain ⟨p, rfl⟩ := Int.eq_ofNat_of_zero_le (Int.le_of_lt h1)
        obtain ⟨q, rfl⟩ := Int.eq_ofNat_of_zero_le h2
        have e : ((p : Int) % (q : Int)).natAbs = p % q := by rw [← Int.natCast_emod]; exact Int.natAbs_natCast _
        rw [e]
        simp only [Int.natAbs_natCast]
        have hq : 0 < q := Int.ofNat_lt.mp hv
        have hm : p % q < q := Nat.mod_lt _ hq
        match i with
        | 0 =>
          have h4 := h4 rfl
          rw [← (Prod.mk.inj h4).1, ← (Prod.mk.inj h4).2]
          simp only [Int.natAbs_natCast, Nat.pow_zero, Nat.mul_one]
          rw [Nat.mul_comm]
          exact Nat.mul_le_mul_left _ (Nat.mod_le _ _)
        | i + 1 =>
          obtain ⟨h6, h7⟩ := h5 (Nat.succ_pos i)
          have h6 : q < p := by have : (q : Int) < p := h6; omega
          have h7 : q * p * 2 ^ i ≤ a.natAbs * b.natAbs := by simpa using h7
          refine Nat.le_trans ?_ h7
          have hd := Nat.div_add_mod p q
          have h8 : 1 ≤ p / q := (Nat.one_le_div_iff hq).mpr (Nat.le_of_lt h6)
          have h9 : q ≤ q * (p / q) := Nat.le_mul_of_pos_right q h8
          have h10 : 2 * (p % q) ≤ p := by omega
          have h11 : p % q * q * 2 ≤ q * p := by
            rw [Nat.mul_comm (p % q) q, Nat.mul_assoc]
            exact Nat.mul_le_mul_left q (by omega)
          rw [Nat.pow_succ, Nat.mul_comm (2 ^ i) 2, ← Nat.mul_assoc]
          exact Nat.mul_le_mul_right _ h11
  · rintro ⟨u, v⟩ ⟨h1, h2, h3, _, h5⟩
    rw [rng_len] at h5
    replace h1 : 0 < u := h1
    replace h2 : 0 ≤ v := h2
    obtain ⟨_, h7⟩ := h5 (by decide)
    replace h7 : v.natAbs * u.natAbs * 2 ^ 1999 ≤ a.natAbs * b.natAbs := h7
    have hv : v = 0 := by
      by_cases e : v = 0
      · exact e
      · have g : 1 ≤ v.natAbs * u.natAbs := Nat.mul_pos (by omega) (by omega)
        have g2 := Nat.mul_le_mul_right (2 ^ 1999) g
        have g3 := Nat.lt_of_le_of_lt (Nat.le_trans g2 h7) hp
        rw [Nat.one_mul] at g3
        exact absurd (Nat.pow_lt_pow_iff_right (by decide) |>.mp g3) (by decide)
    subst hv
    show u = _
    rw [← h3]
    show u = ((Int.gcd 0 u : Nat) : Int)
    rw [Int.gcd_zero_left]
    omega
theorem absI_nn (n : Int) : absI n = (n.natAbs : Int) := by unfold absI; split <;> omega
theorem l_ratio_ok {n d : Int} (h : d ≠ 0) (hn : n.natAbs < 2 ^ 990) (hb : d.natAbs < 2 ^ 990) : m_l_ratio n d = some (rat n d) := by
  have g0 := gcd_pos (n := n) h
  have g1 := gcd_le' (n := n) h
  have gl : ((Int.gcd n d : Nat) : Int).natAbs < 2 ^ 990 := Nat.lt_of_le_of_lt (by omega) hb
  have dv : ∀ x : Int, divI x (Int.gcd n d : Int) = some (x / (Int.gcd n d : Int)) := fun x => divI_w (by omega) gl (by decide) (by decide)
  have pr : ∀ n d : Int, n.natAbs < 2 ^ 990 → d.natAbs < 2 ^ 990 → (absI n).natAbs * d.natAbs < 2 ^ 1990 := fun n d h1 h2 => by
    rw [absI_nn, Int.natAbs_natCast]
    refine Nat.lt_of_lt_of_le (Nat.mul_lt_mul'' h1 h2) ?_
    rw [← Nat.pow_add]
    exact Nat.pow_le_pow_right (by decide) (by decide)
  have ga : ∀ n d : Int, Int.gcd (absI n) d = Int.gcd n d := fun n d => by
    rw [absI_nn]; unfold Int.gcd; rw [Int.natAbs_natCast]
  have nn : ∀ n : Int, 0 ≤ absI n := fun n => by rw [absI_nn]; omega
  unfold m_l_ratio rat
  by_cases hd : d < 0
  · rw [if_pos (decide_eq_true hd), if_pos hd]
    obtain ⟨s, e1, e2⟩ := euclid_ok (b := 0 - d) (a := absI (0 - n)) (by omega) (nn _) (pr _ _ (by omega) (by omega))
    rw [ga, show 0 - n = -n by omega, show 0 - d = -d by omega, Int.gcd_neg, Int.neg_gcd] at e2
    show Option.bind (loopB _ (0 - d, absI (0 - n)) _) _ = _
    rw [e1]
    show Option.bind (divI (0 - n) s.1) _ = _
    rw [e2, dv]
    show Option.bind (divI (0 - d) (Int.gcd n d : Int)) _ = _
    rw [dv]
    show some _ = some _
    rw [show 0 - n = -n by omega, show 0 - d = -d by omega]
  · rw [if_neg (by simp [hd]), if_neg hd]
    obtain ⟨s, e1, e2⟩ := euclid_ok (b := d) (a := absI n) (by omega) (nn _) (pr _ _ hn hb)
    rw [ga] at e2
    show Option.bind (loopB _ (d, absI n) _) _ = _
    rw [e1]
    show Option.bind (divI n s.1) _ = _
    rw [e2, dv]
    show Option.bind (divI d (Int.gcd n d : Int)) _ = _
    rw [dv]
    rfl
theorem rat_pos {n d : Int} (h : d ≠ 0) : 0 < (rat n d).2 := by
  have g0 := gcd_pos (n := n) h
  have dd := Int.gcd_dvd_right n d
  unfold rat
  split
  · exact Int.ediv_pos_of_pos_of_dvd (by omega) (by omega) (Int.dvd_neg.mpr dd)
  · exact Int.ediv_pos_of_pos_of_dvd (by omega) (by omega) dd
theorem natAbs_ediv_le (x : Int) (g : Nat) : (x / (g : Int)).natAbs ≤ x.natAbs := Int.natAbs_ediv_le_natAbs x g
theorem rat_fst_le {n d : Int} : (rat n d).1.natAbs ≤ n.natAbs := by
  unfold rat
  split
  · have := natAbs_ediv_le (-n) (Int.gcd n d); rw [Int.natAbs_neg] at this; exact this
  · exact natAbs_ediv_le n (Int.gcd n d)
theorem rat_snd_le {n d : Int} : (rat n d).2.natAbs ≤ d.natAbs := by
  unfold rat
  split
  · have := natAbs_ediv_le (-d) (Int.gcd n d); rw [Int.natAbs_neg] at this; exact this
  · exact natAbs_ediv_le d (Int.gcd n d)
theorem rat_mul {n d c : Int} (hc : 0 < c) : rat (n * c) (d * c) = rat n d := by
  have e : (Int.gcd (n * c) (d * c) : Int) = (Int.gcd n d : Int) * c := by
    rw [Int.gcd_mul_right]
    push_cast
    rw [Int.natAbs_of_nonneg (Int.le_of_lt hc)]
  have k : ∀ x : Int, x * c / ((Int.gcd n d : Int) * c) = x / (Int.gcd n d : Int) := fun x => Int.mul_ediv_mul_of_pos_left x _ hc
  unfold rat
  rw [e]
  by_cases hd : d < 0
  · rw [if_pos hd, if_pos (Int.mul_neg_of_neg_of_pos hd hc), ← Int.neg_mul, ← Int.neg_mul, k, k]
  · rw [if_neg hd, if_neg (by have := Int.mul_nonneg (show 0 ≤ d by omega) (Int.le_of_lt hc); omega), k, k]
end L3

namespace L3
open PySem L2
/-! ### drawn systems -/
theorem StOk.le {s : List Int × Int} {a b : Int} (h : StOk s a) (hab : a ≤ b) : StOk s b := ⟨h.1, h.2.1, Int.le_trans h.2.2 hab⟩
abbrev TE' := List (Int × Int)
abbrev TC' := Int × List (Int × Int)
abbrev TS' := List (List (Int × List (Int × Int)))
def VE (many : Nat) (e : List (Int × Int)) : Prop := e ≠ [] ∧ e.length ≤ many ∧ (∀ q ∈ e, 0 ≤ q.1 ∧ q.1 < (many : Int) ∧ 1 ≤ q.2 ∧ q.2 ≤ 1000) ∧ e.Pairwise fun a b => a.1 < b.1
def VC (many : Nat) (c : Int × List (Int × Int)) : Prop := 0 ≤ c.1 ∧ c.1 ≤ 1000 ∧ VE many c.2
def VCS (many most : Nat) (cs : List (Int × List (Int × Int))) : Prop := 1 ≤ cs.length ∧ cs.length ≤ most ∧ ∀ c ∈ cs, VC many c
def VS (most : Nat) (s : List (List (Int × List (Int × Int)))) : Prop := 1 ≤ s.length ∧ ∀ cs ∈ s, VCS s.length most cs
theorem ixL_lit {α : Type} {xs : List α} {i : Int} {P : α → Prop} (h0 : 0 ≤ i) (h1 : i < xs.length) (h : ∀ x ∈ xs, P x) : Yes (ixL xs i) P := by
  obtain ⟨n, hn⟩ := Int.eq_ofNat_of_zero_le h0
  have hl : n < xs.length := by omega
  exact ⟨xs[n], ixL_s (List.getElem?_eq_getElem hl) hn, h _ (List.getElem_mem hl)⟩
theorem ends_ok {st : List Int × Int} {n many : Int} (hs : StOk st n) (hn : n < 2 ^ 50) (hm : 1 ≤ many) (hm2 : many ≤ 100) : Yes (m_l_ends st many) fun r => VE many.toNat r.1 ∧ StOk r.2 (n + 1 + 2 * many) := by
  unfold m_l_ends
  refine y_bind (take_ok hs (by omega) (by omega)) fun t3 h3 => ?_
  refine y_eq (small62_s (by omega) (by omega)) ?_
  obtain ⟨⟨h31, h32⟩, h33⟩ := h3
  refine y_bind (Q := fun (p : List (Int × Int) × (List Int × Int)) => VE many.toNat p.1 ∧ StOk p.2 (n + 1 + 2 * many)) ?_ fun p hp => y_some hp
  refine (y_foldI _ (fun i (p : List (Int × Int) × (List Int × Int)) => p.1.length ≤ i ∧ (∀ q ∈ p.1, 0 ≤ q.1 ∧ q.1 < (i : Int) ∧ 1 ≤ q.2 ∧ q.2 ≤ 1000) ∧ (p.1.Pairwise fun a b => a.1 < b.1) ∧ (t3.1 < i → p.1 ≠ []) ∧ StOk p.2 (n + 1 + 2 * i))
    ⟨by simp, by simp, .nil, fun h => absurd h (by omega), by simpa using h33⟩ ?_).mono fun p hp => ?_
  · rintro i x ⟨e, st⟩ hx ⟨g1, g2, g3, g4, g5⟩
    obtain ⟨e1, e2⟩ := rng_at hx
    have e1 : x = (i : Int) := by omega
    subst e1
    dsimp only at g1 g2 g3 g4 g5
    refine y_bind (Q := fun (p : Bool × (List Int × Int)) => ((t3.1 = (i : Int)) → p.1 = true) ∧ StOk p.2 (n + 1 + 2 * i + 1)) (y_if (fun c => y_some ⟨fun _ => rfl, ?_⟩) (fun c => ?_)) fun p hp => ?_
    · exact g5.le (by omega)
    · exact y_bind (take_ok g5 (by omega) (by decide)) fun t30 h30 => y_some ⟨fun q => absurd (decide_eq_true q.symm) c, h30.2⟩
    · refine y_bind (Q := fun (q : List (Int × Int) × (List Int × Int)) => q.1.length ≤ i + 1 ∧ (∀ z ∈ q.1, 0 ≤ z.1 ∧ z.1 < ((i + 1 : Nat) : Int) ∧ 1 ≤ z.2 ∧ z.2 ≤ 1000) ∧ (q.1.Pairwise fun a b => a.1 < b.1) ∧ (t3.1 < ((i + 1 : Nat) : Int) → q.1 ≠ []) ∧ StOk q.2 (n + 1 + 2 * ((i + 1 : Nat) : Int))) (y_if (fun c => ?_) fun c => y_some ?_) fun q hq => y_some hq
      · refine y_bind (take_ok hp.2 (by omega) (by decide)) fun t39 h39 => ?_
        refine y_bind (ixL_lit (P := fun z => 1 ≤ z ∧ z ≤ 1000) h39.1.1 h39.1.2 (by decide)) fun t41 h41 => y_eq (room_s (by show e.length ≤ _; omega)) (y_some ⟨?_, ?_, ?_, ?_, ?_⟩)
        · show (e ++ [_]).length ≤ _
          rw [List.length_append, List.length_singleton]; omega
        · intro z hz
          rcases List.mem_append.mp hz with hz | hz
          · have := g2 z hz; omega
          · rw [List.mem_singleton.mp hz]; show 0 ≤ (i : Int) ∧ (i : Int) < _ ∧ 1 ≤ t41 ∧ t41 ≤ 1000; omega
        · show (e ++ [_]).Pairwise _
          refine List.pairwise_append.mpr ⟨g3, List.pairwise_singleton _ _, fun a ha b hb => ?_⟩
          rw [List.mem_singleton.mp hb]
          exact (g2 a ha).2.1
        · intro _ h; exact absurd h (by simp)
        · exact h39.2.le (by omega)
      · refine ⟨Nat.le_succ_of_le g1, fun z hz => by have := g2 z hz; omega, g3, fun h => ?_, ?_⟩
        · by_cases q : t3.1 = (i : Int)
          · exact absurd (hp.1 q) c
          · exact g4 (by omega)
        · exact hp.2.le (by omega)
  · obtain ⟨g1, g2, g3, g4, g5⟩ := hp
    rw [rng_len] at g1 g2 g4 g5
    have em : (((many - 0).toNat : Nat) : Int) = many := by omega
    refine ⟨⟨g4 (by omega), by omega, fun q hq => by have := g2 q hq; omega, g3⟩, ?_⟩
    rw [em] at g5
    exact g5
theorem choices_ok {st : List Int × Int} {n many most : Int} (hs : StOk st n) (hn : n < 2 ^ 49) (hm : 1 ≤ many) (hm2 : many ≤ 100) (h1 : 1 ≤ most) (h2 : most ≤ 100) : Yes (m_l_choices st many most) fun r => VCS many.toNat most.toNat r.1 ∧ StOk r.2 (n + 1 + most * 300) := by
  unfold m_l_choices
  refine y_bind (take_ok hs (by omega) (by omega)) fun t3 h3 => ?_
  obtain ⟨⟨h31, h32⟩, h33⟩ := h3
  refine y_eq (small62_s (by omega) (by omega)) ?_
  refine y_bind (Q := fun (p : List (Int × List (Int × Int)) × (List Int × Int)) => VCS many.toNat most.toNat p.1 ∧ StOk p.2 (n + 1 + most * 300)) ?_ fun p hp => y_some hp
  refine (y_foldI _ (fun i (p : List (Int × List (Int × Int)) × (List Int × Int)) => p.1.length = i ∧ (∀ c ∈ p.1, VC many.toNat c) ∧ StOk p.2 (n + 1 + 300 * i)) ⟨rfl, by simp, by simpa using h33⟩ ?_).mono fun p hp => ?_
  · rintro i x ⟨e, st⟩ hx ⟨g1, g2, g3⟩
    obtain ⟨e1, e2⟩ := rng_at hx
    dsimp only at g1 g2 g3
    refine y_bind (take_ok g3 (by omega) (by decide)) fun t27 h27 => ?_
    refine y_bind (ixL_lit (P := fun z => 0 ≤ z ∧ z ≤ 1000) h27.1.1 h27.1.2 (by decide)) fun t29 h29 => ?_
    refine y_bind (ends_ok h27.2 (by omega) hm hm2) fun t31 h31' => y_eq (room_s (by show e.length ≤ _; omega)) (y_some ⟨?_, ?_, ?_⟩)
    · show (e ++ [_]).length = _
      rw [List.length_append, List.length_singleton, g1]
    · intro z hz
      rcases List.mem_append.mp hz with hz | hz
      · exact g2 z hz
      · rw [List.mem_singleton.mp hz]; exact ⟨h29.1, h29.2, h31'.1⟩
    · exact h31'.2.le (by omega)
  · obtain ⟨g1, g2, g3⟩ := hp
    rw [rng_len] at g1 g3
    refine ⟨⟨by omega, by omega, g2⟩, ?_⟩
    exact g3.le (by omega)
/-- comprehensions: they answer -/
theorem y_comp {S α β : Type} (f : S → α → Option (Option β × S)) (I : Nat → List β → S → Prop) {xs : List α} {s : S} (h0 : I 0 [] s) (hs : ∀ (i : Nat) x ys s, xs[i]? = some x → I i ys s → Yes (f s x) fun r => I (i + 1) (ys ++ r.1.toList) r.2) : Yes (compM f s xs) fun r => I xs.length r.1 r.2 := by
  have key : ∀ (xs : List α) (k : Nat) (pre : List β) (s : S), I k pre s → (∀ (i : Nat) x ys s, xs[i]? = some x → I (k + i) ys s → Yes (f s x) fun r => I (k + i + 1) (ys ++ r.1.toList) r.2) → Yes (compM f s xs) fun r => I (k + xs.length) (pre ++ r.1) r.2 := by
    intro xs
    induction xs with
    | nil => intro k pre s h _; exact ⟨([], s), rfl, by simpa using h⟩
    | cons x xs ih =>
      intro k pre s h hs
      obtain ⟨⟨o, s'⟩, h1, h2⟩ := hs 0 x pre s rfl h
      obtain ⟨⟨ys, s2⟩, h3, h4⟩ := ih (k + 1) (pre ++ o.toList) s' h2 fun i y zs s hy hI => by
        have := hs (i + 1) y zs s (by simpa using hy) (by rw [show k + (i + 1) = k + 1 + i by omega]; exact hI)
        rw [show k + (i + 1) + 1 = k + 1 + i + 1 by omega] at this
        exact this
      refine ⟨(o.toList ++ ys, s2), ?_, ?_⟩
      · unfold compM
        rw [h1]
        dsimp only
        rw [h3]
      · rw [show k + (x :: xs).length = k + 1 + xs.length by simp; omega]
        show I _ (pre ++ (o.toList ++ ys)) s2
        rw [← List.append_assoc]
        exact h4
  have := key xs 0 [] s h0 fun i x ys s hx hI => by
    rw [Nat.zero_add] at hI ⊢
    exact hs i x ys s hx hI
  simpa using this
theorem system_ok {st : List Int × Int} {n most : Int} (hs : StOk st n) (hn : n < 2 ^ 48) (h1 : 1 ≤ most) (h2 : most ≤ 99) : Yes (m_l_system st most) fun r => (VS 3 r.1 ∧ (r.1.length : Int) ≤ most) ∧ StOk r.2 (n + 1 + most * 1000) := by
  unfold m_l_system
  refine y_bind (take_ok hs (by omega) (by omega)) fun t1 h => ?_
  obtain ⟨⟨h11, h12⟩, h13⟩ := h
  refine y_eq (small62_s (by omega) (by omega)) (y_eq (room_s (by rw [rng_len]; omega)) ?_)
  refine y_bind (Q := fun (r : List (List (Int × List (Int × Int))) × (List Int × Int)) => (VS 3 r.1 ∧ (r.1.length : Int) ≤ most) ∧ StOk r.2 (n + 1 + most * 1000)) ?_ fun r hr => y_some hr
  refine (y_comp _ (fun i ys s => ys.length = i ∧ (∀ cs ∈ ys, VCS (1 + t1.1).toNat 3 cs) ∧ StOk s (n + 1 + 1000 * i)) ⟨rfl, by simp, by simpa using h13⟩ ?_).mono fun r hr => ?_
  · rintro i x ys s hx ⟨g1, g2, g3⟩
    obtain ⟨e1, e2⟩ := rng_at hx
    refine y_bind (choices_ok g3 (by omega) (by omega) (by omega) (by decide) (by decide)) fun t32 h32 => y_some ⟨?_, ?_, ?_⟩
    · simp [g1]
    · intro cs hc
      rcases List.mem_append.mp hc with hc | hc
      · exact g2 cs hc
      · have hc : cs = t32.1 := by simpa using hc
        rw [hc]; exact h32.1
    · exact h32.2.le (by omega)
  · obtain ⟨g1, g2, g3⟩ := hr
    rw [rng_len] at g1 g3
    have el : (1 + t1.1).toNat = r.1.length := by omega
    refine ⟨⟨⟨by omega, fun cs hc => by rw [← el]; exact g2 cs hc⟩, by omega⟩, ?_⟩
    exact g3.le (by omega)
end L3

namespace L3
open PySem L2
/-! ### moves -/
theorem rat_val {n d : Int} (h : 0 < d) : (rat n d).1 * d = n * (rat n d).2 := by
  have g0 := gcd_pos (n := n) (d := d) (by omega)
  have key : ∀ g a b : Int, g ≠ 0 → (g * a) / g * (g * b) = (g * a) * ((g * b) / g) := fun g a b h => by
    rw [Int.mul_ediv_cancel_left _ h, Int.mul_ediv_cancel_left _ h, Int.mul_left_comm, Int.mul_assoc]
  unfold rat
  rw [if_neg (by omega)]
  obtain ⟨a, ha⟩ := Int.gcd_dvd_left n d
  obtain ⟨b, hb⟩ := Int.gcd_dvd_right n d
  have := key (Int.gcd n d : Int) a b (by omega)
  rw [← ha, ← hb] at this
  exact this
theorem rat_cross {n d N D : Int} (h : 0 < d) (H : 0 < D) (e : n * D = N * d) : rat n d = rat N D := by
  rw [← rat_mul (n := n) (d := d) H, ← rat_mul (n := N) (d := D) h, e, Int.mul_comm d D]
theorem plus_rat {p w W : Int} (hW : 0 < W) (hW2 : W < 2 ^ 20) (hp : 0 ≤ p) (hp2 : p < 2 ^ 20) (hw : 0 ≤ w) (hw2 : w < 2 ^ 20) : m_plus (rat p W) (rat w W) = some (rat (p + w) W) := by
  have v1 := rat_val (n := p) hW
  have v2 := rat_val (n := w) hW
  have a1 := rat_fst_le (n := p) (d := W)
  have a2 := rat_snd_le (n := p) (d := W)
  have b1 := rat_fst_le (n := w) (d := W)
  have b2 := rat_snd_le (n := w) (d := W)
  have q1 := rat_pos (n := p) (d := W) (by omega)
  have q2 := rat_pos (n := w) (d := W) (by omega)
  generalize rat p W = a at *
  generalize rat w W = b at *
  have pos := Int.mul_pos q1 q2
  have bd : (a.2 * b.2).natAbs < 2 ^ 8999 := by
    rw [Int.natAbs_mul]
    refine Nat.lt_of_lt_of_le (Nat.mul_lt_mul'' (c := 2 ^ 20) (d := 2 ^ 20) (by omega) (by omega)) ?_
    rw [← Nat.pow_add]
    exact Nat.pow_le_pow_right (by decide) (by decide)
  unfold m_plus
  rw [mulI_l (i := a.1) (by omega) (by omega), mulI_l (i := b.1) (by omega) (by omega), mulI_l (i := a.2) (by omega) (by omega)]
  show Option.bind (m_ratio (a.1 * b.2 + b.1 * a.2) (a.2 * b.2)) _ = _
  rw [ratio_ok (by omega) bd]
  show some _ = some _
  rw [rat_cross pos hW (N := p + w) ?_]
  rw [Int.add_mul, Int.add_mul, Int.mul_right_comm a.1, Int.mul_right_comm b.1, v1, v2, Int.mul_assoc p, Int.mul_right_comm w, Int.mul_assoc w]
theorem fits_small : ∀ (vs : List Int) (a : Int), 0 ≤ a → a + 1000 * vs.length < 2 ^ 62 → (∀ v ∈ vs, 1 ≤ v ∧ v ≤ 1000) → fits a vs = true
  | [], _, _, _, _ => rfl
  | v :: vs, a, h0, h1, h2 => by
    have hv := h2 v List.mem_cons_self
    rw [List.length_cons] at h1
    have ih := fits_small vs (a + v) (by omega) (by omega) fun u hu => h2 u (List.mem_cons_of_mem _ hu)
    have l1 : longI v = true := by unfold longI; rw [decide_eq_true (by omega), decide_eq_true (by omega)]; rfl
    have l2 : longI (a + v) = true := by unfold longI; rw [decide_eq_true (by omega), decide_eq_true (by omega)]; rfl
    show (longI v && longI (a + v) && fits (a + v) vs) = true
    rw [l1, l2, ih]; rfl
theorem sum_bd : ∀ (vs : List Int), (∀ v ∈ vs, 1 ≤ v ∧ v ≤ 1000) → (vs.length : Int) ≤ vs.sum ∧ vs.sum ≤ 1000 * vs.length
  | [], _ => by simp
  | v :: vs, h => by
    have ih := sum_bd vs fun u hu => h u (List.mem_cons_of_mem _ hu)
    have hv := h v List.mem_cons_self
    rw [List.sum_cons, List.length_cons]
    omega
theorem mapO_map {α β : Type} {f : α → Option β} {g : α → β} : ∀ {xs : List α}, (∀ x ∈ xs, f x = some (g x)) → mapO f xs = some (xs.map g)
  | [], _ => rfl
  | x :: xs, h => by
    show (match f x, mapO f xs with | some y, some ys => some (y :: ys) | _, _ => none) = _
    rw [h x List.mem_cons_self, mapO_map fun u hu => h u (List.mem_cons_of_mem _ hu)]
    rfl
theorem compM_map {α β : Type} {f : Unit → α → Option (Option β × Unit)} {g : α → β} : ∀ {xs : List α}, (∀ x ∈ xs, f () x = some (some (g x), ())) → compM f () xs = some (xs.map g, ())
  | [], _ => rfl
  | x :: xs, h => by
    unfold compM
    rw [h x List.mem_cons_self]
    dsimp only
    rw [compM_map fun u hu => h u (List.mem_cons_of_mem _ hu)]
    rfl
def WE (e : List (Int × Int)) : Prop := 1 ≤ e.length ∧ e.length ≤ 100 ∧ ∀ q ∈ e, 1 ≤ q.2 ∧ q.2 ≤ 1000
def WS (s : List (List (Int × List (Int × Int)))) : Prop := s.length ≤ 1000 ∧ ∀ cs ∈ s, cs.length ≤ 1000 ∧ ∀ c ∈ cs, WE c.2
abbrev wsum (e : List (Int × Int)) : Int := (e.map (·.2)).sum
theorem we_sum {e : List (Int × Int)} (h : WE e) : 1 ≤ wsum e ∧ wsum e ≤ 100000 := by
  obtain ⟨h1, h2, h3⟩ := h
  have := sum_bd (e.map (·.2)) fun v hv => by
    obtain ⟨q, hq, rfl⟩ := List.mem_map.mp hv
    exact h3 q hq
  rw [List.length_map] at this
  show 1 ≤ (e.map (·.2)).sum ∧ (e.map (·.2)).sum ≤ 100000
  omega
theorem total_ok {e : List (Int × Int)} (h : WE e) : m_total_weight e = some (wsum e) := by
  obtain ⟨h1, h2, h3⟩ := h
  unfold m_total_weight sumM
  rw [mapO_map (f := fun (x9 : Int × Int) => some x9.2) (g := fun q => q.2) fun _ _ => rfl]
  dsimp only
  rw [if_pos (fits_small _ 0 (by decide) (by rw [List.length_map]; omega) fun v hv => by
    obtain ⟨q, hq, rfl⟩ := List.mem_map.mp hv
    exact h3 q hq)]
  rfl
def chs (e : List (Int × Int)) : List (Int × (Int × Int)) := e.map fun q => (q.1, rat q.2 (wsum e))
theorem moves_ok {s : List (List (Int × List (Int × Int)))} {i j : Int} {cs : List (Int × List (Int × Int))} {c : Int × List (Int × Int)} (e1 : ixL s i = some cs) (e2 : ixL cs j = some c) (h : WE c.2) : m_moves s i j = some (chs c.2) := by
  have hs := we_sum h
  unfold m_moves
  rw [e1]
  show Option.bind (ixL cs j) _ = _
  rw [e2]
  show Option.bind (m_total_weight c.2) _ = _
  rw [total_ok h]
  show Option.bind (room c.2.length) _ = _
  rw [room_s (by have := h.2.1; omega)]
  show Option.bind (compM _ () c.2) _ = _
  rw [compM_map (g := fun q => (q.1, rat q.2 (wsum c.2))) fun q hq => by
    show Option.bind (m_ratio q.2 (wsum c.2)) _ = _
    rw [ratio_ok (by omega) (Nat.lt_of_lt_of_le (show (wsum c.2).natAbs < 2 ^ 20 by omega) (Nat.pow_le_pow_right (by decide) (by decide)))]
    rfl]
  rfl
theorem fold_ok {W : Int} (hW : 0 < W) (hW2 : W < 2 ^ 20) : ∀ (e : List (Int × Int)) (p : Int), 0 ≤ p → p + 1000 * e.length < 2 ^ 20 → (∀ q ∈ e, 1 ≤ q.2 ∧ q.2 ≤ 1000) →
    foldO (S := (Int × Int)) (α := (Int × (Int × Int))) (fun (s168 : (Int × Int)) (x169 : (Int × (Int × Int))) => (Option.bind (m_plus s168 x169.2) fun t195 => some t195)) (rat p W) (e.map fun q => (q.1, rat q.2 W)) = some (rat (p + wsum e) W)
  | [], p, _, _, _ => by
    show some _ = some _
    show some (rat p W) = some (rat (p + 0) W)
    rw [Int.add_zero]
  | q :: e, p, h0, h1, h2 => by
    have hq := h2 q List.mem_cons_self
    rw [List.length_cons] at h1
    rw [List.map_cons]
    unfold foldO
    dsimp only
    rw [plus_rat hW hW2 h0 (by omega) (by omega) (by omega)]
    show foldO _ (rat (p + q.2) W) _ = _
    rw [fold_ok hW hW2 e (p + q.2) (by omega) (by omega) fun u hu => h2 u (List.mem_cons_of_mem _ hu)]
    show some (rat (p + q.2 + wsum e) W) = some (rat (p + (q.2 + wsum e)) W)
    rw [Int.add_assoc]
theorem rat_0 {W : Int} (h : 0 < W) : rat 0 W = (0, 1) := by
  unfold rat
  rw [if_neg (by omega), Int.gcd_zero_left, Int.natAbs_of_nonneg (by omega), Int.zero_ediv, Int.ediv_self (by omega)]
theorem rat_1 {W : Int} (h : 0 < W) : rat W W = (1, 1) := by
  unfold rat
  rw [if_neg (by omega), Int.gcd_self, Int.natAbs_of_nonneg (by omega), Int.ediv_self (by omega)]
theorem okD_chs (e : List (Int × (Int × Int))) (h : e.length ≤ 100) : okD 8 (dLst (dT2 PyData.int (dT2 PyData.int PyData.int)) e) := by
  refine ⟨by rw [List.length_map]; omega, fun x hx => ?_⟩
  obtain ⟨q, _, rfl⟩ := List.mem_map.mp hx
  refine ⟨by show 2 < _; decide, fun y hy => ?_⟩
  have hy : y ∈ [PyData.int q.1, dT2 PyData.int PyData.int q.2] := hy
  rcases List.mem_cons.mp hy with rfl | hy
  · trivial
  · rw [List.mem_singleton.mp hy]
    refine ⟨by show 2 < _; decide, fun z hz => ?_⟩
    have hz : z ∈ [PyData.int q.2.1, PyData.int q.2.2] := hz
    rcases List.mem_cons.mp hz with rfl | hz
    · trivial
    · rw [List.mem_singleton.mp hz]; trivial
end L3

namespace L3
open PySem L2
theorem putI_len (k v : Int) : ∀ l : List (Int × Int), (putI l k v).length ≤ l.length + 1 ∧ 1 ≤ (putI l k v).length
  | [] => ⟨Nat.le_refl _, Nat.le_refl _⟩
  | q :: l => by
    have ih := putI_len k v l
    by_cases h : q.1 = k
    · unfold putI; rw [if_pos h]; simp
    · rw [putI_cons_ne h]; simp; omega
theorem putI_mem (k v : Int) : ∀ (l : List (Int × Int)) (q : Int × Int), q ∈ putI l k v → q.2 = v ∨ ∃ q' ∈ l, q.2 = q'.2
  | [], q, h => by
    have h : q ∈ [(k, v)] := h
    left; rw [List.mem_singleton.mp h]
  | p :: l, q, h => by
    by_cases e : p.1 = k
    · unfold putI at h
      rw [if_pos e] at h
      rcases List.mem_cons.mp h with rfl | h
      · exact .inl rfl
      · obtain ⟨q', h1, h2⟩ := List.mem_map.mp h
        by_cases e2 : q'.1 = k
        · rw [if_pos e2] at h2; left; rw [← h2]
        · rw [if_neg e2] at h2; right; exact ⟨q', List.mem_cons_of_mem _ h1, by rw [h2]⟩
    · rw [putI_cons_ne e] at h
      rcases List.mem_cons.mp h with rfl | h
      · exact .inr ⟨_, List.mem_cons_self, rfl⟩
      · rcases putI_mem k v l q h with h | ⟨q', h1, h2⟩
        · exact .inl h
        · exact .inr ⟨q', List.mem_cons_of_mem _ h1, h2⟩
theorem we_sort {d : List (Int × Int)} (h : WE d) : WE (sortI d) := by
  have p := sortI_perm d
  exact ⟨by rw [p.length_eq]; exact h.1, by rw [p.length_eq]; exact h.2.1, fun q hq => h.2.2 q (p.mem_iff.mp hq)⟩
theorem large_ok {st : List Int × Int} {n many : Int} (hs : StOk st n) (hn : n < 2 ^ 48) (h1 : 1 ≤ many) (h2 : many ≤ 99) : Yes (m_l_large st many) fun r => WS r.1 := by
  unfold m_l_large
  refine y_eq (small62_s (by omega) (by omega)) ?_
  refine y_bind (Q := fun (p : TS' × (List Int × Int)) => WS p.1) ?_ fun p hp => y_some hp
  refine (y_foldI _ (fun i (p : TS' × (List Int × Int)) => p.1.length = i ∧ (∀ cs ∈ p.1, cs.length ≤ 1000 ∧ ∀ c ∈ cs, WE c.2) ∧ StOk p.2 (n + 1000 * i)) ⟨rfl, by simp, by simpa using hs⟩ ?_).mono fun p hp => ?_
  · rintro i x ⟨e, st⟩ hx ⟨g1, g2, g3⟩
    obtain ⟨e1, e2⟩ := rng_at hx
    dsimp only at g1 g2 g3
    refine y_bind (take_ok g3 (by omega) (by decide)) fun t31 h31 => ?_
    refine y_bind (ixL_lit (P := fun z => 1 ≤ z ∧ z ≤ 6) h31.1.1 h31.1.2 (by decide)) fun t33 h33 => ?_
    refine y_eq (small62_s (by omega) (by omega)) ?_
    refine y_bind (Q := fun (p : List TC' × (List Int × Int)) => (p.1.length ≤ 6 ∧ ∀ c ∈ p.1, WE c.2) ∧ StOk p.2 (n + 1000 * (i + 1 : Nat))) ?_ fun p hp => ?_
    · refine (y_foldI _ (fun j (p : List TC' × (List Int × Int)) => p.1.length = j ∧ (∀ c ∈ p.1, WE c.2) ∧ StOk p.2 (n + 1000 * i + 1 + 50 * j)) ⟨rfl, by simp, by simpa using h31.2⟩ ?_).mono fun p hp => ?_
      · rintro j y ⟨e', st'⟩ hy ⟨f1, f2, f3⟩
        obtain ⟨d1, d2⟩ := rng_at hy
        dsimp only at f1 f2 f3
        refine y_bind (take_ok f3 (by omega) (by decide)) fun t61 h61 => ?_
        have r61 := h61.1
        refine y_eq (small62_s (by omega) (by omega)) ?_
        refine y_bind (Q := fun (p : TE' × (List Int × Int)) => WE p.1 ∧ StOk p.2 (n + 1000 * i + 1 + 50 * j + 20)) ?_ fun p hp => ?_
        · refine (y_foldI _ (fun k (p : TE' × (List Int × Int)) => p.1.length ≤ k ∧ (0 < k → 1 ≤ p.1.length) ∧ (∀ q ∈ p.1, 1 ≤ q.2 ∧ q.2 ≤ 1000) ∧ StOk p.2 (n + 1000 * i + 1 + 50 * j + 1 + 2 * k)) ⟨Nat.le_refl _, fun h => absurd h (by omega), by simp, by simpa using h61.2⟩ ?_).mono fun p hp => ?_
          · rintro k z ⟨d, st2⟩ hz ⟨k1, k2, k3, k4⟩
            obtain ⟨c1, c2⟩ := rng_at hz
            dsimp only at k1 k2 k3 k4
            refine y_bind (take_ok k4 (by omega) (by decide)) fun t85 h85 => ?_
            refine y_bind (ixL_lit (P := fun z => 1 ≤ z ∧ z ≤ 1000) h85.1.1 h85.1.2 (by decide)) fun t87 h87 => ?_
            refine y_bind (take_ok h85.2 (by omega) (by omega)) fun t89 h89 => ?_
            refine y_eq (room_s (by show d.length ≤ _; omega)) (y_some ⟨?_, fun _ => (putI_len _ _ d).2, fun q hq => ?_, ?_⟩)
            · have := (putI_len t89.1 t87 d).1
              show (putI d t89.1 t87).length ≤ _
              omega
            · rcases putI_mem _ _ d q hq with h | ⟨q', m1, m2⟩
              · rw [h]; exact h87
              · rw [m2]; exact k3 q' m1
            · exact h89.2.le (by omega)
          · obtain ⟨k1, k2, k3, k4⟩ := hp
            rw [rng_len] at k1 k2 k4
            exact ⟨⟨k2 (by omega), by omega, k3⟩, k4.le (by omega)⟩
        · refine y_bind (take_ok hp.2 (by omega) (by decide)) fun t101 h101 => y_eq (room_s (by show e'.length ≤ _; omega)) (y_some ⟨?_, ?_, ?_⟩)
          · show (e' ++ [_]).length = _
            rw [List.length_append, List.length_singleton, f1]
          · intro c hc
            rcases List.mem_append.mp hc with hc | hc
            · exact f2 c hc
            · rw [List.mem_singleton.mp hc]; exact we_sort hp.1
          · exact h101.2.le (by omega)
      · obtain ⟨f1, f2, f3⟩ := hp
        rw [rng_len] at f1 f3
        exact ⟨⟨by omega, f2⟩, f3.le (by omega)⟩
    · refine y_eq (room_s (by show e.length ≤ _; omega)) (y_some ⟨?_, ?_, hp.2⟩)
      · show (e ++ [_]).length = _
        rw [List.length_append, List.length_singleton, g1]
      · intro cs hc
        rcases List.mem_append.mp hc with hc | hc
        · exact g2 cs hc
        · rw [List.mem_singleton.mp hc]; exact ⟨by have := hp.1.1; show p.1.length ≤ _; omega, hp.1.2⟩
  · obtain ⟨g1, g2, g3⟩ := hp
    rw [rng_len] at g1
    exact ⟨by omega, g2⟩
theorem ws_of {r : TS'} (h : VS 3 r) (hl : (r.length : Int) ≤ 5) : WS r := by
  refine ⟨by omega, fun cs hc => ?_⟩
  obtain ⟨a1, a2, a3⟩ := h.2 cs hc
  refine ⟨by omega, fun c hc => ?_⟩
  obtain ⟨_, _, b1, b2, b3, _⟩ := a3 c hc
  refine ⟨?_, by omega, fun q hq => (b3 q hq).2.2⟩
  cases e : c.2 with
  | nil => exact absurd e b1
  | cons _ _ => simp
theorem law_true (ns : List Int) (h : ns.length ≤ 63) : m_law ns = some true := by
  suffices hy : Yes (m_law ns) (· = true) by
    obtain ⟨c, h1, rfl⟩ := hy; exact h1
  unfold m_law
  refine y_bind (tape_ok h) fun t ht => ?_
  refine y_bind (system_ok (n := 0) ⟨ht, Int.le_refl 0, Int.le_refl 0⟩ (by decide) (by decide) (by decide)) fun t5 h5 => ?_
  refine y_bind (take_ok h5.2 (by decide) (by decide)) fun t10 h10 => ?_
  refine y_bind (Q := fun (s : TS' × (List Int × Int)) => WS s.1) (y_if (fun c => ?_) fun c => y_some (ws_of h5.1.1 h5.1.2)) fun s hs => ?_
  · refine y_bind (take_ok h10.2 (by decide) (by decide)) fun t16 h16 => ?_
    have r16 := h16.1
    exact y_bind (large_ok h16.2 (by decide) (by omega) (by omega)) fun t18 h18 => y_some h18
  have hl := hs.1
  refine y_eq (small62_s (by omega) (by omega)) ?_
  refine y_bind (Q := fun o => ∃ s, o = .inl s) ?_ fun o ho => ?_
  rotate_left
  · obtain ⟨s, rfl⟩ := ho; exact y_some rfl
  refine y_loopR _ (fun _ _ => True) _ trivial ?_ fun s _ => ⟨s, rfl⟩
  rintro i x ⟨⟩ hx _
  obtain ⟨e1, e2⟩ := rng_at hx
  have hi : i < s.1.length := by omega
  have g1 : ixL s.1 x = some s.1[i] := ixL_s (List.getElem?_eq_getElem hi) (by omega)
  obtain ⟨w1, w2⟩ := hs.2 _ (List.getElem_mem hi)
  generalize s.1[i] = cs at g1 w1 w2
  refine y_eq g1 (y_eq (small62_s (by omega) (by omega)) ?_)
  refine y_bind (Q := fun o => ∃ s, o = .inl s) ?_ fun o ho => ?_
  rotate_left
  · obtain ⟨s, rfl⟩ := ho; exact y_some trivial
  refine y_loopR _ (fun _ _ => True) _ trivial ?_ fun s _ => ⟨s, rfl⟩
  rintro j y ⟨⟩ hy _
  obtain ⟨e3, e4⟩ := rng_at hy
  have hj : j < cs.length := by omega
  have g2 : ixL cs y = some cs[j] := ixL_s (List.getElem?_eq_getElem hj) (by omega)
  have we := w2 _ (List.getElem_mem hj)
  generalize cs[j] = c at g2 we
  have hW := we_sum we
  have hlen := we.2.1
  refine y_eq g1 (y_eq g2 (y_eq (room_s (by omega)) (y_eq (compM_map (α := Int × Int) (g := fun q => q.2) fun _ _ => rfl) (y_eq (moves_ok g1 g2 we) (y_eq (room_s (by omega)) (y_eq (a := (chs c.2, ())) ?_ ?_))))))
  · refine compM_map (α := Int × Int) (g := fun q => (q.1, rat q.2 (wsum c.2))) fun q hq => ?_
    have hq := we.2.2 q hq
    show Option.bind (m_l_ratio q.2 (wsum c.2)) _ = _
    rw [l_ratio_ok (by omega) (Nat.lt_of_lt_of_le (show q.2.natAbs < 2 ^ 20 by omega) (Nat.pow_le_pow_right (by decide) (by decide))) (Nat.lt_of_lt_of_le (show (wsum c.2).natAbs < 2 ^ 20 by omega) (Nat.pow_le_pow_right (by decide) (by decide)))]
    rfl
  · have ok := okD_chs (chs c.2) (by unfold chs; rw [List.length_map]; exact hlen)
    obtain ⟨v, v1, v2⟩ := eq_ok 8 _ _ ok ok
    have ev : v = true := v2.mpr rfl
    subst ev
    refine y_eq v1 (y_n rfl ?_)
    have f := fold_ok (W := wsum c.2) (by omega) (by omega) c.2 0 (by omega) (by omega) we.2.2
    rw [rat_0 (by omega), Int.zero_add, rat_1 (by omega)] at f
    exact y_eq f (y_n rfl (y_some trivial))
end L3

namespace L3
open PySem PySem.Spec PyProof.Rows L2
/-! ### the end -/
namespace End
def d_ratio : He.DefD := ⟨("ratio", none), "ratio", "ratio", defArgs s_ratio, defBody s_ratio, defScope s_ratio, [], []⟩
def d__law_tape : He.DefD := ⟨("_law_tape", none), "_law_tape", "_law_tape", defArgs s__law_tape, defBody s__law_tape, defScope s__law_tape, [], []⟩
def d__law_draw : He.DefD := ⟨("_law_draw", none), "_law_draw", "_law_draw", defArgs s__law_draw, defBody s__law_draw, defScope s__law_draw, [], []⟩
def d__law_ratio : He.DefD := ⟨("_law_ratio", none), "_law_ratio", "_law_ratio", defArgs s__law_ratio, defBody s__law_ratio, defScope s__law_ratio, [], []⟩
def d_plus : He.DefD := ⟨("plus", none), "plus", "plus", defArgs s_plus, defBody s_plus, defScope s_plus, [], []⟩
def d_total_weight : He.DefD := ⟨("total_weight", none), "total_weight", "total_weight", defArgs s_total_weight, defBody s_total_weight, defScope s_total_weight, [], []⟩
def d__law_take : He.DefD := ⟨("_law_take", none), "_law_take", "_law_take", defArgs s__law_take, defBody s__law_take, defScope s__law_take, [], []⟩
def d_moves : He.DefD := ⟨("moves", none), "moves", "moves", defArgs s_moves, defBody s_moves, defScope s_moves, [], []⟩
def d__law_ends : He.DefD := ⟨("_law_ends", none), "_law_ends", "_law_ends", defArgs s__law_ends, defBody s__law_ends, defScope s__law_ends, [], []⟩
def d__law_large : He.DefD := ⟨("_law_large", none), "_law_large", "_law_large", defArgs s__law_large, defBody s__law_large, defScope s__law_large, [], []⟩
def d__law_choices : He.DefD := ⟨("_law_choices", none), "_law_choices", "_law_choices", defArgs s__law_choices, defBody s__law_choices, defScope s__law_choices, [], []⟩
def d__law_system : He.DefD := ⟨("_law_system", none), "_law_system", "_law_system", defArgs s__law_system, defBody s__law_system, defScope s__law_system, [], []⟩
def d__law_equal : He.DefD := ⟨("_law_equal", none), "_law_equal", "_law_equal", defArgs s__law_equal, defBody s__law_equal, defScope s__law_equal, [], []⟩
def d_law : He.DefD := ⟨("law", none), "law", "law", defArgs s_law, defBody s_law, defScope s_law, [], []⟩
def fn : List He.DefD := [d_ratio, d__law_tape, d__law_draw, d__law_ratio, d_plus, d_total_weight, d__law_take, d_moves, d__law_ends, d__law_large, d__law_choices, d__law_system, d__law_equal, d_law]
def fa : List He.Fa := [.glo "ratio", .glo "_law_tape", .glo "_law_draw", .glo "_law_ratio", .glo "plus", .glo "total_weight", .glo "_law_take", .glo "moves", .glo "_law_ends", .glo "_law_large", .glo "_law_choices", .glo "_law_system", .glo "_law_equal", .glo "law", .free "int", .free "range", .free "len", .free "abs", .free "sum", .free "tuple", .free "sorted", .free "isinstance", .free "bool", .free "str", .free "list"]
def tf : List He.Defn := [("total_weight", none)]
def ex : PySem.W.Frag → Bool := fun K => He.eqO (PySem.W.nsIn K mainGlobals "gcd") (some (some (.builtin "math.gcd")))
def loose0 : List PySem.Str := ["ratio", "plus", "total_weight", "moves", "_law_tape", "_law_draw", "_law_equal", "_law_take", "_law_ratio", "_law_plus", "_law_times", "_law_over", "_law_ends", "_law_choices", "_law_system", "_law_some", "_law_large"]
abbrev loose : List PySem.Str := loose0
abbrev R : PySem.W.OpenRow := PySem.W.OpenLaw.row PySem.Challenge.rw_bestodds_k04_moves_of_choices
abbrev hk : PySem.W.Hook := He.hookX 6 fa fn [] tf ex
def ob (s : PySem.W.SharedT) : He.AlX := He.obsX 6 fa fn [] tf ex (HandSHeadRun.getT s)
theorem ob_eq (s : PySem.W.SharedT) : ob s = hk.obs s.abs := He.obsX_eq (HandSHeadRun.getT_eq s)
theorem run (w : World) : HandSHeadRun.RunEqI R (PySem.W.view R.prog [0, 21]) hk ob 4000 loose w := by
  unfold HandSHeadRun.RunEqI
  kernel_rfl
theorem facts {w : World} {K : PySem.W.Frag} {h : Heap} {mg : Str → Option Value} {f : Addr} (X : K.In h) (G : h.Ns mainGlobals mg) (hfa : mg ("law" : Str) = some (.ref f)) (c : He.SaysX fa fn [] tf ex w h K) (hm : ∀ ns : List Int, ns.length ≤ 63 → m_law ns = some true) :
    LamX.LawAtS PySem.Challenge.rw_bestodds_k04_moves_of_choices w K CX0 9 63 "_law_script" mg f h := by
  obtain ⟨fd0, D0⟩ := c.t.d.def_ 0 (d := d_ratio) rfl
  have F0 : FunC K "ratio" s_ratio (He.fAd K ("ratio", none)) fd0 (He.codeOf K ("ratio", none)) := funC_of D0
  have n0 : mg "ratio" = some (.ref (He.fAd K ("ratio", none))) := He.glo_ok X G (c.t.d.fact 0 (f := .glo "ratio") rfl)
  obtain ⟨fd1, D1⟩ := c.t.d.def_ 1 (d := d__law_tape) rfl
  have F1 : FunC K "_law_tape" s__law_tape (He.fAd K ("_law_tape", none)) fd1 (He.codeOf K ("_law_tape", none)) := funC_of D1
  have n1 : mg "_law_tape" = some (.ref (He.fAd K ("_law_tape", none))) := He.glo_ok X G (c.t.d.fact 1 (f := .glo "_law_tape") rfl)
  obtain ⟨fd2, D2⟩ := c.t.d.def_ 2 (d := d__law_draw) rfl
  have F2 : FunC K "_law_draw" s__law_draw (He.fAd K ("_law_draw", none)) fd2 (He.codeOf K ("_law_draw", none)) := funC_of D2
  have n2 : mg "_law_draw" = some (.ref (He.fAd K ("_law_draw", none))) := He.glo_ok X G (c.t.d.fact 2 (f := .glo "_law_draw") rfl)
  obtain ⟨fd3, D3⟩ := c.t.d.def_ 3 (d := d__law_ratio) rfl
  have F3 : FunC K "_law_ratio" s__law_ratio (He.fAd K ("_law_ratio", none)) fd3 (He.codeOf K ("_law_ratio", none)) := funC_of D3
  have n3 : mg "_law_ratio" = some (.ref (He.fAd K ("_law_ratio", none))) := He.glo_ok X G (c.t.d.fact 3 (f := .glo "_law_ratio") rfl)
  obtain ⟨fd4, D4⟩ := c.t.d.def_ 4 (d := d_plus) rfl
  have F4 : FunC K "plus" s_plus (He.fAd K ("plus", none)) fd4 (He.codeOf K ("plus", none)) := funC_of D4
  have n4 : mg "plus" = some (.ref (He.fAd K ("plus", none))) := He.glo_ok X G (c.t.d.fact 4 (f := .glo "plus") rfl)
  obtain ⟨fd5, D5⟩ := c.t.d.def_ 5 (d := d_total_weight) rfl
  have F5 : FunC K "total_weight" s_total_weight (He.fAd K ("total_weight", none)) fd5 (He.codeOf K ("total_weight", none)) := funC_of D5
  have n5 : mg "total_weight" = some (.ref (He.fAd K ("total_weight", none))) := He.glo_ok X G (c.t.d.fact 5 (f := .glo "total_weight") rfl)
  obtain ⟨fd6, D6⟩ := c.t.d.def_ 6 (d := d__law_take) rfl
  have F6 : FunC K "_law_take" s__law_take (He.fAd K ("_law_take", none)) fd6 (He.codeOf K ("_law_take", none)) := funC_of D6
  have n6 : mg "_law_take" = some (.ref (He.fAd K ("_law_take", none))) := He.glo_ok X G (c.t.d.fact 6 (f := .glo "_law_take") rfl)
  obtain ⟨fd7, D7⟩ := c.t.d.def_ 7 (d := d_moves) rfl
  have F7 : FunC K "moves" s_moves (He.fAd K ("moves", none)) fd7 (He.codeOf K ("moves", none)) := funC_of D7
  have n7 : mg "moves" = some (.ref (He.fAd K ("moves", none))) := He.glo_ok X G (c.t.d.fact 7 (f := .glo "moves") rfl)
  obtain ⟨fd8, D8⟩ := c.t.d.def_ 8 (d := d__law_ends) rfl
  have F8 : FunC K "_law_ends" s__law_ends (He.fAd K ("_law_ends", none)) fd8 (He.codeOf K ("_law_ends", none)) := funC_of D8
  have n8 : mg "_law_ends" = some (.ref (He.fAd K ("_law_ends", none))) := He.glo_ok X G (c.t.d.fact 8 (f := .glo "_law_ends") rfl)
  obtain ⟨fd9, D9⟩ := c.t.d.def_ 9 (d := d__law_large) rfl
  have F9 : FunC K "_law_large" s__law_large (He.fAd K ("_law_large", none)) fd9 (He.codeOf K ("_law_large", none)) := funC_of D9
  have n9 : mg "_law_large" = some (.ref (He.fAd K ("_law_large", none))) := He.glo_ok X G (c.t.d.fact 9 (f := .glo "_law_large") rfl)
  obtain ⟨fd10, D10⟩ := c.t.d.def_ 10 (d := d__law_choices) rfl
  have F10 : FunC K "_law_choices" s__law_choices (He.fAd K ("_law_choices", none)) fd10 (He.codeOf K ("_law_choices", none)) := funC_of D10
  have n10 : mg "_law_choices" = some (.ref (He.fAd K ("_law_choices", none))) := He.glo_ok X G (c.t.d.fact 10 (f := .glo "_law_choices") rfl)
  obtain ⟨fd11, D11⟩ := c.t.d.def_ 11 (d := d__law_system) rfl
  have F11 : FunC K "_law_system" s__law_system (He.fAd K ("_law_system", none)) fd11 (He.codeOf K ("_law_system", none)) := funC_of D11
  have n11 : mg "_law_system" = some (.ref (He.fAd K ("_law_system", none))) := He.glo_ok X G (c.t.d.fact 11 (f := .glo "_law_system") rfl)
  obtain ⟨fd12, D12⟩ := c.t.d.def_ 12 (d := d__law_equal) rfl
  have F12 : FunC K "_law_equal" s__law_equal (He.fAd K ("_law_equal", none)) fd12 (He.codeOf K ("_law_equal", none)) := funC_of D12
  have n12 : mg "_law_equal" = some (.ref (He.fAd K ("_law_equal", none))) := He.glo_ok X G (c.t.d.fact 12 (f := .glo "_law_equal") rfl)
  obtain ⟨fd13, D13⟩ := c.t.d.def_ 13 (d := d_law) rfl
  have F13 : FunC K "law" s_law (He.fAd K ("law", none)) fd13 (He.codeOf K ("law", none)) := funC_of D13
  have n13 : mg "law" = some (.ref (He.fAd K ("law", none))) := He.glo_ok X G (c.t.d.fact 13 (f := .glo "law") rfl)
  have y_gcd : mg "gcd" = some (.builtin "math.gcd") := PySem.W.mg_of X G (He.eqO_ok c.more)
  have y_int : mg "int" = none := He.free_ok X G (c.t.d.fact 14 (f := .free "int") rfl)
  have y_range : mg "range" = none := He.free_ok X G (c.t.d.fact 15 (f := .free "range") rfl)
  have y_len : mg "len" = none := He.free_ok X G (c.t.d.fact 16 (f := .free "len") rfl)
  have y_abs : mg "abs" = none := He.free_ok X G (c.t.d.fact 17 (f := .free "abs") rfl)
  have y_sum : mg "sum" = none := He.free_ok X G (c.t.d.fact 18 (f := .free "sum") rfl)
  have y_tuple : mg "tuple" = none := He.free_ok X G (c.t.d.fact 19 (f := .free "tuple") rfl)
  have y_sorted : mg "sorted" = none := He.free_ok X G (c.t.d.fact 20 (f := .free "sorted") rfl)
  have y_isinstance : mg "isinstance" = none := He.free_ok X G (c.t.d.fact 21 (f := .free "isinstance") rfl)
  have y_bool : mg "bool" = none := He.free_ok X G (c.t.d.fact 22 (f := .free "bool") rfl)
  have y_str : mg "str" = none := He.free_ok X G (c.t.d.fact 23 (f := .free "str") rfl)
  have y_list : mg "list" = none := He.free_ok X G (c.t.d.fact 24 (f := .free "list") rfl)
  have e := hfa.symm.trans n13
  cases e
  have mem : ∀ p ∈ tf.map (He.cT K), ∃ q ∈ tf, He.cT K q = p := fun p hp => List.mem_map.mp hp
  refine ⟨fd13, tf.map (He.cT K), spV K ((tf.map (He.cT K)).map (·.2)) C_law, fun p hp => ?_, fun p hp => ?_, fun p hp => ?_, fun s v => ?_, fun H a ns hl _ hH hS => ?_, fun base KB GB hTB => ?_⟩
  · obtain ⟨q, hq, rfl⟩ := mem p hp; exact c.empty q hq
  · obtain ⟨q, hq, rfl⟩ := mem p hp; exact c.out q hq
  · obtain ⟨q, hq, rfl⟩ := mem p hp; exact PySem.W.codeHd_of_K X (c.hd q hq)
  · exact F13.bindsA (ps := ["_law_script"]) (fun _ _ _ _ _ _ us hl => match us, hl with | [_], _ => rfl) s [v] rfl
  · have hT : ∀ P ∈ (tf.map (He.cT K)).map (·.2), GxR.TabG H P := fun P hP => by
      obtain ⟨p, hp, rfl⟩ := List.mem_map.mp hP
      exact ⟨#[], hH p hp, trivial⟩
    exact ⟨noT H _, ⟨fun _ => none, _⟩, [], [⟨rLst rInt, ns⟩], ⟨rBool, true⟩, [], rfl, Own.start K H _ hT, ⟨⟨a, _, rfl, sq_noT hT hS, paired_ints ns⟩, trivial⟩, ⟨ns, true, rfl, rfl, hm ns hl, rfl, rfl⟩, fun v _ _ _ _ h => h⟩
  · have tbs : ∀ q ∈ tf, ∃ P0, GxR.TabB base mg (He.codeOf K q) P0 ∧ P0 ∈ (tf.map (He.cT K)).map (·.2) := fun q hq => by
      have t := hTB (He.cT K q) (List.mem_map.mpr ⟨q, hq, rfl⟩)
      exact ⟨(He.cT K q).2, ⟨t.code, t.bm, t.gP⟩, List.mem_map.mpr ⟨_, List.mem_map.mpr ⟨q, hq, rfl⟩, rfl⟩⟩
    have b0 := F0.binds (ps := ["n", "d"]) fun _ _ _ _ _ _ us hl => match us, hl with | [_, _], _ => rfl
    have C_0 : Cl PySem.Challenge.rw_bestodds_k04_moves_of_choices.prog w K mg base 1 "ratio" (spV K ((tf.map (He.cT K)).map (·.2)) C_ratio) [] := ⟨_, _, ["n", "d"], [], ok_ratio F0 y_gcd, n0, F0.kp, b0, .nil⟩
    have b1 := F1.binds (ps := ["_law_script"]) fun _ _ _ _ _ _ us hl => match us, hl with | [_], _ => rfl
    have C_1 : Cl PySem.Challenge.rw_bestodds_k04_moves_of_choices.prog w K mg base 1 "_law_tape" (spV K ((tf.map (He.cT K)).map (·.2)) C__law_tape) [] := ⟨_, _, ["_law_script"], [], ok__law_tape F1 y_int y_range, n1, F1.kp, b1, .nil⟩
    have b2 := F2.binds (ps := ["_law_tape_here", "_law_at", "_law_many"]) fun _ _ _ _ _ _ us hl => match us, hl with | [_, _, _], _ => rfl
    have C_2 : Cl PySem.Challenge.rw_bestodds_k04_moves_of_choices.prog w K mg base 1 "_law_draw" (spV K ((tf.map (He.cT K)).map (·.2)) C__law_draw) [] := ⟨_, _, ["_law_tape_here", "_law_at", "_law_many"], [], ok__law_draw F2 y_len y_int, n2, F2.kp, b2, .nil⟩
    have b3 := F3.binds (ps := ["_law_n", "_law_d"]) fun _ _ _ _ _ _ us hl => match us, hl with | [_, _], _ => rfl
    have C_3 : Cl PySem.Challenge.rw_bestodds_k04_moves_of_choices.prog w K mg base 1 "_law_ratio" (spV K ((tf.map (He.cT K)).map (·.2)) C__law_ratio) [] := ⟨_, _, ["_law_n", "_law_d"], [], ok__law_ratio F3 y_abs y_range y_int, n3, F3.kp, b3, .nil⟩
    have b4 := F4.binds (ps := ["a", "b"]) fun _ _ _ _ _ _ us hl => match us, hl with | [_, _], _ => rfl
    have C_4 : Cl PySem.Challenge.rw_bestodds_k04_moves_of_choices.prog w K mg base 2 "plus" (spV K ((tf.map (He.cT K)).map (·.2)) C_plus) [] := ⟨_, _, ["a", "b"], [], ok_plus F4 C_0, n4, F4.kp, b4, .nil⟩
    have b5 := F5.binds (ps := ["ends"]) fun _ _ _ _ _ _ us hl => match us, hl with | [_], _ => rfl
    have C_5 : Cl PySem.Challenge.rw_bestodds_k04_moves_of_choices.prog w K mg base 2 "total_weight" (spV K ((tf.map (He.cT K)).map (·.2)) C_total_weight) [] := ⟨_, _, ["ends"], [], ok_total_weight F5 y_sum (tbs ("total_weight", none) (by unfold tf; simp)), n5, F5.kp, b5, .nil⟩
    have b6 := F6.binds (ps := ["_law_state", "_law_many"]) fun _ _ _ _ _ _ us hl => match us, hl with | [_, _], _ => rfl
    have C_6 : Cl PySem.Challenge.rw_bestodds_k04_moves_of_choices.prog w K mg base 2 "_law_take" (spV K ((tf.map (He.cT K)).map (·.2)) C__law_take) [] := ⟨_, _, ["_law_state", "_law_many"], [], ok__law_take F6 C_2, n6, F6.kp, b6, .nil⟩
    have b7 := F7.binds (ps := ["system", "state", "choice"]) fun _ _ _ _ _ _ us hl => match us, hl with | [_, _, _], _ => rfl
    have C_7 : Cl PySem.Challenge.rw_bestodds_k04_moves_of_choices.prog w K mg base 3 "moves" (spV K ((tf.map (He.cT K)).map (·.2)) C_moves) [] := ⟨_, _, ["system", "state", "choice"], [], ok_moves F7 C_5 C_0, n7, F7.kp, b7, .nil⟩
    have b8 := F8.binds (ps := ["_law_state", "_law_many"]) fun _ _ _ _ _ _ us hl => match us, hl with | [_, _], _ => rfl
    have C_8 : Cl PySem.Challenge.rw_bestodds_k04_moves_of_choices.prog w K mg base 3 "_law_ends" (spV K ((tf.map (He.cT K)).map (·.2)) C__law_ends) [] := ⟨_, _, ["_law_state", "_law_many"], [], ok__law_ends F8 C_6 y_range y_tuple, n8, F8.kp, b8, .nil⟩
    have b9 := F9.binds (ps := ["_law_state", "_law_many"]) fun _ _ _ _ _ _ us hl => match us, hl with | [_, _], _ => rfl
    have C_9 : Cl PySem.Challenge.rw_bestodds_k04_moves_of_choices.prog w K mg base 3 "_law_large" (spV K ((tf.map (He.cT K)).map (·.2)) C__law_large) [] := ⟨_, _, ["_law_state", "_law_many"], [], ok__law_large F9 C_6 y_range y_sorted y_tuple, n9, F9.kp, b9, .nil⟩
    have b10 := F10.binds (ps := ["_law_state", "_law_many", "_law_most"]) fun _ _ _ _ _ _ us hl => match us, hl with | [_, _, _], _ => rfl
    have C_10 : Cl PySem.Challenge.rw_bestodds_k04_moves_of_choices.prog w K mg base 4 "_law_choices" (spV K ((tf.map (He.cT K)).map (·.2)) C__law_choices) [] := ⟨_, _, ["_law_state", "_law_many", "_law_most"], [], ok__law_choices F10 C_6 C_8 y_range y_tuple, n10, F10.kp, b10, .nil⟩
    have b11 := F11.binds (ps := ["_law_state", "_law_most"]) fun _ _ _ _ _ _ us hl => match us, hl with | [_, _], _ => rfl
    have C_11 : Cl PySem.Challenge.rw_bestodds_k04_moves_of_choices.prog w K mg base 5 "_law_system" (spV K ((tf.map (He.cT K)).map (·.2)) C__law_system) [] := ⟨_, _, ["_law_state", "_law_most"], [], ok__law_system F11 C_6 C_10 y_range y_tuple, n11, F11.kp, b11, .nil⟩
    have b12 := F12.binds (ps := ["_law_actual", "_law_due"]) fun _ _ _ _ _ _ us hl => match us, hl with | [_, _], _ => rfl
    have C_12 : Cl PySem.Challenge.rw_bestodds_k04_moves_of_choices.prog w K mg base 8 "_law_equal" (spV K ((tf.map (He.cT K)).map (·.2)) (C__law_equal 8)) [] := ⟨_, _, ["_law_actual", "_law_due"], [], all__law_equal F12 y_isinstance y_bool y_int y_str y_tuple y_list y_len y_range n12 F12.kp b12 8, n12, F12.kp, b12, .nil⟩
    exact ok_law F13 C_1 C_11 C_6 C_9 C_7 C_12 C_3 C_4 y_range y_len y_sum
end End
end L3
open PySem PySem.W PySem.Calls PyProof.Rows
set_option maxHeartbeats 0 in
theorem PySem.Challenge.cw_bestodds_k04_moves_of_choices_holds : PySem.Challenge.rw_bestodds_k04_moves_of_choices.Holds := by
  w_on; o_law
  refine HandSHeadRun.head_imp (r := OpenLaw.row PySem.Challenge.rw_bestodds_k04_moves_of_choices) (q := view (OpenLaw.row PySem.Challenge.rw_bestodds_k04_moves_of_choices).prog [0, 21]) (H := L3.End.hk) (ob := L3.End.ob) (M := 4000) (loose := L3.End.loose) (d := HandSHeadRun.topDef (OpenLaw.row PySem.Challenge.rw_bestodds_k04_moves_of_choices).prog 21) (kwd := []) L3.End.ob_eq
    L3.End.run (by kernel_rfl) (by kernel_rfl) (by kernel_rfl) (by rfl) (by first | assumption | decide +kernel) (by decide +kernel) ⟨rfl, rfl, rfl, rfl, rfl, by decide +kernel⟩ ?hw ?hc
  case hw => w_witness2
  case hc =>
    refine LamX.walk_ofTsE (l := PySem.Challenge.rw_bestodds_k04_moves_of_choices) (n := 63) (k := 9) (x := "_law_script") (CX := fun _ => L2.CX0) rfl (by decide) (by kernel_rfl) ⟨rfl, by decide, by decide⟩ ?F (fun _ _ _ _ _ z => z)
    intro w mg fa h Y G hmg0
    obtain ⟨K, KX, c⟩ := Y
    have hmg : mg ("law" : PySem.Str) = some (.ref fa) := by
      have e : (HandSHeadRun.topDef (OpenLaw.row PySem.Challenge.rw_bestodds_k04_moves_of_choices).prog 21).name = ("law" : PySem.Str) := by kernel_rfl
      rw [← e]
      exact hmg0
    exact ⟨K, KX, L3.End.facts KX G hmg c L3.law_true⟩
#print axioms PySem.Challenge.cw_bestodds_k04_moves_of_choices_holds

