import PyProof.Rows.All
import Wide.All
import OpenK.AllK
import Wide.FinOn
import HandS.ForMost
import HandS.Evl
import HandS.Gcd
import HandS.Wide
import HandS.Conv
import HandS.IsInst
import HandS.Codes
import PySem.Challenge.RW_bestodds_k20_chances_within_steps
import HandS.AnyAll
import HandS.Comp
import HandS.GenOver
import HandS.GenList
import HandS.HeadHook4
import HandS.HeadWalk
import HandS.Head0
import HandS.Head1
import HandS.Head2
import KE.GoesMore
import HandS.Iter
import HandS.TupAny
import HandS.TupMul
import HandS.Style
import HandS.ListItems
import HandS.SortRule
import HandS.CallLocal
import HandS.Head3
import HandS.HeadEnd
import HandS.HeadHook1
import HandS.HeadHook2
set_option Elab.async false
set_option linter.all false
set_option maxRecDepth 100000
set_option maxHeartbeats 4000000
namespace L3
open PySem L2
open Evl (Ex ex_rd ex_l ex_t sq_of st_of fresh_back)

abbrev Fg := PySem.W.Frag

/-! ### how data stands in the heap -/
structure Rep (α : Type) where
  is : Fg → Hp → V → α → Prop
  mono : ∀ {K : Fg} {B B' : Hp} {v : V} {a : α}, Ex B B' → is K B v a → is K B' v a
structure CRep (α : Type) where
  is : Fg → Hp → HO → α → Prop
  mono : ∀ {K : Fg} {B B' : Hp} {o : HO} {a : α}, Ex B B' → is K B o a → is K B' o a

theorem paired_mono {α : Type} {r : Rep α} {K : Fg} {B B' : Hp} (e : Ex B B') : ∀ {xs : List V} {as : List α}, Paired (r.is K B) xs as → Paired (r.is K B') xs as
  | _, _, .nil => .nil
  | _, _, .cons h t => .cons (r.mono e h) (paired_mono e t)
theorem paired_len {α β : Type} {F : α → β → Prop} : ∀ {xs : List α} {as : List β}, Paired F xs as → xs.length = as.length
  | _, _, .nil => rfl
  | _, _, .cons _ t => congrArg (· + 1) (paired_len t)
theorem paired_get {α β : Type} {F : α → β → Prop} : ∀ {xs : List α} {as : List β} {i : Nat} {a : β}, Paired F xs as → as[i]? = some a → ∃ x, xs[i]? = some x ∧ F x a
  | _, _, _, _, .nil, e => by simp at e
  | _, _, 0, _, .cons r _, e => by simp at e; subst e; exact ⟨_, rfl, r⟩
  | _, _, i + 1, a, .cons _ t, e => by
    obtain ⟨u, h1, h2⟩ := paired_get (i := i) (a := a) t (by simpa using e)
    exact ⟨u, by simpa using h1, h2⟩
theorem paired_app {α β : Type} {F : α → β → Prop} : ∀ {xs ys : List α} {as bs : List β}, Paired F xs as → Paired F ys bs → Paired F (xs ++ ys) (as ++ bs)
  | _, _, _, _, .nil, s => s
  | _, _, _, _, .cons r t, s => .cons r (paired_app t s)
theorem paired_set {α β : Type} {F : α → β → Prop} {x : α} {a : β} (r : F x a) : ∀ {xs : List α} {as : List β} (i : Nat), Paired F xs as → Paired F (xs.set i x) (as.set i a)
  | _, _, _, .nil => .nil
  | _, _, 0, .cons _ t => .cons r t
  | _, _, i + 1, .cons q t => .cons q (paired_set r i t)
theorem paired_drop {α β : Type} {F : α → β → Prop} : ∀ {xs : List α} {as : List β} (n : Nat), Paired F xs as → Paired F (xs.drop n) (as.drop n)
  | _, _, 0, r => r
  | _, _, _ + 1, .nil => .nil
  | _, _, n + 1, .cons _ t => paired_drop n t
theorem paired_take {α β : Type} {F : α → β → Prop} : ∀ {xs : List α} {as : List β} (n : Nat), Paired F xs as → Paired F (xs.take n) (as.take n)
  | _, _, 0, _ => .nil
  | _, _, _ + 1, .nil => .nil
  | _, _, n + 1, .cons r t => .cons r (paired_take n t)
theorem paired_rev {α β : Type} {F : α → β → Prop} : ∀ {xs : List α} {as : List β}, Paired F xs as → Paired F xs.reverse as.reverse
  | _, _, .nil => .nil
  | _, _, .cons r t => by
    rw [List.reverse_cons, List.reverse_cons]
    exact paired_app (paired_rev t) (.cons r .nil)
theorem paired_map {α β γ : Type} {F : γ → β → Prop} {f : α → γ} {g : α → β} (h : ∀ a, F (f a) (g a)) : ∀ (l : List α), Paired F (l.map f) (l.map g)
  | [] => .nil
  | a :: l => .cons (h a) (paired_map h l)
theorem paired_imp {α β : Type} {F G : α → β → Prop} (h : ∀ a b, F a b → G a b) : ∀ {xs : List α} {as : List β}, Paired F xs as → Paired G xs as
  | _, _, .nil => .nil
  | _, _, .cons r t => .cons (h _ _ r) (paired_imp h t)

def rInt : Rep Int := ⟨fun _ _ v a => v = .int a, fun _ h => h⟩
def rBool : Rep Bool := ⟨fun _ _ v a => v = .bl a, fun _ h => h⟩
def rStr : Rep Str := ⟨fun _ _ v a => v = .str a, fun _ h => h⟩
def rNon : Rep Unit := ⟨fun _ _ v _ => v = .non, fun _ h => h⟩
def rRef : Rep Addr := ⟨fun _ _ v a => v = .ref a, fun _ h => h⟩
def rVal : Rep V := ⟨fun _ _ v a => v = a, fun _ h => h⟩
def rOpt {α : Type} (r : Rep α) : Rep (Option α) := ⟨fun K B v a => match a with | none => v = .non | some x => r.is K B v x, fun {K B B' v a} e h => by
  cases a with
  | none => exact h
  | some x => exact r.mono e h⟩
def rTup {α : Type} (r : Rep α) : Rep (List α) := ⟨fun K B v as => ∃ p xs, v = .ref p ∧ SqT K B p xs ∧ Paired (r.is K B) xs as, fun e ⟨p, xs, h1, h2, h3⟩ => ⟨p, xs, h1, ex_t e h2, paired_mono e h3⟩⟩
def rLst {α : Type} (r : Rep α) : Rep (List α) := ⟨fun K B v as => ∃ p xs, v = .ref p ∧ SqL K B p xs ∧ Paired (r.is K B) xs as, fun e ⟨p, xs, h1, h2, h3⟩ => ⟨p, xs, h1, ex_l e h2, paired_mono e h3⟩⟩
def rSeq {α : Type} (r : Rep α) : Rep (List α) := ⟨fun K B v as => ∃ p xs, v = .ref p ∧ (SqL K B p xs ∨ SqT K B p xs) ∧ Paired (r.is K B) xs as, fun e ⟨p, xs, h1, h2, h3⟩ => ⟨p, xs, h1, h2.imp (ex_l e) (ex_t e), paired_mono e h3⟩⟩
def rT2 {α β : Type} (r : Rep α) (s : Rep β) : Rep (α × β) := ⟨fun K B v a => ∃ p x y, v = .ref p ∧ SqT K B p [x, y] ∧ r.is K B x a.1 ∧ s.is K B y a.2,
  fun e ⟨p, x, y, h1, h2, h3, h4⟩ => ⟨p, x, y, h1, ex_t e h2, r.mono e h3, s.mono e h4⟩⟩
def rT3 {α β γ : Type} (r : Rep α) (s : Rep β) (t : Rep γ) : Rep (α × β × γ) := ⟨fun K B v a => ∃ p x y z, v = .ref p ∧ SqT K B p [x, y, z] ∧ r.is K B x a.1 ∧ s.is K B y a.2.1 ∧ t.is K B z a.2.2,
  fun e ⟨p, x, y, z, h1, h2, h3, h4, h5⟩ => ⟨p, x, y, z, h1, ex_t e h2, r.mono e h3, s.mono e h4, t.mono e h5⟩⟩
def cLst {α : Type} (r : Rep α) : CRep (List α) := ⟨fun K B o as => ∃ xs, o = .lst xs ∧ Paired (r.is K B) xs as, fun e ⟨xs, h1, h2⟩ => ⟨xs, h1, paired_mono e h2⟩⟩
/-- a list [u, v] of two kinds -/
def cL2 {α β : Type} (r : Rep α) (s : Rep β) : CRep (α × β) := ⟨fun K B o a => ∃ x y, o = .lst [x, y] ∧ r.is K B x a.1 ∧ s.is K B y a.2, fun e ⟨x, y, h1, h2, h3⟩ => ⟨x, y, h1, r.mono e h2, s.mono e h3⟩⟩
theorem rTup_seq {α : Type} {r : Rep α} {K : Fg} {B : Hp} {v : V} {as : List α} (h : (rTup r).is K B v as) : (rSeq r).is K B v as := by
  obtain ⟨p, xs, h1, h2, h3⟩ := h
  exact ⟨p, xs, h1, .inr h2, h3⟩
theorem rLst_seq {α : Type} {r : Rep α} {K : Fg} {B : Hp} {v : V} {as : List α} (h : (rLst r).is K B v as) : (rSeq r).is K B v as := by
  obtain ⟨p, xs, h1, h2, h3⟩ := h
  exact ⟨p, xs, h1, .inl h2, h3⟩

/-! ### the heap in three: B stays, M is not ours, L may change -/
structure Cell : Type 1 where
  {α : Type}
  p : Addr
  c : CRep α
  a : α
def Cell.ok (K : Fg) (B H : Hp) (x : Cell) : Prop := ∃ o, H x.p = some o ∧ x.c.is K B o x.a
/-- what is not ours; the code objects' tables that may grow -/
structure Fr where
  h : Hp
  T : List Addr
instance : CoeFun Fr fun _ => Addr → Option HO := ⟨Fr.h⟩
instance : CoeOut Fr Hp := ⟨Fr.h⟩
structure Own (K : Fg) (B : Hp) (M : Fr) (L : List Cell) (H : Hp) : Prop where
  b : Ex B H
  m : Ex M.h H
  bm : ∀ a, B a = none ∨ M a = none
  l : ∀ x ∈ L, x.ok K B H ∧ B x.p = none ∧ M x.p = none
  nd : (L.map (·.p)).Nodup
  t : ∀ P ∈ M.T, GxR.TabG H P ∧ B P = none ∧ M P = none ∧ P ∉ L.map (·.p)
section
variable {K : Fg} {B B' H H' : Hp} {M : Fr} {L L' : List Cell} {p : Addr} {o : HO} {α : Type} {c : CRep α} {a a' : α}
theorem Cell.ok.mono {x : Cell} (e : Ex B B') (h : x.ok K B H) : x.ok K B' H := by
  obtain ⟨o, h1, h2⟩ := h
  exact ⟨o, h1, x.c.mono e h2⟩
theorem tab_upd {H : Hp} {P p : Addr} {o : HO} (h : GxR.TabG H P) (ne : P ≠ p) : GxR.TabG (upd H p o) P := by
  obtain ⟨ps, h1, h2⟩ := h
  exact ⟨ps, by rw [upd_ne ne]; exact h1, h2⟩
theorem tab_ne {H : Hp} {P p : Addr} (h : GxR.TabG H P) (hp : H p = none) : P ≠ p := fun e => by
  obtain ⟨ps, h1, _⟩ := h
  rw [e, hp] at h1
  cases h1
/-- without the tables -/
def noT (H : Hp) (T : List Addr) : Hp := fun a => if a ∈ T then none else H a
theorem Own.start (K : Fg) (H : Hp) (T : List Addr) (hT : ∀ P ∈ T, GxR.TabG H P) : Own K (noT H T) ⟨fun _ => none, T⟩ [] H := ⟨fun a u h => by
    unfold noT at h
    split at h
    · cases h
    · exact h, fun _ _ h => (by cases h), fun _ => .inr rfl, fun _ h => absurd h (by simp), by simp, fun P hP => ⟨hT P hP, by unfold noT; rw [if_pos hP], rfl, by simp⟩⟩
theorem sq_noT {K : Fg} {H : Hp} {T : List Addr} {a : Addr} {xs : List V} (hT : ∀ P ∈ T, GxR.TabG H P) (h : SqL K H a xs) : SqL K (noT H T) a xs := by
  have ne : ∀ u, H a = some u → (∀ ps, u ≠ .tbl ps) → noT H T a = some u := fun u e n => by
    unfold noT
    split
    · rename_i hm
      obtain ⟨ps, h1, _⟩ := hT a hm
      rw [e] at h1
      exact absurd (Option.some.inj h1) (n ps)
    · exact e
  rcases h with (h | ⟨o, h⟩) | h
  · exact .inl (.inl (ne _ h fun _ e => by cases e))
  · exact .inl (.inr ⟨o, ne _ h fun _ e => by cases e⟩)
  · exact .inr h
/-- a new thing that stays -/
theorem Own.ext (w : Own K B M L H) (hp : H p = none) : Own K (upd B p o) M L (upd H p o) := by
  have hB : B p = none := fresh_back w.b hp
  have hM : M p = none := fresh_back w.m hp
  refine ⟨fun b u e => ?_, fun b u e => ?_, fun b => ?_, fun x hx => ?_, w.nd, fun P hP => ?_⟩
  rotate_right
  · obtain ⟨h1, h2, h3, h4⟩ := w.t P hP
    have ne := tab_ne h1 hp
    exact ⟨tab_upd h1 ne, by rw [upd_ne ne]; exact h2, h3, h4⟩
  · by_cases hb : b = p
    · rw [hb, upd_same] at e; rw [hb, upd_same]; exact e
    · rw [upd_ne hb] at e; rw [upd_ne hb]; exact w.b b u e
  · rw [upd_ne (ne_of_none e hM)]; exact w.m b u e
  · by_cases hb : b = p
    · right; rw [hb]; exact hM
    · rw [upd_ne hb]; exact w.bm b
  · obtain ⟨⟨u, h1, h2⟩, h3, h4⟩ := w.l x hx
    have ne : x.p ≠ p := ne_of_none h1 hp
    exact ⟨⟨u, by rw [upd_ne ne]; exact h1, x.c.mono (Ex.new hB) h2⟩, by rw [upd_ne ne]; exact h3, h4⟩
/-- a new thing that may change -/
theorem Own.new (w : Own K B M L H) (hp : H p = none) (h : c.is K B o a) : Own K B M (⟨p, c, a⟩ :: L) (upd H p o) := by
  have hB : B p = none := fresh_back w.b hp
  have hM : M p = none := fresh_back w.m hp
  refine ⟨fun b u e => ?_, fun b u e => ?_, w.bm, fun x hx => ?_, ?_, fun P hP => ?_⟩
  rotate_right
  · obtain ⟨h1, h2, h3, h4⟩ := w.t P hP
    have ne := tab_ne h1 hp
    exact ⟨tab_upd h1 ne, h2, h3, fun z => (List.mem_cons.mp z).elim ne h4⟩
  · rw [upd_ne (ne_of_none e hB)]; exact w.b b u e
  · rw [upd_ne (ne_of_none e hM)]; exact w.m b u e
  · rcases List.mem_cons.mp hx with rfl | hx
    · exact ⟨⟨o, upd_same, h⟩, hB, hM⟩
    · obtain ⟨⟨u, h1, h2⟩, h3, h4⟩ := w.l x hx
      exact ⟨⟨u, by rw [upd_ne (ne_of_none h1 hp)]; exact h1, h2⟩, h3, h4⟩
  · rw [List.map_cons, List.nodup_cons]
    refine ⟨fun hm => ?_, w.nd⟩
    obtain ⟨x, hx, e⟩ := List.mem_map.mp hm
    obtain ⟨⟨u, h1, _⟩, _⟩ := w.l x hx
    rw [e, show (Cell.mk p c a).p = p from rfl, hp] at h1
    cases h1
theorem nodup_at : ∀ {l : List Addr} {i j : Nat} {x : Addr}, l.Nodup → l[i]? = some x → l[j]? = some x → i = j := fun {l i j x} h a b => by
  obtain ⟨h1, e1⟩ := List.getElem?_eq_some_iff.mp a
  obtain ⟨h2, e2⟩ := List.getElem?_eq_some_iff.mp b
  exact (List.getElem_inj h).mp (e1.trans e2.symm)
theorem Own.at {i : Nat} {x : Cell} (w : Own K B M L H) (h : L[i]? = some x) : x.ok K B H ∧ B x.p = none ∧ M x.p = none := w.l x (List.mem_of_getElem? h)
theorem Own.ne {i j : Nat} {x y : Cell} (w : Own K B M L H) (h : L[i]? = some x) (h' : L[j]? = some y) (hij : i ≠ j) : x.p ≠ y.p := fun e => hij (nodup_at w.nd (by rw [List.getElem?_map, h]; rfl) (by rw [List.getElem?_map, h']; exact congrArg some e.symm))
/-- a change in place -/
theorem Own.set {i : Nat} (w : Own K B M L H) (h : L[i]? = some ⟨p, c, a⟩) {β : Type} {c' : CRep β} {a' : β} (h' : c'.is K B o a') : Own K B M (L.set i ⟨p, c', a'⟩) (upd H p o) := by
  obtain ⟨_, hB, hM⟩ := w.at h
  have ek : (L.set i ⟨p, c', a'⟩).map (·.p) = L.map (·.p) := by
    rw [List.map_set]
    refine List.ext_getElem? fun j => ?_
    by_cases hij : i = j
    · subst hij
      have hl : i < (L.map (·.p)).length := by rw [List.length_map]; exact (List.getElem?_eq_some_iff.mp h).1
      rw [List.getElem?_set_self hl, List.getElem?_map, h]; rfl
    · rw [List.getElem?_set_ne hij]
  refine ⟨fun b u e => ?_, fun b u e => ?_, w.bm, fun x hx => ?_, ?_, fun P hP => ?_⟩
  rotate_right
  · obtain ⟨h1, h2, h3, h4⟩ := w.t P hP
    have ne : P ≠ p := fun e => h4 (by rw [e]; exact List.mem_map.mpr ⟨_, List.mem_of_getElem? h, rfl⟩)
    exact ⟨tab_upd h1 ne, h2, h3, by rw [ek]; exact h4⟩
  · rw [upd_ne (ne_of_none e hB)]; exact w.b b u e
  · rw [upd_ne (ne_of_none e hM)]; exact w.m b u e
  · obtain ⟨j, hj⟩ := List.getElem?_of_mem hx
    by_cases hij : i = j
    · subst hij
      have hl : i < L.length := (List.getElem?_eq_some_iff.mp h).1
      rw [List.getElem?_set_self hl] at hj
      cases hj
      exact ⟨⟨o, upd_same, h'⟩, hB, hM⟩
    · rw [List.getElem?_set_ne hij] at hj
      obtain ⟨⟨u, h1, h2⟩, h3, h4⟩ := w.at hj
      have ne : x.p ≠ p := w.ne hj h (Ne.symm hij)
      exact ⟨⟨u, by rw [upd_ne ne]; exact h1, h2⟩, h3, h4⟩
  · have e : (L.set i ⟨p, c', a'⟩).map (·.p) = L.map (·.p) := by
      rw [List.map_set]
      refine List.ext_getElem? fun j => ?_
      by_cases hij : i = j
      · subst hij
        have hl : i < (L.map (·.p)).length := by rw [List.length_map]; exact (List.getElem?_eq_some_iff.mp h).1
        rw [List.getElem?_set_self hl, List.getElem?_map, h]; rfl
      · rw [List.getElem?_set_ne hij]
    rw [e]; exact w.nd
theorem Own.perm {L' : List Cell} (w : Own K B M L H) (h : ∀ x ∈ L', x ∈ L) (nd : (L'.map (·.p)).Nodup) : Own K B M L' H := ⟨w.b, w.m, w.bm, fun x hx => w.l x (h x hx), nd, fun P hP => by
  obtain ⟨h1, h2, h3, h4⟩ := w.t P hP
  refine ⟨h1, h2, h3, fun z => h4 ?_⟩
  obtain ⟨x, hx, e⟩ := List.mem_map.mp z
  exact List.mem_map.mpr ⟨x, h x hx, e⟩⟩
theorem Own.erase (w : Own K B M L H) (i : Nat) : Own K B M (L.eraseIdx i) H := by
  refine w.perm (fun x hx => List.mem_of_mem_eraseIdx hx) ?_
  exact w.nd.sublist ((List.eraseIdx_sublist L i).map _)
theorem Own.tail {x : Cell} (w : Own K B M (x :: L) H) : Own K B M L H := w.erase 0
theorem Own.nil (w : Own K B M L H) : Own K B M [] H := w.perm (fun _ h => absurd h (by simp)) (by simp)
/-- what may change stays from now on -/
theorem Own.freeze {i : Nat} {x : Cell} (w : Own K B M L H) (h : L[i]? = some x) : ∃ o, H x.p = some o ∧ x.c.is K B o x.a ∧ B x.p = none ∧ Own K (upd B x.p o) M (L.eraseIdx i) H := by
  obtain ⟨⟨o, h1, h2⟩, hB, hM⟩ := w.at h
  refine ⟨o, h1, h2, hB, fun b u e => ?_, w.m, fun b => ?_, fun y hy => ?_, w.nd.sublist ((List.eraseIdx_sublist L i).map _), fun P hP => ?_⟩
  rotate_right
  · obtain ⟨t1, t2, t3, t4⟩ := w.t P hP
    have ne : P ≠ x.p := fun e => t4 (by rw [e]; exact List.mem_map.mpr ⟨_, List.mem_of_getElem? h, rfl⟩)
    exact ⟨t1, by rw [upd_ne ne]; exact t2, t3, fun z => t4 (((List.eraseIdx_sublist L i).map _).subset z)⟩
  · by_cases hb : b = x.p
    · rw [hb, upd_same] at e; rw [hb, h1]; exact e
    · rw [upd_ne hb] at e; exact w.b b u e
  · by_cases hb : b = x.p
    · right; rw [hb]; exact hM
    · rw [upd_ne hb]; exact w.bm b
  · obtain ⟨⟨u, h3, h4⟩, h5, h6⟩ := w.l y (List.mem_of_mem_eraseIdx hy)
    have ne : y.p ≠ x.p := by
      obtain ⟨j, hj, hne⟩ := List.mem_eraseIdx_iff_getElem?.mp hy
      exact w.ne hne h hj
    exact ⟨⟨u, h3, y.c.mono (Ex.new hB) h4⟩, by rw [upd_ne ne]; exact h5, h6⟩
/-- what is ours as a part of what is not ours -/
def absorb (M : Fr) (L : List Cell) (H : Hp) : Fr := ⟨fun a => if a ∈ L.map (·.p) then H a else M a, M.T⟩
theorem absorb_in {x : Cell} (h : x ∈ L) : absorb M L H x.p = H x.p := by
  exact if_pos (List.mem_map.mpr ⟨x, h, rfl⟩)
theorem absorb_out (h : p ∉ L.map (·.p)) : absorb M L H p = M p := by
  exact if_neg h
/-- L1 is lent, L2 is set aside -/
theorem Own.lend {L1 L2 : List Cell} (w : Own K B M L H) (h1 : ∀ x ∈ L1, x ∈ L) (h2 : ∀ x ∈ L2, x ∈ L) (nd1 : (L1.map (·.p)).Nodup) (dj : ∀ x ∈ L1, x.p ∉ L2.map (·.p)) : Own K B (absorb M L2 H) L1 H := by
  refine ⟨w.b, fun b u e => ?_, fun b => ?_, fun x hx => ?_, nd1, fun P hP => ?_⟩
  rotate_right
  · obtain ⟨t1, t2, t3, t4⟩ := w.t P hP
    have sub : ∀ {L' : List Cell}, (∀ x ∈ L', x ∈ L) → P ∉ L'.map (·.p) := fun {L'} hs z => by
      obtain ⟨x, hx, e⟩ := List.mem_map.mp z
      exact t4 (List.mem_map.mpr ⟨x, hs x hx, e⟩)
    exact ⟨t1, t2, by rw [absorb_out (sub h2)]; exact t3, sub h1⟩
  · by_cases hb : b ∈ L2.map (·.p)
    · have e : (if b ∈ L2.map (·.p) then H b else M b) = some u := e; rw [if_pos hb] at e; exact e
    · rw [absorb_out hb] at e; exact w.m b u e
  · by_cases hb : b ∈ L2.map (·.p)
    · left
      obtain ⟨x, hx, rfl⟩ := List.mem_map.mp hb
      exact (w.l x (h2 x hx)).2.1
    · rw [absorb_out hb]; exact w.bm b
  · obtain ⟨a1, a2, a3⟩ := w.l x (h1 x hx)
    refine ⟨a1, a2, ?_⟩
    rw [absorb_out (dj x hx)]; exact a3
/-- it comes back changed -/
theorem Own.back {L1' L2 : List Cell} (w : Own K B M L H) (h2 : ∀ x ∈ L2, x ∈ L) (nd2 : (L2.map (·.p)).Nodup) (e : Ex B B') (w' : Own K B' (absorb M L2 H) L1' H') (dj : ∀ x ∈ L1', x.p ∉ L2.map (·.p)) : Own K B' M (L1' ++ L2) H' := by
  have inL : ∀ x ∈ L2, ∃ o, H x.p = some o ∧ H' x.p = some o ∧ x.c.is K B o x.a := fun x hx => by
    obtain ⟨⟨o, a1, a2⟩, _⟩ := w.l x (h2 x hx)
    exact ⟨o, a1, w'.m x.p o (by rw [absorb_in hx]; exact a1), a2⟩
  have Min : ∀ b u, M b = some u → b ∉ L2.map (·.p) := fun b u hm hb => by
    obtain ⟨x, hx, rfl⟩ := List.mem_map.mp hb
    rw [(w.l x (h2 x hx)).2.2] at hm
    cases hm
  refine ⟨w'.b, fun b u hm => w'.m b u (by rw [absorb_out (Min b u hm)]; exact hm), fun b => ?_, fun x hx => ?_, ?_, fun P hP => ?_⟩
  rotate_right
  · obtain ⟨t1, t2, t3, t4⟩ := w.t P hP
    obtain ⟨s1, s2, s3, s4⟩ := w'.t P hP
    refine ⟨s1, s2, t3, fun z => ?_⟩
    rw [List.map_append, List.mem_append] at z
    rcases z with z | z
    · exact s4 z
    · obtain ⟨x, hx, e⟩ := List.mem_map.mp z
      exact t4 (List.mem_map.mpr ⟨x, h2 x hx, e⟩)
  · rcases w'.bm b with h | h
    · exact .inl h
    · right
      by_cases hb : b ∈ L2.map (·.p)
      · obtain ⟨x, hx, rfl⟩ := List.mem_map.mp hb
        exact (w.l x (h2 x hx)).2.2
      · rw [absorb_out hb] at h; exact h
  · rcases List.mem_append.mp hx with hx | hx
    · obtain ⟨a1, a2, a3⟩ := w'.l x hx
      refine ⟨a1, a2, ?_⟩
      rw [absorb_out (dj x hx)] at a3; exact a3
    · obtain ⟨o, a1, a2, a3⟩ := inL x hx
      refine ⟨⟨o, a2, x.c.mono e a3⟩, ?_, (w.l x (h2 x hx)).2.2⟩
      rcases w'.bm x.p with h | h
      · exact h
      · rw [absorb_in hx, a1] at h; cases h
  · rw [List.map_append, List.nodup_append]
    refine ⟨w'.nd, nd2, fun a ha b hb hab => ?_⟩
    obtain ⟨x, hx, rfl⟩ := List.mem_map.mp ha
    exact dj x hx (by rw [hab]; exact hb)
end
end L3

namespace L3
open PySem L2
open Evl (Ex ex_rd ex_l ex_t sq_of st_of fresh_back)

/-! ### what an expression gives -/
def EV (K : Fg) (M : Fr) {α : Type} (te : TE) (σ : St) (B : Hp) (L : List Cell) (r : Rep α) (a : α) (L' : List Cell) : Prop :=
  ∀ B1 H, Ex B B1 → Own K B1 M L H → ∀ Q : VK, (∀ v B2 H2, Ex B1 B2 → Own K B2 M L' H2 → r.is K B2 v a → Q v H2) → te σ H Q
/-- a new list that may change -/
def EVL (K : Fg) (M : Fr) {α : Type} (te : TE) (σ : St) (B : Hp) (L : List Cell) (r : Rep α) (as : List α) (L' : List Cell) : Prop :=
  ∀ B1 H, Ex B B1 → Own K B1 M L H → ∀ Q : VK, (∀ p B2 H2, Ex B1 B2 → Own K B2 M (⟨p, cLst r, as⟩ :: L') H2 → Q (.ref p) H2) → te σ H Q
def ET (K : Fg) (M : Fr) (tt : TT) (σ : St) (B : Hp) (L : List Cell) (b : Bool) (L' : List Cell) : Prop :=
  ∀ B1 H, Ex B B1 → Own K B1 M L H → ∀ Q : Bool → Hp → Prop, (∀ B2 H2, Ex B1 B2 → Own K B2 M L' H2 → Q b H2) → tt σ H Q
structure Arg : Type 1 where
  {α : Type}
  r : Rep α
  a : α
def Arg.is (K : Fg) (B : Hp) (v : V) (x : Arg) : Prop := x.r.is K B v x.a
def ArgsIs (K : Fg) (B : Hp) : List V → List Arg → Prop
  | [], [] => True
  | v :: vs, a :: as => a.is K B v ∧ ArgsIs K B vs as
  | _, _ => False
theorem args_mono {K : Fg} {B B' : Hp} (e : Ex B B') : ∀ {vs : List V} {as : List Arg}, ArgsIs K B vs as → ArgsIs K B' vs as
  | [], [], _ => trivial
  | _ :: _, a :: _, h => ⟨a.r.mono e h.1, args_mono e h.2⟩
  | [], _ :: _, h => h
  | _ :: _, [], h => h
def EA (K : Fg) (M : Fr) (ta : TA) (σ : St) (B : Hp) (L : List Cell) (as : List Arg) (L' : List Cell) : Prop :=
  ∀ B1 H, Ex B B1 → Own K B1 M L H → ∀ Q : List V → Hp → Prop, (∀ vs B2 H2, Ex B1 B2 → Own K B2 M L' H2 → ArgsIs K B2 vs as → Q vs H2) → ta σ H Q

/-! ### partial operations of the mirrors -/
theorem bindS {α β : Type} {o : Option α} {f : α → Option β} {b : β} (h : Option.bind o f = some b) : ∃ a, o = some a ∧ f a = some b := by
  cases o with
  | none => cases h
  | some a => exact ⟨a, rfl, h⟩
def CMulX (i j : Int) : Prop := ((-(2 ^ 64) < i ∧ i < 2 ^ 64) ∨ (-(2 ^ 64) < j ∧ j < 2 ^ 64)) ∨ i.natAbs.log2 + j.natAbs.log2 < 1000000
instance (i j : Int) : Decidable (CMulX i j) := by unfold CMulX; infer_instance
theorem op_mulX {X : Cx} : OpR X (binaryOp .Mult) (rI CMulX fun i j => .int (i * j)) := opI fun _ _ _ _ _ _ _ hc q => PyProof.Rows.mul_int q (Or.elim hc CMul.ok CMulW.ok)
def mulI (i j : Int) : Option Int := if CMulX i j then some (i * j) else none
def divI (i j : Int) : Option Int := if 0 < j ∧ j.natAbs.log2 < 9000 then some (i / j) else none
def modI (i j : Int) : Option Int := if 0 < j then some (i % j) else none
def powI (i j : Int) : Option Int := if 0 ≤ j ∧ j ≤ 1000000 ∧ i.natAbs < 2 ^ 64 then some (i ^ j.toNat) else none
def ixL {α : Type} (xs : List α) (i : Int) : Option α := atI xs i
def room (n : Nat) : Option Unit := if n < sizeLine then some () else none
theorem mulI_some {i j k : Int} (h : mulI i j = some k) : CMulX i j ∧ k = i * j := by
  unfold mulI at h
  split at h
  · rename_i hc; exact ⟨hc, (Option.some.inj h).symm⟩
  · cases h
theorem divI_some {i j k : Int} (h : divI i j = some k) : CDivW i j ∧ k = i / j := by
  unfold divI at h
  split at h
  · rename_i hc; exact ⟨hc, (Option.some.inj h).symm⟩
  · cases h
theorem modI_some {i j k : Int} (h : modI i j = some k) : 0 < j ∧ k = i % j := by
  unfold modI at h
  split at h
  · rename_i hc; exact ⟨hc, (Option.some.inj h).symm⟩
  · cases h
theorem powI_some {i j k : Int} (h : powI i j = some k) : CPow i j ∧ k = i ^ j.toNat := by
  unfold powI at h
  split at h
  · rename_i hc; exact ⟨hc, (Option.some.inj h).symm⟩
  · cases h
theorem room_some {n : Nat} {u : Unit} (h : room n = some u) : n < sizeLine := by
  unfold room at h
  split at h
  · rename_i hc; exact hc
  · cases h
/-- an index in the mirror's list is one in the heap's -/
theorem atI_paired {α : Type} {F : V → α → Prop} {xs : List V} {as : List α} {i : Int} {a : α} (h : Paired F xs as) (e : atI as i = some a) : ∃ x, atI xs i = some x ∧ F x a := by
  unfold atI at e ⊢
  rw [paired_len h]
  revert e
  cases ixN as.length i with
  | none => intro e; simp at e
  | some j => intro e; exact paired_get h (by simpa using e)

section
variable {K : Fg} {M : Fr} {σ : St} {B : Hp} {L L1 L2 L' : List Cell} {α β γ δ : Type} {r : Rep α} {s : Rep β} {t : Rep γ} {ta tb tc te : TE} {tt tu : TT} {tA : TA} {i j k : Int} {b c : Bool}
/-! ### expressions -/
theorem ev_var {n : Nat} {v : V} {a : α} (h : σ[n]? = some (some v)) (hr : r.is K B v a) : EV K M (tVar n) σ B L r a L := fun B1 H e w Q q => ⟨v, h, q v B1 H (Ex.refl _) w (r.mono e hr)⟩
theorem ev_varI {n : Nat} {v : V} (h : σ[n]? = some (some v)) (hr : v = .int i) : EV K M (tVar n) σ B L rInt i L := ev_var h hr
theorem ev_varB {n : Nat} {v : V} (h : σ[n]? = some (some v)) (hr : v = .bl b) : EV K M (tVar n) σ B L rBool b L := ev_var h hr
theorem ev_varS {n : Nat} {v : V} {x : Str} (h : σ[n]? = some (some v)) (hr : v = .str x) : EV K M (tVar n) σ B L rStr x L := ev_var h hr
theorem ev_varR {n : Nat} {p : Addr} (h : σ[n]? = some (some (.ref p))) : EV K M (tVar n) σ B L rRef p L := ev_var h rfl
theorem ev_k {v : V} {a : α} (hr : ∀ B, r.is K B v a) : EV K M (tC v) σ B L r a L := fun B1 H e w Q q => q v B1 H (Ex.refl _) w (hr B1)
theorem ev_int : EV K M (tC (.int i)) σ B L rInt i L := ev_k fun _ => rfl
theorem ev_bl : EV K M (tC (.bl b)) σ B L rBool b L := ev_k fun _ => rfl
theorem ev_str {x : Str} : EV K M (tC (.str x)) σ B L rStr x L := ev_k fun _ => rfl
theorem ev_non : EV K M (tC .non) σ B L (rOpt r) none L := ev_k fun _ => rfl
theorem ev_as {a : α} {b : β} (h : EV K M te σ B L r a L') (f : ∀ B v, r.is K B v a → s.is K B v b) : EV K M te σ B L s b L' := fun B1 H e w Q q => h B1 H e w Q fun v B2 H2 e2 w2 h2 => q v B2 H2 e2 w2 (f _ _ h2)
theorem ev_seqT {as : List α} (h : EV K M te σ B L (rTup r) as L') : EV K M te σ B L (rSeq r) as L' := ev_as h fun _ _ => rTup_seq
theorem ev_seqL {as : List α} (h : EV K M te σ B L (rLst r) as L') : EV K M te σ B L (rSeq r) as L' := ev_as h fun _ _ => rLst_seq
theorem ev_sm {a : α} (h : EV K M te σ B L r a L') : EV K M te σ B L (rOpt r) (some a) L' := ev_as h fun _ _ h => h
/-- a new list, left as it is -/
theorem ev_frz {as : List α} (h : EVL K M te σ B L r as L') : EV K M te σ B L (rLst r) as L' := fun B1 H e w Q q => h B1 H e w Q fun p B2 H2 e2 w2 => by
  obtain ⟨o, h1, ⟨xs, h2, h3⟩, h4, w3⟩ := w2.freeze (i := 0) rfl
  have h4 : B2 p = none := h4
  have e3 : Ex B2 (upd B2 p o) := Ex.new h4
  refine q _ (upd B2 p o) H2 (e2.trans e3) w3 ⟨p, xs, rfl, .inl (.inl ?_), paired_mono e3 h3⟩
  rw [upd_same, h2]
/-- two values, one operation -/
theorem ev_op {R : R2} {a : α} {b : β} {c : γ} (ha : EV K M ta σ B L r a L1) (hb : EV K M tb σ B L1 s b L2)
    (h : ∀ B1 H1 x y (Q : VK), Own K B1 M L2 H1 → r.is K B1 x a → s.is K B1 y b → (∀ v, t.is K B1 v c → Q v H1) → R x y H1 Q) : EV K M (tOp R ta tb) σ B L t c L2 := fun B1 H e w Q q =>
  ha B1 H e w _ fun x B2 H2 e2 w2 hx => hb B2 H2 (e.trans e2) w2 _ fun y B3 H3 e3 w3 hy => h B3 H3 x y Q w3 (r.mono e3 hx) hy fun v hv => q v B3 H3 (e2.trans e3) w3 hv
theorem ev_un {R : V → Hp → VK → Prop} {a : α} {c : γ} (ha : EV K M ta σ B L r a L1) (h : ∀ B1 H1 x (Q : VK), Own K B1 M L1 H1 → r.is K B1 x a → (∀ v, t.is K B1 v c → Q v H1) → R x H1 Q) : EV K M (tUn R ta) σ B L t c L1 := fun B1 H e w Q q =>
  ha B1 H e w _ fun x B2 H2 e2 w2 hx => h B2 H2 x Q w2 hx fun v hv => q v B2 H2 e2 w2 hv
theorem ev_I0 {g : Int → Int → Int} (ha : EV K M ta σ B L rInt i L1) (hb : EV K M tb σ B L1 rInt j L2) : EV K M (tOp (rI0 fun i j => .int (g i j)) ta tb) σ B L rInt (g i j) L2 :=
  ev_op ha hb fun _ _ _ _ _ _ hx hy q => ⟨i, j, hx, hy, q _ rfl⟩
theorem ev_B0 {g : Int → Int → Bool} (ha : EV K M ta σ B L rInt i L1) (hb : EV K M tb σ B L1 rInt j L2) : EV K M (tOp (rI0 fun i j => .bl (g i j)) ta tb) σ B L rBool (g i j) L2 :=
  ev_op ha hb fun _ _ _ _ _ _ hx hy q => ⟨i, j, hx, hy, q _ rfl⟩
theorem ev_mul (ha : EV K M ta σ B L rInt i L1) (hb : EV K M tb σ B L1 rInt j L2) (h : mulI i j = some k) : EV K M (tOp (rI CMulX fun i j => .int (i * j)) ta tb) σ B L rInt k L2 :=
  ev_op ha hb fun _ _ _ _ _ _ hx hy q => ⟨i, j, hx, hy, (mulI_some h).1, q _ (by rw [(mulI_some h).2]; rfl)⟩
theorem ev_div (ha : EV K M ta σ B L rInt i L1) (hb : EV K M tb σ B L1 rInt j L2) (h : divI i j = some k) : EV K M (tOp (rI CDivW fun i j => .int (i / j)) ta tb) σ B L rInt k L2 :=
  ev_op ha hb fun _ _ _ _ _ _ hx hy q => ⟨i, j, hx, hy, (divI_some h).1, q _ (by rw [(divI_some h).2]; rfl)⟩
theorem ev_mod (ha : EV K M ta σ B L rInt i L1) (hb : EV K M tb σ B L1 rInt j L2) (h : modI i j = some k) : EV K M (tOp (rI (fun _ j => 0 < j) fun i j => .int (i % j)) ta tb) σ B L rInt k L2 :=
  ev_op ha hb fun _ _ _ _ _ _ hx hy q => ⟨i, j, hx, hy, (modI_some h).1, q _ (by rw [(modI_some h).2]; rfl)⟩
theorem ev_pow (ha : EV K M ta σ B L rInt i L1) (hb : EV K M tb σ B L1 rInt j L2) (h : powI i j = some k) : EV K M (tOp (rI CPow fun i j => .int (i ^ j.toNat)) ta tb) σ B L rInt k L2 :=
  ev_op ha hb fun _ _ _ _ _ _ hx hy q => ⟨i, j, hx, hy, (powI_some h).1, q _ (by rw [(powI_some h).2]; rfl)⟩
theorem ev_neg (ha : EV K M ta σ B L rInt i L1) : EV K M (tUn (rU fun i => .int (-i)) ta) σ B L rInt (-i) L1 := ev_un ha fun _ _ _ _ _ hx q => ⟨i, hx, q _ rfl⟩
theorem ev_eqI (ha : EV K M ta σ B L rInt i L1) (hb : EV K M tb σ B L1 rInt j L2) : EV K M (tOp rEq ta tb) σ B L rBool (decide (i = j)) L2 :=
  ev_op ha hb fun _ _ _ _ _ _ hx hy q => by
    have hx : _ = V.int i := hx
    have hy : _ = V.int j := hy
    subst hx hy
    exact ⟨rfl, q _ (by show V.bl _ = V.bl _; congr 1; simp)⟩
theorem ev_neI (ha : EV K M ta σ B L rInt i L1) (hb : EV K M tb σ B L1 rInt j L2) : EV K M (tOp rNe ta tb) σ B L rBool (!decide (i = j)) L2 :=
  ev_op ha hb fun _ _ _ _ _ _ hx hy q => by
    have hx : _ = V.int i := hx
    have hy : _ = V.int j := hy
    subst hx hy
    exact ⟨rfl, q _ (by show V.bl _ = V.bl _; congr 1; simp)⟩
theorem ev_eqS {x y : Str} (ha : EV K M ta σ B L rStr x L1) (hb : EV K M tb σ B L1 rStr y L2) : EV K M (tOp rEq ta tb) σ B L rBool (decide (x = y)) L2 :=
  ev_op ha hb fun _ _ _ _ _ _ hx hy q => by
    have hx : _ = V.str x := hx
    have hy : _ = V.str y := hy
    subst hx hy
    exact ⟨rfl, q _ (by show V.bl _ = V.bl _; congr 1; simp)⟩
theorem ev_neS {x y : Str} (ha : EV K M ta σ B L rStr x L1) (hb : EV K M tb σ B L1 rStr y L2) : EV K M (tOp rNe ta tb) σ B L rBool (!decide (x = y)) L2 :=
  ev_op ha hb fun _ _ _ _ _ _ hx hy q => by
    have hx : _ = V.str x := hx
    have hy : _ = V.str y := hy
    subst hx hy
    exact ⟨rfl, q _ (by show V.bl _ = V.bl _; congr 1; simp)⟩
theorem ev_eqB {x y : Bool} (ha : EV K M ta σ B L rBool x L1) (hb : EV K M tb σ B L1 rBool y L2) : EV K M (tOp rEq ta tb) σ B L rBool (decide (x = y)) L2 :=
  ev_op ha hb fun _ _ _ _ _ _ hx hy q => by
    have hx : _ = V.bl x := hx
    have hy : _ = V.bl y := hy
    subst hx hy
    exact ⟨rfl, q _ (by show V.bl _ = V.bl _; congr 1; simp)⟩
/-- x is None -/
theorem ev_isN {a : Option α} (ha : EV K M ta σ B L (rOpt r) a L1) (hn : ∀ B v x, r.is K B v x → v ≠ .non) : EV K M (tIsN ta) σ B L rBool a.isNone L1 := fun B1 H e w Q q =>
  ha B1 H e w _ fun x B2 H2 e2 w2 hx => q _ B2 H2 e2 w2 (by
    show V.bl _ = V.bl _
    congr 1
    cases a with
    | none => exact decide_eq_true (show x = V.non from hx)
    | some a => exact decide_eq_false (hn _ _ _ hx))
theorem ev_notN {a : Option α} (ha : EV K M ta σ B L (rOpt r) a L1) (hn : ∀ B v x, r.is K B v x → v ≠ .non) : EV K M (tNotN ta) σ B L rBool a.isSome L1 := fun B1 H e w Q q =>
  ha B1 H e w _ fun x B2 H2 e2 w2 hx => q _ B2 H2 e2 w2 (by
    show V.bl _ = V.bl _
    congr 1
    cases a with
    | none => rw [decide_eq_true (show x = V.non from hx)]; rfl
    | some a => rw [decide_eq_false (hn _ _ _ hx)]; rfl)
/-! ### tuples and lists -/
theorem ea_nil : EA K M tNil σ B L [] L := fun B1 H e w Q q => q [] B1 H (Ex.refl _) w trivial
theorem ea_cons {a : α} {as : List Arg} (ha : EV K M ta σ B L r a L1) (hr : EA K M tA σ B L1 as L2) : EA K M (tCons ta tA) σ B L (⟨r, a⟩ :: as) L2 := fun B1 H e w Q q =>
  ha B1 H e w _ fun x B2 H2 e2 w2 hx => hr B2 H2 (e.trans e2) w2 _ fun vs B3 H3 e3 w3 hvs => q (x :: vs) B3 H3 (e2.trans e3) w3 ⟨r.mono e3 hx, hvs⟩
theorem ev_T2 {a : α} {b : β} (h : EA K M tA σ B L [⟨r, a⟩, ⟨s, b⟩] L') : EV K M (tTup tA) σ B L (rT2 r s) (a, b) L' := fun B1 H e w Q q =>
  h B1 H e w _ fun vs B2 H2 e2 w2 hv => by
    match vs, hv with
    | [_, _], ⟨h1, h2, _⟩ => exact ⟨by show 2 ≤ sizeLine; decide, fun p hp => q _ (upd B2 p _) _ (e2.trans (Ex.new (fresh_back w2.b hp))) (w2.ext hp) ⟨p, _, _, rfl, st_of upd_same, r.mono (Ex.new (fresh_back w2.b hp)) h1, s.mono (Ex.new (fresh_back w2.b hp)) h2⟩⟩
theorem ev_T3 {a : α} {b : β} {c : γ} (h : EA K M tA σ B L [⟨r, a⟩, ⟨s, b⟩, ⟨t, c⟩] L') : EV K M (tTup tA) σ B L (rT3 r s t) (a, b, c) L' := fun B1 H e w Q q =>
  h B1 H e w _ fun vs B2 H2 e2 w2 hv => by
    match vs, hv with
    | [_, _, _], ⟨h1, h2, h3, _⟩ => exact ⟨by show 3 ≤ sizeLine; decide, fun p hp => q _ (upd B2 p _) _ (e2.trans (Ex.new (fresh_back w2.b hp))) (w2.ext hp) ⟨p, _, _, _, rfl, st_of upd_same, r.mono (Ex.new (fresh_back w2.b hp)) h1, s.mono (Ex.new (fresh_back w2.b hp)) h2, t.mono (Ex.new (fresh_back w2.b hp)) h3⟩⟩
theorem homog : ∀ {as : List α} {vs : List V}, ArgsIs K B vs (as.map (Arg.mk r)) → Paired (r.is K B) vs as
  | [], [], _ => .nil
  | _ :: _, _ :: _, h => .cons h.1 (homog h.2)
  | [], _ :: _, h => h.elim
  | _ :: _, [], h => h.elim
theorem ev_tup (as : List α) (h : EA K M tA σ B L (as.map (Arg.mk r)) L') (hl : Nat.ble as.length 100000 = true := by rfl) : EV K M (tTup tA) σ B L (rTup r) as L' := fun B1 H e w Q q =>
  h B1 H e w _ fun vs B2 H2 e2 w2 hv => ⟨by rw [paired_len (homog hv)]; exact Evl.sz_of (Nat.le_of_ble_eq_true hl), fun p hp => q _ (upd B2 p _) _ (e2.trans (Ex.new (fresh_back w2.b hp))) (w2.ext hp) ⟨p, _, rfl, st_of upd_same, paired_mono (Ex.new (fresh_back w2.b hp)) (homog hv)⟩⟩
theorem el_lst (as : List α) (h : EA K M tA σ B L (as.map (Arg.mk r)) L') (hl : Nat.ble as.length 100000 = true := by rfl) : EVL K M (tLst tA) σ B L r as L' := fun B1 H e w Q q =>
  h B1 H e w _ fun vs B2 H2 e2 w2 hv => ⟨by rw [paired_len (homog hv)]; exact Evl.sz_of (Nat.le_of_ble_eq_true hl), fun p hp => q p B2 _ e2 (w2.new hp ⟨vs, rfl, homog hv⟩)⟩
theorem ev_fst {a : α × β} (ha : EV K M ta σ B L (rT2 r s) a L1) : EV K M (tOp (rIx K) ta (tC (.int 0))) σ B L r a.1 L1 := fun B1 H e w Q q =>
  ha B1 H e w _ fun x B2 H2 e2 w2 hx => by
    obtain ⟨p, x0, x1, rfl, hs, h0, h1⟩ := hx
    exact .inr (.inl ⟨p, _, 0, x0, rfl, rfl, ex_t w2.b hs, rfl, q _ B2 H2 e2 w2 h0⟩)
theorem ev_snd {a : α × β} (ha : EV K M ta σ B L (rT2 r s) a L1) : EV K M (tOp (rIx K) ta (tC (.int 1))) σ B L s a.2 L1 := fun B1 H e w Q q =>
  ha B1 H e w _ fun x B2 H2 e2 w2 hx => by
    obtain ⟨p, x0, x1, rfl, hs, h0, h1⟩ := hx
    exact .inr (.inl ⟨p, _, 1, x1, rfl, rfl, ex_t w2.b hs, rfl, q _ B2 H2 e2 w2 h1⟩)
theorem ev_ix {xs : List α} {a : α} (ha : EV K M ta σ B L (rSeq r) xs L1) (hb : EV K M tb σ B L1 rInt i L2) (h : ixL xs i = some a) : EV K M (tOp (rIx K) ta tb) σ B L r a L2 :=
  ev_op ha hb fun B1 H1 x y Q w hx hy q => by
    obtain ⟨p, vs, rfl, hs, hv⟩ := hx
    obtain ⟨x, e, hx⟩ := atI_paired hv h
    rcases hs with hs | hs
    · exact .inl ⟨p, vs, i, x, rfl, hy, ex_l w.b hs, e, q _ hx⟩
    · exact .inr (.inl ⟨p, vs, i, x, rfl, hy, ex_t w.b hs, e, q _ hx⟩)
/-- of a list that may change -/
theorem ev_ixC {n : Nat} {p : Addr} {xs : List α} {a : α} (ha : EV K M ta σ B L rRef p L1) (hb : EV K M tb σ B L1 rInt i L2) (hc : L2[n]? = some ⟨p, cLst r, xs⟩) (h : ixL xs i = some a) : EV K M (tOp (rIx K) ta tb) σ B L r a L2 :=
  ev_op ha hb fun B1 H1 x y Q w hx hy q => by
    obtain ⟨⟨o, h1, vs, h2, hv⟩, _⟩ := w.at hc
    obtain ⟨x, e, hx'⟩ := atI_paired hv h
    exact .inl ⟨p, vs, i, x, hx, hy, sq_of (by rw [h1, h2]), e, q _ hx'⟩
def rLen (K : Fg) : List V → Hp → VK → Prop := fun xs H Q => ∃ p ys, xs = [.ref p] ∧ (SqL K H p ys ∨ SqT K H p ys) ∧ Q (.int ys.length) H
theorem ev_cb {R : List V → Hp → VK → Prop} {as : List Arg} {c : γ} (ha : EA K M tA σ B L as L1) (h : ∀ B1 H1 vs (Q : VK), Own K B1 M L1 H1 → ArgsIs K B1 vs as → (∀ v, t.is K B1 v c → Q v H1) → R vs H1 Q) : EV K M (tCB R tA) σ B L t c L1 := fun B1 H e w Q q =>
  ha B1 H e w _ fun vs B2 H2 e2 w2 hv => h B2 H2 vs Q w2 hv fun v hr => q v B2 H2 e2 w2 hr
theorem ev_cb1 {R : List V → Hp → VK → Prop} {a : α} {c : γ} (ha : EV K M ta σ B L r a L1) (h : ∀ B1 H1 x (Q : VK), Own K B1 M L1 H1 → r.is K B1 x a → (∀ v, t.is K B1 v c → Q v H1) → R [x] H1 Q) : EV K M (tCB R (tCons ta tNil)) σ B L t c L1 := fun B1 H e w Q q =>
  ha B1 H e w _ fun v B2 H2 e2 w2 hv => h B2 H2 v Q w2 hv fun v hr => q v B2 H2 e2 w2 hr
theorem ev_len {xs : List α} (ha : EV K M ta σ B L (rSeq r) xs L1) : EV K M (tCB (rLen K) (tCons ta tNil)) σ B L rInt (xs.length : Int) L1 :=
  ev_cb1 ha fun B1 H1 x Q w hx q => by
    obtain ⟨p, vs, rfl, hs, hv⟩ := hx
    exact ⟨p, vs, rfl, hs.imp (ex_l w.b) (ex_t w.b), q _ (by rw [paired_len hv]; rfl)⟩
theorem ev_lenC {n : Nat} {p : Addr} {xs : List α} (ha : EV K M ta σ B L rRef p L1) (hc : L1[n]? = some ⟨p, cLst r, xs⟩) : EV K M (tCB (rLen K) (tCons ta tNil)) σ B L rInt (xs.length : Int) L1 :=
  ev_cb1 ha fun B1 H1 x Q w hx q => by
    obtain ⟨⟨o, h1, vs, h2, hv⟩, _⟩ := w.at hc
    have h1 : H1 p = some o := h1
    exact ⟨p, vs, congrArg (fun z => [z]) hx, .inl (sq_of (by rw [h1, h2])), q _ (by rw [paired_len hv]; rfl)⟩
theorem ev_abs (ha : EV K M ta σ B L rInt i L1) : EV K M (tCB (fun xs H Q => ∃ i, xs = [.int i] ∧ Q (.int (if i < 0 then -i else i)) H) (tCons ta tNil)) σ B L rInt (if i < 0 then -i else i) L1 :=
  ev_cb1 ha fun B1 H1 x Q w hx q => ⟨i, congrArg (fun z => [z]) hx, q _ rfl⟩
def rInt1 : List V → Hp → VK → Prop := fun xs H Q => (∃ i, xs = [.int i] ∧ Q (.int i) H) ∨ ∃ k, xs = [.bl k] ∧ Q (.int (if k then 1 else 0)) H
theorem ev_intI (ha : EV K M ta σ B L rInt i L1) : EV K M (tCB rInt1 (tCons ta tNil)) σ B L rInt i L1 := ev_cb1 ha fun B1 H1 x Q w hx q => .inl ⟨i, congrArg (fun z => [z]) hx, q _ rfl⟩
theorem ev_intB (ha : EV K M ta σ B L rBool b L1) : EV K M (tCB rInt1 (tCons ta tNil)) σ B L rInt (if b then 1 else 0) L1 := ev_cb1 ha fun B1 H1 x Q w hx q => .inr ⟨b, congrArg (fun z => [z]) hx, q _ rfl⟩
theorem ev_gcd (ha : EV K M ta σ B L rInt i L1) (hb : EV K M tb σ B L1 rInt j L2) : EV K M (tCB rGcd (tCons ta (tCons tb tNil))) σ B L rInt ((Nat.gcd i.natAbs j.natAbs : Nat) : Int) L2 :=
  ev_cb (ea_cons ha (ea_cons hb ea_nil)) fun B1 H1 vs Q w hv q => by
    match vs, hv with
    | [_, _], ⟨h1, h2, _⟩ => exact ⟨i, j, by rw [show _ = V.int i from h1, show _ = V.int j from h2], q _ rfl⟩
/-! ### tests, and, or, not -/
theorem et_test (h : EV K M te σ B L rBool b L') : ET K M (tTest te) σ B L b L' := fun B1 H e w Q q => h B1 H e w _ fun v B2 H2 e2 w2 hv => ⟨b, hv, q B2 H2 e2 w2⟩
theorem et_B (h : EV K M te σ B L rBool b L') : ET K M (tB te) σ B L b L' := fun B1 H e w Q q => h B1 H e w _ fun v B2 H2 e2 w2 hv => ⟨b, hv, q B2 H2 e2 w2⟩
theorem et_not (h : ET K M tt σ B L b L') : ET K M (tNot tt) σ B L (!b) L' := fun B1 H e w Q q => h B1 H e w _ fun B2 H2 e2 w2 => q B2 H2 e2 w2
theorem et_and {b c : Bool} (h1 : ET K M tt σ B L b L1) (h2 : b = true → ET K M tu σ B L1 c L1) : ET K M (tAnd tt tu) σ B L (b && c) L1 := fun B1 H e w Q q => h1 B1 H e w _ fun B2 H2 e2 w2 => by
  cases b with
  | true => exact h2 rfl B2 H2 (e.trans e2) w2 Q fun B3 H3 e3 w3 => q B3 H3 (e2.trans e3) w3
  | false => exact q B2 H2 e2 w2
theorem et_or {b c : Bool} (h1 : ET K M tt σ B L b L1) (h2 : b = false → ET K M tu σ B L1 c L1) : ET K M (tOr tt tu) σ B L (b || c) L1 := fun B1 H e w Q q => h1 B1 H e w _ fun B2 H2 e2 w2 => by
  cases b with
  | true => exact q B2 H2 e2 w2
  | false => exact h2 rfl B2 H2 (e.trans e2) w2 Q fun B3 H3 e3 w3 => q B3 H3 (e2.trans e3) w3
/-- where the right side changes things -/
theorem et_and' {b d : Bool} (h1 : ET K M tt σ B L b L1) (h2 : b = true → ET K M tu σ B L1 d L2) (h3 : b = false → d = false ∧ L2 = L1) : ET K M (tAnd tt tu) σ B L d L2 := fun B1 H e w Q q => h1 B1 H e w _ fun B2 H2 e2 w2 => by
  cases b with
  | true => exact h2 rfl B2 H2 (e.trans e2) w2 Q fun B3 H3 e3 w3 => q B3 H3 (e2.trans e3) w3
  | false => obtain ⟨rfl, rfl⟩ := h3 rfl; exact q B2 H2 e2 w2
theorem et_or' {b d : Bool} (h1 : ET K M tt σ B L b L1) (h2 : b = false → ET K M tu σ B L1 d L2) (h3 : b = true → d = true ∧ L2 = L1) : ET K M (tOr tt tu) σ B L d L2 := fun B1 H e w Q q => h1 B1 H e w _ fun B2 H2 e2 w2 => by
  cases b with
  | true => obtain ⟨rfl, rfl⟩ := h3 rfl; exact q B2 H2 e2 w2
  | false => exact h2 rfl B2 H2 (e.trans e2) w2 Q fun B3 H3 e3 w3 => q B3 H3 (e2.trans e3) w3
theorem ev_andV {b d : Bool} (h1 : EV K M ta σ B L rBool b L1) (h2 : b = true → EV K M tb σ B L1 rBool d L2) (h3 : b = false → d = false ∧ L2 = L1) : EV K M (tAndV ta tb) σ B L rBool d L2 := fun B1 H e w Q q => h1 B1 H e w _ fun x B2 H2 e2 w2 hx => ⟨b, hx, by
  cases b with
  | true => exact h2 rfl B2 H2 (e.trans e2) w2 Q fun v B3 H3 e3 w3 hv => q v B3 H3 (e2.trans e3) w3 hv
  | false => obtain ⟨rfl, rfl⟩ := h3 rfl; exact q _ B2 H2 e2 w2 rfl⟩
theorem ev_orV {b d : Bool} (h1 : EV K M ta σ B L rBool b L1) (h2 : b = false → EV K M tb σ B L1 rBool d L2) (h3 : b = true → d = true ∧ L2 = L1) : EV K M (tOrV ta tb) σ B L rBool d L2 := fun B1 H e w Q q => h1 B1 H e w _ fun x B2 H2 e2 w2 hx => ⟨b, hx, by
  cases b with
  | true => obtain ⟨rfl, rfl⟩ := h3 rfl; exact q _ B2 H2 e2 w2 rfl
  | false => exact h2 rfl B2 H2 (e.trans e2) w2 Q fun v B3 H3 e3 w3 hv => q v B3 H3 (e2.trans e3) w3 hv⟩
theorem ev_notV (h : EV K M ta σ B L rBool b L1) : EV K M (tNotV ta) σ B L rBool (!b) L1 := fun B1 H e w Q q => h B1 H e w _ fun x B2 H2 e2 w2 hx => ⟨b, hx, q _ B2 H2 e2 w2 rfl⟩
theorem ev_if {a : α} (h : ET K M tt σ B L b L1) (h1 : b = true → EV K M ta σ B L1 r a L2) (h2 : b = false → EV K M tb σ B L1 r a L2) : EV K M (tIf tt ta tb) σ B L r a L2 := fun B1 H e w Q q => h B1 H e w _ fun B2 H2 e2 w2 => by
  cases b with
  | true => exact h1 rfl B2 H2 (e.trans e2) w2 Q fun v B3 H3 e3 w3 hv => q v B3 H3 (e2.trans e3) w3 hv
  | false => exact h2 rfl B2 H2 (e.trans e2) w2 Q fun v B3 H3 e3 w3 hv => q v B3 H3 (e2.trans e3) w3 hv
end
end L3

namespace L3
open PySem L2
open Evl (Ex ex_rd ex_l ex_t sq_of st_of fresh_back)

/-! ### promises -/
def spV (K : Fg) (T : List Addr) (C : List Arg → List Cell → Arg → List Cell → Prop) : Sp := fun vs H Q _ => ∃ B M L as r L', M.T = T ∧ Own K B M L H ∧ ArgsIs K B vs as ∧ C as L r L' ∧
  ∀ v B' H', Ex B B' → Own K B' M L' H' → r.is K B' v → Q v H'
theorem args_len {K : Fg} {B : Hp} : ∀ {vs : List V} {as : List Arg}, ArgsIs K B vs as → vs.length = as.length
  | [], [], _ => rfl
  | _ :: _, _ :: _, h => congrArg (· + 1) (args_len h.2)
  | [], _ :: _, h => h.elim
  | _ :: _, [], h => h.elim
theorem FnScope.of {N ps : List Str} {sc : Scope} (h1 : sc.kind = .function) (h2 : sc.isCoroutine = false) (h3 : sc.isGenerator = false) (h : FnScope N ps sc) : FnScope N ps sc := h

section
variable {K : Fg} {M : Fr} {σ : St} {B : Hp} {L L1 L2 L' : List Cell} {α β γ δ : Type} {r : Rep α} {s : Rep β} {t : Rep γ} {ta tb tc te : TE} {tt tu : TT} {tA : TA} {i j k : Int} {b c : Bool}
theorem nodup_one {x : Cell} : ([x].map (·.p)).Nodup := by simp
/-- a def that changes nothing of ours -/
theorem ev_call {C : List Arg → List Cell → Arg → List Cell → Prop} {E : XK} {as : List Arg} {a : α} (ha : EA K M tA σ B L as L1) (h : C as [] ⟨r, a⟩ []) : EV K M (tCall (spV K M.T C) [] E tA) σ B L r a L1 := fun B1 H e w Q q =>
  ha B1 H e w _ fun vs B2 H2 e2 w2 hv => by
    show spV K M.T C (vs ++ []) H2 Q E
    rw [List.append_nil]
    refine ⟨B2, absorb M L1 H2, [], as, ⟨r, a⟩, [], rfl, w2.lend (L1 := []) (L2 := L1) (fun _ h => absurd h (by simp)) (fun _ h => h) (by simp) (fun _ h => absurd h (by simp)), hv, h, fun v B' H' e3 w3 hr => ?_⟩
    exact q v B' H' (e2.trans e3) (w2.back (L1' := []) (fun _ h => h) w2.nd e3 w3 (fun _ h => absurd h (by simp))) hr
theorem erase_mem {x : Cell} {n : Nat} (w : (L.map (·.p)).Nodup) (h : L[n]? = some x) : x.p ∉ (L.eraseIdx n).map (·.p) := fun hm => by
  obtain ⟨y, hy, e⟩ := List.mem_map.mp hm
  obtain ⟨j, hj, hne⟩ := List.mem_eraseIdx_iff_getElem?.mp hy
  exact hj (nodup_at w (by rw [List.getElem?_map, hne]; rfl) (by rw [List.getElem?_map, h]; exact congrArg some e.symm))
theorem set_perm {x x' : Cell} {n : Nat} (h : L[n]? = some x) : ∀ y ∈ L.set n x', y ∈ x' :: L.eraseIdx n := fun y hy => by
  obtain ⟨m, hm⟩ := List.getElem?_of_mem hy
  by_cases e : n = m
  · subst e
    rw [List.getElem?_set_self (List.getElem?_eq_some_iff.mp h).1] at hm
    cases hm
    exact List.mem_cons_self
  · rw [List.getElem?_set_ne e] at hm
    exact List.mem_cons_of_mem _ (List.mem_eraseIdx_iff_getElem?.mpr ⟨m, Ne.symm e, hm⟩)
theorem set_keys {x x' : Cell} {n : Nat} (h : L[n]? = some x) (hp : x'.p = x.p) : (L.set n x').map (·.p) = L.map (·.p) := by
  rw [List.map_set, hp]
  refine List.ext_getElem? fun j => ?_
  by_cases hij : n = j
  · subst hij
    have hl : n < (L.map (·.p)).length := by rw [List.length_map]; exact (List.getElem?_eq_some_iff.mp h).1
    rw [List.getElem?_set_self hl, List.getElem?_map, h]; rfl
  · rw [List.getElem?_set_ne hij]
/-- a def that changes the one at n -/
theorem ev_callC {C : List Arg → List Cell → Arg → List Cell → Prop} {E : XK} {as : List Arg} {a : α} (n : Nat) {x x' : Cell} (ha : EA K M tA σ B L as L1) (hx : L1[n]? = some x) (h : C as [x] ⟨r, a⟩ [x']) (hp : x'.p = x.p) : EV K M (tCall (spV K M.T C) [] E tA) σ B L r a (L1.set n x') := fun B1 H e w Q q =>
  ha B1 H e w _ fun vs B2 H2 e2 w2 hv => by
    show spV K M.T C (vs ++ []) H2 Q E
    rw [List.append_nil]
    have nd := w2.nd
    have hn := erase_mem nd hx
    have sub : ∀ y ∈ L1.eraseIdx n, y ∈ L1 := fun y hy => List.mem_of_mem_eraseIdx hy
    refine ⟨B2, absorb M (L1.eraseIdx n) H2, [x], as, ⟨r, a⟩, [x'], rfl, w2.lend (L1 := [x]) (L2 := L1.eraseIdx n) (fun y h => by rw [List.mem_singleton.mp h]; exact List.mem_of_getElem? hx) sub nodup_one (fun y h => by rw [List.mem_singleton.mp h]; exact hn), hv, h, fun v B' H' e3 w3 hr => ?_⟩
    have w4 : Own K B' M ([x'] ++ L1.eraseIdx n) H' := w2.back (L1' := [x']) sub (nd.sublist ((List.eraseIdx_sublist L1 n).map _)) e3 w3 (fun y h => by rw [List.mem_singleton.mp h, hp]; exact hn)
    exact q v B' H' (e2.trans e3) (w4.perm (set_perm hx) (by rw [set_keys hx hp]; exact nd)) hr

/-! ### statements -/
variable {D : Ends} {tz t1 t2 : TS} {H : Hp}
theorem q_asg {n : Nat} {a : α} (w : Own K B M L H) (h : EV K M te σ B L r a L') (q : ∀ v B' H', Ex B B' → Own K B' M L' H' → r.is K B' v a → tz D (σ.set n (some v)) H') : tSeq (tAsg te (gName n)) tz D σ H := h B H (Ex.refl _) w _ q
theorem q_asgL {n : Nat} {as : List α} (w : Own K B M L H) (h : EVL K M te σ B L r as L') (q : ∀ p B' H', Ex B B' → Own K B' M (⟨p, cLst r, as⟩ :: L') H' → tz D (σ.set n (some (.ref p))) H') : tSeq (tAsg te (gName n)) tz D σ H := h B H (Ex.refl _) w _ q
theorem q_drop {a : α} (w : Own K B M L H) (h : EV K M te σ B L r a L') (q : ∀ B' H', Ex B B' → Own K B' M L' H' → tz D σ H') : tSeq (tDrop te) tz D σ H := h B H (Ex.refl _) w _ fun _ B' H' e w' _ => q B' H' e w'
theorem q_ret {a : α} (w : Own K B M L H) (h : EV K M te σ B L r a L') (q : ∀ v B' H', Ex B B' → Own K B' M L' H' → r.is K B' v a → D.rt v H') : tSeq (tRet te) tz D σ H := h B H (Ex.refl _) w _ q
theorem q_retN (w : Own K B M L H) (q : D.rt .non H) : tSeq tRetN tz D σ H := q
/-- a list of ours goes out -/
theorem q_retC {n m : Nat} {p : Addr} {as : List α} (w : Own K B M L H) (hs : σ[m]? = some (some (.ref p))) (hc : L[n]? = some ⟨p, cLst r, as⟩) (q : ∀ v B', Ex B B' → Own K B' M (L.eraseIdx n) H → (rLst r).is K B' v as → D.rt v H) : tSeq (tRet (tVar m)) tz D σ H := by
  obtain ⟨o, h1, ⟨xs, h2, h3⟩, h4, w'⟩ := w.freeze hc
  have h4 : B p = none := h4
  refine ⟨_, hs, q _ _ (Ex.new h4) w' ⟨p, xs, rfl, sq_of ?_, paired_mono (Ex.new h4) h3⟩⟩
  show upd B p o p = _
  rw [upd_same, h2]
theorem q_if (w : Own K B M L H) (h : ET K M tt σ B L b L') (h1 : b = true → ∀ B' H', Ex B B' → Own K B' M L' H' → t1 { D with nx := tz D } σ H') (h2 : b = false → ∀ B' H', Ex B B' → Own K B' M L' H' → t2 { D with nx := tz D } σ H') : tSeq (tIfS tt t1 t2) tz D σ H :=
  h B H (Ex.refl _) w _ fun B' H' e w' => by
    cases b with
    | true => exact h1 rfl B' H' e w'
    | false => exact h2 rfl B' H' e w'
theorem q_ifc (w : Own K B M L H) (h : ET K M tt σ B L b L') (h1 : b = true → ∀ B' H', Ex B B' → Own K B' M L' H' → t1 D σ H') (h2 : b = false → ∀ B' H', Ex B B' → Own K B' M L' H' → t2 D σ H') : tIfS tt t1 t2 D σ H :=
  h B H (Ex.refl _) w _ fun B' H' e w' => by
    cases b with
    | true => exact h1 rfl B' H' e w'
    | false => exact h2 rfl B' H' e w'
theorem q_cut {t : TS} (Mid : St → Hp → Prop) (h : t { D with nx := Mid } σ H) (k : ∀ σ' H', Mid σ' H' → tz D σ' H') : Evl.tCut t tz D σ H := ⟨Mid, h, k⟩
theorem q_app {n m : Nat} {p : Addr} {as : List α} {a : α} (w : Own K B M L H) (hs : σ[m]? = some (some (.ref p))) (h : EV K M te σ B L r a L') (hc : L'[n]? = some ⟨p, cLst r, as⟩) (hc0 : ∃ n0 : Nat, ∃ a0 : List α, L[n0]? = some ⟨p, cLst r, a0⟩) (hr : room as.length = some ())
    (q : ∀ B' H', Ex B B' → Own K B' M (L'.set n ⟨p, cLst r, as ++ [a]⟩) H' → tz D σ H') : tSeq (tDrop (tBM K "list" rAppend (tVar m) (tCons te tNil))) tz D σ H := by
  obtain ⟨n0, a0, hc0⟩ := hc0
  obtain ⟨⟨o, h1, ys, h2, h3⟩, _⟩ := w.at hc0
  have h1 : H p = some o := h1
  refine ⟨_, hs, .inl ⟨rfl, _, sq_of (xs := ys) (by rw [h1, h2])⟩, h B H (Ex.refl _) w _ fun v B' H' e w' hv => ?_⟩
  obtain ⟨⟨o', g1, xs, g2, g3⟩, _⟩ := w'.at hc
  have g1 : H' p = some o' := g1
  exact ⟨p, xs, v, rfl, rfl, by rw [g1, g2], by rw [paired_len g3]; exact room_some hr, q B' _ e (w'.set hc ⟨_, rfl, paired_app g3 (.cons hv .nil)⟩)⟩
/-- l[i] = e -/
theorem q_setC {n m : Nat} {p : Addr} {as : List α} {a : α} {l : Nat} (w : Own K B M L H) (h : EV K M te σ B L r a L1) (hs : σ[m]? = some (some (.ref p))) (hb : EV K M tb σ B L1 rInt i L2) (hc : L2[n]? = some ⟨p, cLst r, as⟩) (hi : ixN as.length i = some l)
    (q : ∀ B' H', Ex B B' → Own K B' M (L2.set n ⟨p, cLst r, as.set l a⟩) H' → tz D σ H') : tSeq (tAsg te (gSub (tVar m) tb rSetL)) tz D σ H :=
  h B H (Ex.refl _) w _ fun v B1 H1 e1 w1 hv => ⟨_, hs, hb B1 H1 e1 w1 _ fun y B2 H2 e2 w2 hy => by
    obtain ⟨⟨o', g1, xs, g2, g3⟩, _⟩ := w2.at hc
    have g1 : H2 p = some o' := g1
    refine ⟨p, xs, i, l, rfl, hy, by rw [g1, g2], by rw [paired_len g3]; exact hi, q B2 _ (e1.trans e2) (w2.set hc ⟨_, rfl, paired_set (r.mono e2 hv) l g3⟩)⟩⟩
/-- l[1] = e of a list [u, v] -/
theorem q_set1 {n m : Nat} {p : Addr} {a : α × β} {x : β} (w : Own K B M L H) (h : EV K M te σ B L s x L1) (hs : σ[m]? = some (some (.ref p))) (hc : L1[n]? = some ⟨p, cL2 r s, a⟩)
    (q : ∀ B' H', Ex B B' → Own K B' M (L1.set n ⟨p, cL2 r s, (a.1, x)⟩) H' → tz D σ H') : tSeq (tAsg te (gSub (tVar m) (tC (.int 1)) rSetL)) tz D σ H :=
  h B H (Ex.refl _) w _ fun v B1 H1 e1 w1 hv => ⟨_, hs, by
    obtain ⟨⟨o', g1, x0, x1, g2, g3, g4⟩, _⟩ := w1.at hc
    have g1 : H1 p = some o' := g1
    exact ⟨p, [x0, x1], 1, 1, rfl, rfl, by rw [g1, g2], rfl, q B1 _ e1 (w1.set hc ⟨x0, v, rfl, g3, hv⟩)⟩⟩
theorem ev_l2fst {n m : Nat} {p : Addr} {a : α × β} (hs : σ[m]? = some (some (.ref p))) (hc : L[n]? = some ⟨p, cL2 r s, a⟩) : EV K M (tOp (rIx K) (tVar m) (tC (.int 0))) σ B L r a.1 L := fun B1 H e w Q q => by
  obtain ⟨⟨o', g1, x0, x1, g2, g3, g4⟩, _⟩ := w.at hc
  have g1 : H p = some o' := g1
  exact ⟨_, hs, .inl ⟨p, [x0, x1], 0, x0, rfl, rfl, sq_of (by rw [g1, g2]), rfl, q _ B1 H (Ex.refl _) w g3⟩⟩
theorem ev_l2snd {n m : Nat} {p : Addr} {a : α × β} (hs : σ[m]? = some (some (.ref p))) (hc : L[n]? = some ⟨p, cL2 r s, a⟩) : EV K M (tOp (rIx K) (tVar m) (tC (.int 1))) σ B L s a.2 L := fun B1 H e w Q q => by
  obtain ⟨⟨o', g1, x0, x1, g2, g3, g4⟩, _⟩ := w.at hc
  have g1 : H p = some o' := g1
  exact ⟨_, hs, .inl ⟨p, [x0, x1], 1, x1, rfl, rfl, sq_of (by rw [g1, g2]), rfl, q _ B1 H (Ex.refl _) w g4⟩⟩
/-- a new list [u, v] -/
theorem q_asgL2 {n : Nat} {a : α} {b : β} (w : Own K B M L H) (h : EA K M tA σ B L [⟨r, a⟩, ⟨s, b⟩] L') (q : ∀ p B' H', Ex B B' → Own K B' M (⟨p, cL2 r s, (a, b)⟩ :: L') H' → tz D (σ.set n (some (.ref p))) H') : tSeq (tAsg (tLst tA) (gName n)) tz D σ H :=
  h B H (Ex.refl _) w _ fun vs B' H' e w' hv => by
    match vs, hv with
    | [_, _], ⟨h1, h2, _⟩ => exact ⟨by show 2 ≤ sizeLine; decide, fun p hp => q p B' _ e (w'.new hp ⟨_, _, rfl, h1, h2⟩)⟩
theorem q_par {n m : Nat} {a : α} {b : β} (w : Own K B M L H) (h : EA K M tA σ B L [⟨r, a⟩, ⟨s, b⟩] L') (q : ∀ u v B' H', Ex B B' → Own K B' M L' H' → r.is K B' u a → s.is K B' v b → tz D ((σ.set n (some u)).set m (some v)) H') : tSeq (tPar n m tA) tz D σ H :=
  h B H (Ex.refl _) w _ fun vs B' H' e w' hv => by
    match vs, hv with
    | [_, _], ⟨h1, h2, _⟩ => exact ⟨_, _, rfl, q _ _ B' H' e w' h1 h2⟩

/-! ### loops -/
inductive Stp (S R : Type) where
  | nx (s : S)
  | bk (s : S)
  | rt (r : R)
def loopM {S R α : Type} (f : S → α → Option (Stp S R)) : S → List α → Option (Stp S R)
  | s, [] => some (.nx s)
  | s, x :: xs => match f s x with
    | some (.nx s') => loopM f s' xs
    | o => o
def foldO {S α : Type} (f : S → α → Option S) : S → List α → Option S
  | s, [] => some s
  | s, x :: xs => match f s x with
    | some s' => foldO f s' xs
    | none => none
theorem loop_fold {S R α : Type} (f : S → α → Option S) : ∀ (xs : List α) (s : S), loopM (R := R) (fun s x => (f s x).map Stp.nx) s xs = (foldO f s xs).map Stp.nx
  | [], _ => rfl
  | x :: xs, s => by
    unfold loopM foldO
    cases f s x with
    | none => rfl
    | some s' => exact loop_fold f xs s'
/-- what is walked: xs, item by item, whatever is ours -/
structure Wk (K : Fg) (M : Fr) (J : It) (B : Hp) (r : Rep α) (xs : List α) : Prop where
  go : ∀ (i : Nat) a B' L' H', Ex B B' → Own K B' M L' H' → xs[i]? = some a → J.go i H' ∧ ∀ x H2, J.yld i H' x H2 → ∃ B2, Ex B' B2 ∧ Own K B2 M L' H2 ∧ r.is K B2 x a
  stop : ∀ B' L' H', Ex B B' → Own K B' M L' H' → J.stop xs.length H'
def EI (K : Fg) (M : Fr) (wi : TI) (σ : St) (B : Hp) (L : List Cell) (r : Rep α) (xs : List α) (L' : List Cell) : Prop :=
  ∀ B1 H, Ex B B1 → Own K B1 M L H → ∀ R : It → Hp → Prop, (∀ J B2 H2, Ex B1 B2 → Own K B2 M L' H2 → Wk K M J B2 r xs → R J H2) → wi σ H R
theorem ei_tup {xs : List α} (h : EV K M te σ B L (rTup r) xs L') : EI K M (iTup K te) σ B L r xs L' := fun B1 H e w R q => h B1 H e w _ fun v B2 H2 e2 w2 hv => by
  obtain ⟨p, vs, rfl, hs, hp⟩ := hv
  refine ⟨p, rfl, ⟨vs, ex_t w2.b hs⟩, q _ B2 H2 e2 w2 ⟨fun i a B' L' H' e' w' hi => ?_, fun B' L' H' e' w' => ⟨vs, ex_t (e'.trans w'.b) hs, by rw [paired_len hp]; exact Nat.le_refl _⟩⟩⟩
  obtain ⟨x, hx, hr⟩ := paired_get hp hi
  refine ⟨⟨vs, x, ex_t (e'.trans w'.b) hs, hx⟩, fun y H3 hy => ?_⟩
  obtain ⟨rfl, hy⟩ := hy
  have := hy vs (ex_t (e'.trans w'.b) hs)
  rw [hx] at this
  cases this
  exact ⟨B', Ex.refl _, w', r.mono e' hr⟩
theorem ei_lst {xs : List α} (h : EV K M te σ B L (rLst r) xs L') : EI K M (iList K te) σ B L r xs L' := fun B1 H e w R q => h B1 H e w _ fun v B2 H2 e2 w2 hv => by
  obtain ⟨p, vs, rfl, hs, hp⟩ := hv
  refine ⟨p, rfl, ⟨vs, ex_l w2.b hs⟩, q _ B2 H2 e2 w2 ⟨fun i a B' L' H' e' w' hi => ?_, fun B' L' H' e' w' => ⟨vs, ex_l (e'.trans w'.b) hs, by rw [paired_len hp]; exact Nat.le_refl _⟩⟩⟩
  obtain ⟨x, hx, hr⟩ := paired_get hp hi
  refine ⟨⟨vs, x, ex_l (e'.trans w'.b) hs, hx⟩, fun y H3 hy => ?_⟩
  obtain ⟨rfl, hy⟩ := hy
  have := hy vs (ex_l (e'.trans w'.b) hs)
  rw [hx] at this
  cases this
  exact ⟨B', Ex.refl _, w', r.mono e' hr⟩
/-- lo, lo + 1, .. below hi -/
def rng (lo hi : Int) : List Int := (List.range (hi - lo).toNat).map fun (k : Nat) => lo + (k : Int)
theorem rng_len (lo hi : Int) : (rng lo hi).length = (hi - lo).toNat := by simp [rng]
theorem rng_get {lo hi : Int} {i : Nat} {a : Int} (h : (rng lo hi)[i]? = some a) : i < (hi - lo).toNat ∧ a = lo + (i : Int) := by
  unfold rng at h
  rw [List.getElem?_map] at h
  cases e : (List.range (hi - lo).toNat)[i]? with
  | none => rw [e] at h; cases h
  | some k =>
    rw [e] at h
    obtain ⟨h1, h2⟩ := List.getElem?_eq_some_iff.mp e
    rw [List.getElem_range] at h2
    rw [List.length_range] at h1
    subst h2
    exact ⟨h1, (Option.some.inj h).symm⟩
def small62 (i : Int) : Option Unit := if -(2 ^ 62) ≤ i ∧ i < 2 ^ 62 then some () else none
theorem small62_some {u : Unit} (h : small62 i = some u) : -(2 ^ 62) ≤ i ∧ i < 2 ^ 62 := by
  unfold small62 at h
  split at h
  · assumption
  · cases h
theorem wk_rng {lo hi : Int} : Wk K M (Itr lo (hi - lo).toNat) B rInt (rng lo hi) :=
  ⟨fun i a B' L' H' e' w' hi => by
    obtain ⟨h1, rfl⟩ := rng_get hi
    exact ⟨h1, fun x H2 hy => ⟨B', Ex.refl _, by rw [hy.1]; exact w', hy.2⟩⟩, fun B' L' H' e' w' => by rw [rng_len]; exact Nat.le_refl _⟩
theorem ei_rng1 (h : EA K M tA σ B L [⟨rInt, j⟩] L') (hj : small62 j = some ()) : EI K M (iRng1 tA) σ B L rInt (rng 0 j) L' := fun B1 H e w R q => h B1 H e w _ fun vs B2 H2 e2 w2 hv => by
  match vs, hv with
  | [_], ⟨h1, _⟩ =>
    refine ⟨j, by rw [show _ = V.int j from h1], (small62_some hj).1, (small62_some hj).2, q _ B2 H2 e2 w2 ?_⟩
    have := wk_rng (K := K) (M := M) (B := B2) (lo := 0) (hi := j)
    rw [show j - 0 = j by omega] at this
    exact this
theorem ei_rng2 (h : EA K M tA σ B L [⟨rInt, i⟩, ⟨rInt, j⟩] L') (hi : small62 i = some ()) (hj : small62 j = some ()) : EI K M (iRng2 tA) σ B L rInt (rng i j) L' := fun B1 H e w R q => h B1 H e w _ fun vs B2 H2 e2 w2 hv => by
  match vs, hv with
  | [_, _], ⟨h1, h2, _⟩ => exact ⟨i, j, by rw [show _ = V.int i from h1, show _ = V.int j from h2], ⟨(small62_some hi).1, (small62_some hi).2, (small62_some hj).1, (small62_some hj).2⟩, q _ B2 H2 e2 w2 wk_rng⟩

theorem loopM_drop {S R : Type} {f : S → α → Option (Stp S R)} {s s' : S} {xs : List α} {i : Nat} {a : α} (h : xs[i]? = some a) : loopM f s (xs.drop i) = (match f s a with | some (.nx s') => loopM f s' (xs.drop (i + 1)) | o => o) := by
  obtain ⟨h1, h2⟩ := List.getElem?_eq_some_iff.mp h
  rw [List.drop_eq_getElem_cons h1, h2]
  rfl
theorem q_for {S R : Type} {wi : TI} {g : TG} {tb : TS} {xs : List α} (w : Own K B M L H) (hi : EI K M wi σ B L r xs L1) (f : S → α → Option (Stp S R)) (P : S → Hp → St → Prop) (Lf : S → List Cell) (s0 : S) {o : Stp S R} (hm : loopM f s0 xs = some o)
    (h0 : ∀ B', Ex B B' → P s0 B' σ) (hL : Lf s0 = L1)
    (hs : ∀ s x st v B0 B' H' σ', f s x = some st → Ex B B0 → P s B0 σ' → Ex B0 B' → Own K B' M (Lf s) H' → r.is K B' v x → (∀ q, st = .rt q → o = .rt q) → ∀ (N : St → Hp → Prop) (BK : St → Hp → Prop),
      (∀ s3 B3 H3 σ3, st = .nx s3 → Ex B' B3 → Own K B3 M (Lf s3) H3 → P s3 B3 σ3 → N σ3 H3) → (∀ s3 B3 H3 σ3, st = .bk s3 → Ex B' B3 → Own K B3 M (Lf s3) H3 → P s3 B3 σ3 → BK σ3 H3) →
      g v σ' H' fun σ2 H2 => tb { D with nx := N, ct := N, bk := BK } σ2 H2)
    (hd : ∀ s B' H' σ', (o = .nx s ∨ o = .bk s) → Ex B B' → Own K B' M (Lf s) H' → P s B' σ' → tz D σ' H') : tSeq (tFor wi g tb) tz D σ H :=
  hi B H (Ex.refl _) w _ fun J B1 H1 e1 w1 k => by
    refine ⟨fun i m σ' H' => m = xs.length - i ∧ i ≤ xs.length ∧ ∃ s B', Ex B1 B' ∧ Own K B' M (Lf s) H' ∧ P s B' σ' ∧ loopM f s (xs.drop i) = some o, ⟨xs.length, by simp, Nat.zero_le _, s0, B1, Ex.refl _, by rw [hL]; exact w1, h0 B1 e1, hm⟩, ?_⟩
    rintro i m σ' H' ⟨rfl, hle, s, B', e', w', hP, hl⟩
    by_cases hlt : i < xs.length
    · right
      obtain ⟨a, ha⟩ : ∃ a, xs[i]? = some a := ⟨xs[i], List.getElem?_eq_getElem hlt⟩
      obtain ⟨hgo, hy⟩ := k.go i a B' _ H' e' w' ha
      rw [loopM_drop (s' := s) ha] at hl
      cases hst : f s a with
      | none => rw [hst] at hl; cases hl
      | some st =>
        rw [hst] at hl
        refine ⟨hgo, fun σ3 H3 => ∃ s3 B3, st = .nx s3 ∧ Ex B1 B3 ∧ Own K B3 M (Lf s3) H3 ∧ P s3 B3 σ3, fun σ3 H3 ⟨s3, B3, e3, a1, a2, a3⟩ => ?_, fun x H2 hy2 => ?_⟩
        · subst e3
          exact ⟨_, (by omega : xs.length - (i + 1) < xs.length - i), rfl, hlt, s3, B3, a1, a2, a3, hl⟩
        · obtain ⟨B2, e2, w2, hr⟩ := hy x H2 hy2
          refine hs s a st x B' B2 H2 σ' hst (e1.trans e') hP e2 w2 hr (fun q e => by rw [e] at hl; exact (Option.some.inj hl).symm) _ _ (fun s3 B3 H3 σ3 e3 e4 w3 p3 => ⟨s3, B3, e3, (e'.trans e2).trans e4, w3, p3⟩) (fun s3 B3 H3 σ3 e3 e4 w3 p3 => ?_)
          rw [e3] at hl
          exact hd s3 B3 H3 σ3 (.inr (Option.some.inj hl).symm) (((e1.trans e').trans e2).trans e4) w3 p3
    · left
      have : i = xs.length := by omega
      subst this
      rw [List.drop_length] at hl
      have ho : o = .nx s := (Option.some.inj hl).symm
      exact ⟨k.stop B' _ H' e' w', hd s B' H' σ' (.inl ho) (e1.trans e') w' hP⟩
end
end L3

namespace L3
open PySem L2
open Evl (Ex ex_rd ex_l ex_t sq_of st_of fresh_back)

theorem args1 {K : Fg} {B : Hp} {vs : List V} {x : Arg} (h : ArgsIs K B vs [x]) : ∃ u, vs = [u] ∧ x.is K B u := by
  match vs, h with
  | [_], ⟨h1, _⟩ => exact ⟨_, rfl, h1⟩
theorem args2 {K : Fg} {B : Hp} {vs : List V} {x y : Arg} (h : ArgsIs K B vs [x, y]) : ∃ u v, vs = [u, v] ∧ x.is K B u ∧ y.is K B v := by
  match vs, h with
  | [_, _], ⟨h1, h2, _⟩ => exact ⟨_, _, rfl, h1, h2⟩
theorem args3 {K : Fg} {B : Hp} {vs : List V} {x y z : Arg} (h : ArgsIs K B vs [x, y, z]) : ∃ u v w, vs = [u, v, w] ∧ x.is K B u ∧ y.is K B v ∧ z.is K B w := by
  match vs, h with
  | [_, _, _], ⟨h1, h2, h3, _⟩ => exact ⟨_, _, _, rfl, h1, h2, h3⟩
theorem args4 {K : Fg} {B : Hp} {vs : List V} {x y z a : Arg} (h : ArgsIs K B vs [x, y, z, a]) : ∃ u v w t, vs = [u, v, w, t] ∧ x.is K B u ∧ y.is K B v ∧ z.is K B w ∧ a.is K B t := by
  match vs, h with
  | [_, _, _, _], ⟨h1, h2, h3, h4, _⟩ => exact ⟨_, _, _, _, rfl, h1, h2, h3, h4⟩
theorem args5 {K : Fg} {B : Hp} {vs : List V} {x y z a b : Arg} (h : ArgsIs K B vs [x, y, z, a, b]) : ∃ u v w t s, vs = [u, v, w, t, s] ∧ x.is K B u ∧ y.is K B v ∧ z.is K B w ∧ a.is K B t ∧ b.is K B s := by
  match vs, h with
  | [_, _, _, _, _], ⟨h1, h2, h3, h4, h5, _⟩ => exact ⟨_, _, _, _, _, rfl, h1, h2, h3, h4, h5⟩
theorem args6 {K : Fg} {B : Hp} {vs : List V} {x y z a b c : Arg} (h : ArgsIs K B vs [x, y, z, a, b, c]) : ∃ u v w t s r, vs = [u, v, w, t, s, r] ∧ x.is K B u ∧ y.is K B v ∧ z.is K B w ∧ a.is K B t ∧ b.is K B s ∧ c.is K B r := by
  match vs, h with
  | [_, _, _, _, _, _], ⟨h1, h2, h3, h4, h5, h6, _⟩ => exact ⟨_, _, _, _, _, _, rfl, h1, h2, h3, h4, h5, h6⟩
/-- a constant of the module -/
structure GV (K : Fg) (mg : Str → Option Value) (x : Str) {α : Type} (r : Rep α) (a : α) : Prop where
  ex : ∃ (u : Value) (v : V), mg x = some u ∧ RelV v u ∧ ∀ B, r.is K B v a
def absI (i : Int) : Int := if i < 0 then -i else i
def gcdI (i j : Int) : Int := ((Nat.gcd i.natAbs j.natAbs : Nat) : Int)
def ixO (n : Nat) (i : Int) : Option Nat := ixN n i

section
variable {K : Fg} {M : Fr} {σ : St} {B : Hp} {L L1 L2 L' : List Cell} {α β γ δ : Type} {r : Rep α} {s : Rep β} {t : Rep γ} {ta tb tc te : TE} {tt tu : TT} {tA : TA} {i j k : Int} {b c : Bool}
theorem ev_add (ha : EV K M ta σ B L rInt i L1) (hb : EV K M tb σ B L1 rInt j L2) : EV K M (tOp (rI0 fun i j => .int (i + j)) ta tb) σ B L rInt (i + j) L2 := ev_I0 (g := fun i j => i + j) ha hb
theorem ev_sub (ha : EV K M ta σ B L rInt i L1) (hb : EV K M tb σ B L1 rInt j L2) : EV K M (tOp (rI0 fun i j => .int (i - j)) ta tb) σ B L rInt (i - j) L2 := ev_I0 (g := fun i j => i - j) ha hb
theorem ev_bitand (ha : EV K M ta σ B L rInt i L1) (hb : EV K M tb σ B L1 rInt j L2) : EV K M (tOp (rI0 fun i j => .int (Builtin.bitAnd i j)) ta tb) σ B L rInt (Builtin.bitAnd i j) L2 := ev_I0 (g := fun i j => Builtin.bitAnd i j) ha hb
abbrev rLt : R2 := rI0 fun i j => .bl (decide (i < j))
abbrev rLe : R2 := rI0 fun i j => .bl (decide (i ≤ j))
abbrev rGt : R2 := rI0 fun i j => .bl (decide (j < i))
abbrev rGe : R2 := rI0 fun i j => .bl (decide (j ≤ i))
theorem ev_lt (ha : EV K M ta σ B L rInt i L1) (hb : EV K M tb σ B L1 rInt j L2) : EV K M (tOp rLt ta tb) σ B L rBool (decide (i < j)) L2 := ev_B0 (g := fun i j => decide (i < j)) ha hb
theorem ev_le (ha : EV K M ta σ B L rInt i L1) (hb : EV K M tb σ B L1 rInt j L2) : EV K M (tOp rLe ta tb) σ B L rBool (decide (i ≤ j)) L2 := ev_B0 (g := fun i j => decide (i ≤ j)) ha hb
theorem ev_gt (ha : EV K M ta σ B L rInt i L1) (hb : EV K M tb σ B L1 rInt j L2) : EV K M (tOp rGt ta tb) σ B L rBool (decide (i > j)) L2 := ev_B0 (g := fun i j => decide (j < i)) ha hb
theorem ev_ge (ha : EV K M ta σ B L rInt i L1) (hb : EV K M tb σ B L1 rInt j L2) : EV K M (tOp rGe ta tb) σ B L rBool (decide (i ≥ j)) L2 := ev_B0 (g := fun i j => decide (j ≤ i)) ha hb
theorem ev_ch {g g' : Int → Int → Bool} (ha : EV K M ta σ B L rInt i L1) (hb : EV K M tb σ B L1 rInt j L2) (hc : EV K M tc σ B L2 rInt k L2) : EV K M (tChain (rI0 fun i j => .bl (g i j)) (rI0 fun i j => .bl (g' i j)) ta tb tc) σ B L rBool (g i j && g' j k) L2 := fun B1 H e w Q q =>
  ha B1 H e w _ fun x B2 H2 e2 w2 hx => hb B2 H2 (e.trans e2) w2 _ fun y B3 H3 e3 w3 hy => ⟨i, j, hx, hy, g i j, rfl, by
    cases hg : g i j with
    | true => exact hc B3 H3 ((e.trans e2).trans e3) w3 _ fun z B4 H4 e4 w4 hz => ⟨j, k, hy, hz, q _ B4 H4 ((e2.trans e3).trans e4) w4 (by show V.bl _ = V.bl _; rw [hg]; rfl)⟩
    | false => exact q _ B3 H3 (e2.trans e3) w3 (by show V.bl _ = V.bl _; rw [hg]; rfl)⟩
theorem ev_ch_lt_lt (ha : EV K M ta σ B L rInt i L1) (hb : EV K M tb σ B L1 rInt j L2) (hc : EV K M tc σ B L2 rInt k L2) : EV K M (tChain rLt rLt ta tb tc) σ B L rBool (decide (i < j) && decide (j < k)) L2 := ev_ch (g := fun i j => decide (i < j)) (g' := fun i j => decide (i < j)) ha hb hc
theorem ev_ch_le_lt (ha : EV K M ta σ B L rInt i L1) (hb : EV K M tb σ B L1 rInt j L2) (hc : EV K M tc σ B L2 rInt k L2) : EV K M (tChain rLe rLt ta tb tc) σ B L rBool (decide (i ≤ j) && decide (j < k)) L2 := ev_ch (g := fun i j => decide (i ≤ j)) (g' := fun i j => decide (i < j)) ha hb hc
theorem ev_ch_lt_le (ha : EV K M ta σ B L rInt i L1) (hb : EV K M tb σ B L1 rInt j L2) (hc : EV K M tc σ B L2 rInt k L2) : EV K M (tChain rLt rLe ta tb tc) σ B L rBool (decide (i < j) && decide (j ≤ k)) L2 := ev_ch (g := fun i j => decide (i < j)) (g' := fun i j => decide (i ≤ j)) ha hb hc
theorem ev_ch_le_le (ha : EV K M ta σ B L rInt i L1) (hb : EV K M tb σ B L1 rInt j L2) (hc : EV K M tc σ B L2 rInt k L2) : EV K M (tChain rLe rLe ta tb tc) σ B L rBool (decide (i ≤ j) && decide (j ≤ k)) L2 := ev_ch (g := fun i j => decide (i ≤ j)) (g' := fun i j => decide (i ≤ j)) ha hb hc
theorem ev_and0 {d : Bool} (h1 : EV K M ta σ B L rBool b L1) (h2 : b = true → EV K M tb σ B L1 rBool d L1) : EV K M (tAndV ta tb) σ B L rBool (b && d) L1 := fun B1 H e w Q q => h1 B1 H e w _ fun x B2 H2 e2 w2 hx => ⟨b, hx, by
  cases b with
  | true => exact h2 rfl B2 H2 (e.trans e2) w2 Q fun v B3 H3 e3 w3 hv => q v B3 H3 (e2.trans e3) w3 hv
  | false => exact q _ B2 H2 e2 w2 rfl⟩
theorem ev_or0 {d : Bool} (h1 : EV K M ta σ B L rBool b L1) (h2 : b = false → EV K M tb σ B L1 rBool d L1) : EV K M (tOrV ta tb) σ B L rBool (b || d) L1 := fun B1 H e w Q q => h1 B1 H e w _ fun x B2 H2 e2 w2 hx => ⟨b, hx, by
  cases b with
  | true => exact q _ B2 H2 e2 w2 rfl
  | false => exact h2 rfl B2 H2 (e.trans e2) w2 Q fun v B3 H3 e3 w3 hv => q v B3 H3 (e2.trans e3) w3 hv⟩
/-! ### targets -/
variable {H : Hp} {Qs : St → Hp → Prop} {g : TG} {gs : TGs}
theorem g_T2 {a : α × β} {v : V} {gs : TGs} (h : (rT2 r s).is K B v a) (w : Own K B M L H) (q : ∀ x y, r.is K B x a.1 → s.is K B y a.2 → gs [x, y] σ H Qs) : gTup K 2 gs v σ H Qs := by
  obtain ⟨p, x, y, rfl, h1, h2, h3⟩ := h
  exact ⟨p, _, rfl, ex_t w.b h1, rfl, q x y h2 h3⟩
theorem g_T3 {a : α × β × γ} {v : V} {gs : TGs} (h : (rT3 r s t).is K B v a) (w : Own K B M L H) (q : ∀ x y z, r.is K B x a.1 → s.is K B y a.2.1 → t.is K B z a.2.2 → gs [x, y, z] σ H Qs) : gTup K 3 gs v σ H Qs := by
  obtain ⟨p, x, y, z, rfl, h1, h2, h3, h4⟩ := h
  exact ⟨p, _, rfl, ex_t w.b h1, rfl, q x y z h2 h3 h4⟩
theorem g_cons {v : V} {vs : List V} (h : g v σ H fun σ' H' => gs vs σ' H' Qs) : gCons g gs (v :: vs) σ H Qs := ⟨v, vs, rfl, h⟩
theorem g_name {n : Nat} {v : V} (h : Qs (σ.set n (some v)) H) : gName n v σ H Qs := h
theorem g_nil (h : Qs σ H) : gNil [] σ H Qs := ⟨rfl, h⟩
/-! ### more statements -/
variable {D : Ends} {tz t1 t2 : TS}
theorem q_aug {n : Nat} {v : V} {f : Int → Int → Int} (w : Own K B M L H) (hs : σ[n]? = some (some v)) (hv : v = .int i) (h : EV K M te σ B L rInt j L') (q : ∀ v B' H', Ex B B' → Own K B' M L' H' → rInt.is K B' v (f i j) → tz D (σ.set n (some v)) H') : tSeq (tAug n te (ipI f)) tz D σ H :=
  ⟨v, hs, h B H (Ex.refl _) w _ fun y B' H' e w' hy => ⟨i, j, hv, hy, q _ B' H' e w' rfl⟩⟩
theorem q_unp {a : α} (w : Own K B M L H) (h : EV K M te σ B L r a L') (q : ∀ v B' H', Ex B B' → Own K B' M L' H' → r.is K B' v a → g v σ H' (tz D)) : tSeq (tAsg te g) tz D σ H := h B H (Ex.refl _) w _ q
def Stp.out {S R : Type} : Stp S R → S ⊕ R
  | .nx s => .inl s
  | .bk s => .inl s
  | .rt q => .inr q
def Stp.st {S : Type} : Stp S Empty → S
  | .nx s => s
  | .bk s => s
  | .rt q => nomatch q
def loopR {S R α : Type} (f : S → α → Option (Stp S R)) (s : S) (xs : List α) : Option (S ⊕ R) := (loopM f s xs).map Stp.out
def loopB {S α : Type} (f : S → α → Option (Stp S Empty)) (s : S) (xs : List α) : Option S := (loopM f s xs).map Stp.st
theorem q_forR {S R : Type} {wi : TI} {g : TG} {tb : TS} {xs : List α} (w : Own K B M L H) (hi : EI K M wi σ B L r xs L1) (f : S → α → Option (Stp S R)) (P : S → Hp → St → Prop) (Lf : S → List Cell) (s0 : S) {o : S ⊕ R} (hm : loopR f s0 xs = some o)
    (h0 : ∀ B', Ex B B' → P s0 B' σ) (hL : Lf s0 = L1)
    (hs : ∀ s x st v B0 B' H' σ', f s x = some st → Ex B B0 → P s B0 σ' → Ex B0 B' → Own K B' M (Lf s) H' → r.is K B' v x → (∀ q, st = .rt q → o = .inr q) → ∀ (N : St → Hp → Prop) (BK : St → Hp → Prop),
      (∀ s3 B3 H3 σ3, st = .nx s3 → Ex B' B3 → Own K B3 M (Lf s3) H3 → P s3 B3 σ3 → N σ3 H3) → (∀ s3 B3 H3 σ3, st = .bk s3 → Ex B' B3 → Own K B3 M (Lf s3) H3 → P s3 B3 σ3 → BK σ3 H3) →
      g v σ' H' fun σ2 H2 => tb { D with nx := N, ct := N, bk := BK } σ2 H2)
    (hd : ∀ s B' H' σ', o = .inl s → Ex B B' → Own K B' M (Lf s) H' → P s B' σ' → tz D σ' H') : tSeq (tFor wi g tb) tz D σ H := by
  unfold loopR at hm
  cases h : loopM f s0 xs with
  | none => rw [h] at hm; cases hm
  | some o' =>
    rw [h] at hm
    have hm : o'.out = o := Option.some.inj hm
    refine q_for w hi f P Lf s0 h h0 hL (fun s x st v B0 B' H' σ' a1 a2 a3 a4 a5 a6 a7 => hs s x st v B0 B' H' σ' a1 a2 a3 a4 a5 a6 fun q e => ?_) fun s B' H' σ' a1 => hd s B' H' σ' ?_
    · rw [← hm, a7 q e]; rfl
    · rcases a1 with rfl | rfl
      · exact hm.symm
      · exact hm.symm
theorem q_forB {S : Type} {wi : TI} {g : TG} {tb : TS} {xs : List α} (w : Own K B M L H) (hi : EI K M wi σ B L r xs L1) (f : S → α → Option (Stp S Empty)) (P : S → Hp → St → Prop) (Lf : S → List Cell) (s0 : S) {s1 : S} (hm : loopB f s0 xs = some s1)
    (h0 : ∀ B', Ex B B' → P s0 B' σ) (hL : Lf s0 = L1)
    (hs : ∀ s x st v B0 B' H' σ', f s x = some st → Ex B B0 → P s B0 σ' → Ex B0 B' → Own K B' M (Lf s) H' → r.is K B' v x → ∀ (N : St → Hp → Prop) (BK : St → Hp → Prop),
      (∀ s3 B3 H3 σ3, st = .nx s3 → Ex B' B3 → Own K B3 M (Lf s3) H3 → P s3 B3 σ3 → N σ3 H3) → (∀ s3 B3 H3 σ3, st = .bk s3 → Ex B' B3 → Own K B3 M (Lf s3) H3 → P s3 B3 σ3 → BK σ3 H3) →
      g v σ' H' fun σ2 H2 => tb { D with nx := N, ct := N, bk := BK } σ2 H2)
    (hd : ∀ B' H' σ', Ex B B' → Own K B' M (Lf s1) H' → P s1 B' σ' → tz D σ' H') : tSeq (tFor wi g tb) tz D σ H := by
  unfold loopB at hm
  cases h : loopM f s0 xs with
  | none => rw [h] at hm; cases hm
  | some o' =>
    rw [h] at hm
    have hm : o'.st = s1 := Option.some.inj hm
    refine q_for w hi f P Lf s0 h h0 hL (fun s x st v B0 B' H' σ' a1 a2 a3 a4 a5 a6 _ => hs s x st v B0 B' H' σ' a1 a2 a3 a4 a5 a6) fun s B' H' σ' a1 => ?_
    have e : s1 = s := by
      rcases a1 with rfl | rfl
      · exact hm.symm
      · exact hm.symm
    subst e
    exact hd B' H' σ'
theorem q_fold {S : Type} {wi : TI} {g : TG} {tb : TS} {xs : List α} (w : Own K B M L H) (hi : EI K M wi σ B L r xs L1) (f : S → α → Option S) (P : S → Hp → St → Prop) (Lf : S → List Cell) (s0 : S) {s1 : S} (hm : foldO f s0 xs = some s1)
    (h0 : ∀ B', Ex B B' → P s0 B' σ) (hL : Lf s0 = L1)
    (hs : ∀ s x s' v B0 B' H' σ', f s x = some s' → Ex B B0 → P s B0 σ' → Ex B0 B' → Own K B' M (Lf s) H' → r.is K B' v x → ∀ (N : St → Hp → Prop) (BK : St → Hp → Prop),
      (∀ B3 H3 σ3, Ex B' B3 → Own K B3 M (Lf s') H3 → P s' B3 σ3 → N σ3 H3) →
      g v σ' H' fun σ2 H2 => tb { D with nx := N, ct := N, bk := BK } σ2 H2)
    (hd : ∀ B' H' σ', Ex B B' → Own K B' M (Lf s1) H' → P s1 B' σ' → tz D σ' H') : tSeq (tFor wi g tb) tz D σ H := by
  have h := loop_fold (R := Empty) f xs s0
  rw [hm] at h
  refine q_for w hi _ P Lf s0 h h0 hL (fun s x st v B0 B' H' σ' a1 a2 a3 a4 a5 a6 _ N BK hN hB => ?_) fun s B' H' σ' a1 => ?_
  · cases e : f s x with
    | none => rw [e] at a1; cases a1
    | some s' =>
      rw [e] at a1
      have a1 : st = .nx s' := (Option.some.inj a1).symm
      exact hs s x s' v B0 B' H' σ' e a2 a3 a4 a5 a6 N BK fun B3 H3 σ3 => hN s' B3 H3 σ3 a1
  · have e : s1 = s := by
      rcases a1 with h | h
      · cases h; rfl
      · cases h
    subst e
    exact hd B' H' σ'
end
/-- a def that may be called by its name -/
structure Cl (P : Program) (w : World) (K : Fg) (mg : Str → Option Value) (base : Heap) (k : Nat) (x : Str) (sp : Sp) (dvs : List V) : Prop where
  ex : ∃ (f : Addr) (fd : FuncData) (ps : List Str) (ds : List Value), FnOk P w K mg base CX0 k f fd ps sp ∧ mg x = some (.ref f) ∧ PySem.W.keepIn K (.ref f) = true ∧ Binds K fd ps ds ∧ Vals dvs ds
theorem pe_c {X : Cx} {k j : Nat} {x : Str} {sp : Sp} {dvs : List V} {p pos : Pos} {e : Expr} {es : List Expr} {t : TA} (c : Cl X.prog X.w X.K X.mg X.base k x sp dvs) (hr : Room j X.A) (hk : k ≤ j) (hg : Gl X x) (ha : PA X (e :: es) t)
    (hdb : (x == ("__debug__" : Str)) = false := by decide) (he : starEach (e :: es) X.env = (false, eval e X.env) :: starEach es X.env := by rfl) (hpl : (backTo pos (starEach es X.env)).any (·.1) = false := by rfl) :
    PE X (.Call (.Name x p) (e :: es) [] pos) (tCall sp dvs E0 t) := by
  obtain ⟨f, fd, ps, ds, F, hm, kp, b, d⟩ := c.ex
  exact pe_call F (hr.mono hk) hg hm kp b d pass0 ha hdb he hpl
theorem bt_len : bootBuiltins "len" = some (.builtin "len") := by decide +kernel
theorem bt_abs : bootBuiltins "abs" = some (.builtin "abs") := by decide +kernel
theorem bt_int : bootBuiltins "int" = some (.type "int") := by decide +kernel
theorem bt_isinstance : bootBuiltins "isinstance" = some (.builtin "isinstance") := by decide +kernel
theorem bt_sum : bootBuiltins "sum" = some (.builtin "sum") := by decide +kernel
theorem bt_any : bootBuiltins "any" = some (.builtin "any") := by decide +kernel
theorem bt_all : bootBuiltins "all" = some (.builtin "all") := by decide +kernel
theorem bt_list : bootBuiltins "list" = some (.type "list") := by decide +kernel
theorem bt_bool : bootBuiltins "bool" = some (.type "bool") := by decide +kernel
theorem bt_tuple : bootBuiltins "tuple" = some (.type "tuple") := by decide +kernel
theorem bt_sorted : bootBuiltins "sorted" = some (.builtin "sorted") := by decide +kernel
theorem bt_set : bootBuiltins "set" = some (.type "set") := by decide +kernel
theorem bt_str : bootBuiltins "str" = some (.type "str") := by decide +kernel
theorem bt_max : bootBuiltins "max" = some (.builtin "max") := by decide +kernel
theorem bt_min : bootBuiltins "min" = some (.builtin "min") := by decide +kernel
theorem bt_enumerate : bootBuiltins "enumerate" = some (.type "enumerate") := by decide +kernel
theorem bt_zip : bootBuiltins "zip" = some (.type "zip") := by decide +kernel
theorem bt_dict : bootBuiltins "dict" = some (.type "dict") := by decide +kernel
theorem room_hu {A : Around} {k : Nat} (hr : Room k A) : A.units + 64 < cLine := hr.units
theorem nn_rInt {K : Fg} {B : Hp} {v : V} {x : Int} (h : rInt.is K B v x) : v ≠ .non := by
  have h : v = .int x := h
  subst h; intro e; cases e
end L3

namespace L3
open PySem L2
open Evl (Ex ex_rd ex_l ex_t sq_of st_of fresh_back)

/-! ### data of any form -/
theorem exl {K : Fg} {B B' : Hp} {a : Addr} {xs : List V} (e : Ex B B') (h : SqL K B a xs) : SqL K B' a xs := ex_l e h
mutual
theorem dp_mono {K : Fg} {B B' : Hp} (e : Ex B B') : ∀ {v : V} {d : PyData}, Dp K B v d → Dp K B' v d
  | _, _, .non => .non
  | _, _, .bl b => .bl b
  | _, _, .int i => .int i
  | _, _, .str x => .str x
  | _, _, .lst h t => .lst (ex_l e h) (dpAll_mono e t)
  | _, _, .tup h t => .tup (ex_t e h) (dpAll_mono e t)
theorem dpAll_mono {K : Fg} {B B' : Hp} (e : Ex B B') : ∀ {vs : List V} {ds : List PyData}, DpAll K B vs ds → DpAll K B' vs ds
  | _, _, .nil => .nil
  | _, _, .cons h t => .cons (dp_mono e h) (dpAll_mono e t)
end
def rDat : Rep PyData := ⟨fun K B v d => Dp K B v d, fun e h => dp_mono e h⟩
theorem dpAll_paired {K : Fg} {B : Hp} : ∀ {vs : List V} {ds : List PyData}, DpAll K B vs ds → Paired (rDat.is K B) vs ds
  | _, _, .nil => .nil
  | _, _, .cons h t => .cons h (dpAll_paired t)
theorem dpAll_of {K : Fg} {B : Hp} {α : Type} {r : Rep α} {f : α → PyData} (h : ∀ v a, r.is K B v a → Dp K B v (f a)) : ∀ {vs : List V} {as : List α}, Paired (r.is K B) vs as → DpAll K B vs (as.map f)
  | _, _, .nil => .nil
  | _, _, .cons r t => .cons (h _ _ r) (dpAll_of h t)
/-- typed data as data -/
structure DR {α : Type} (r : Rep α) (f : α → PyData) (n : Nat) : Prop where
  dp : ∀ K B v a, r.is K B v a → Dp K B v (f a)
  lay : ∀ a, (f a).canLay0 = true
  dep : ∀ a, (f a).depth ≤ n
  eqv : ∀ a b, PyData.eqv (f a) (f b) = true ↔ a = b
  inj : ∀ a b, f a = f b → a = b
theorem layAll {α : Type} {f : α → PyData} (h : ∀ a, (f a).canLay0 = true) : ∀ l : List α, PyData.canLayAll0 (l.map f) = true
  | [] => rfl
  | a :: l => by simp only [List.map_cons, PyData.canLayAll0, h a, layAll h l, Bool.and_self]
theorem depAll {α : Type} {f : α → PyData} {n : Nat} (h : ∀ a, (f a).depth ≤ n) : ∀ l : List α, PyData.depthAll (l.map f) ≤ n
  | [] => by simp [PyData.depthAll]
  | a :: l => by simp only [List.map_cons, PyData.depthAll]; have := h a; have := depAll h l; omega
theorem eqvAll {α : Type} {f : α → PyData} (h : ∀ a b, PyData.eqv (f a) (f b) = true ↔ a = b) : ∀ l m : List α, PyData.eqvAll (l.map f) (m.map f) = true ↔ l = m
  | [], [] => by simp [PyData.eqvAll]
  | [], b :: m => by simp [PyData.eqvAll]
  | a :: l, [] => by simp [PyData.eqvAll]
  | a :: l, b :: m => by simp only [List.map_cons, PyData.eqvAll, Bool.and_eq_true, h a b, eqvAll h l m, List.cons.injEq]
theorem map_inj {α β : Type} {f : α → β} (h : ∀ a b, f a = f b → a = b) : ∀ l m : List α, l.map f = m.map f → l = m
  | [], [], _ => rfl
  | [], _ :: _, e => by simp at e
  | _ :: _, [], e => by simp at e
  | a :: l, b :: m, e => by
    rw [List.map_cons, List.map_cons, List.cons.injEq] at e
    rw [h _ _ e.1, map_inj h l m e.2]
theorem dr_int : DR rInt PyData.int 1 := ⟨fun _ _ _ a h => by have h : _ = V.int a := h; subst h; exact .int a, fun _ => rfl, fun _ => by simp [PyData.depth], fun a b => by simp [PyData.eqv], fun a b h => by injection h⟩
theorem dr_bool : DR rBool PyData.bool 1 := ⟨fun _ _ _ a h => by have h : _ = V.bl a := h; subst h; exact .bl a, fun _ => rfl, fun _ => by simp [PyData.depth], fun a b => by simp [PyData.eqv], fun a b h => by injection h⟩
def dNon : Unit → PyData := fun _ => .none
theorem dr_non : DR rNon dNon 1 := ⟨fun _ _ _ a h => by have h : _ = V.non := h; subst h; exact .non, fun _ => rfl, fun _ => by simp [PyData.depth, dNon], fun a b => by simp [PyData.eqv, dNon], fun a b h => rfl⟩
def dTup {α : Type} (f : α → PyData) (l : List α) : PyData := .tuple (l.map f)
def dLst {α : Type} (f : α → PyData) (l : List α) : PyData := .list (l.map f)
def dT2 {α β : Type} (f : α → PyData) (g : β → PyData) (a : α × β) : PyData := .tuple [f a.1, g a.2]
def dT3 {α β γ : Type} (f : α → PyData) (g : β → PyData) (h : γ → PyData) (a : α × β × γ) : PyData := .tuple [f a.1, g a.2.1, h a.2.2]
def dOpt {α : Type} (f : α → PyData) : Option α → PyData
  | none => .none
  | some a => f a
section
variable {α β γ : Type} {r : Rep α} {s : Rep β} {t : Rep γ} {f : α → PyData} {g : β → PyData} {h : γ → PyData} {n m k : Nat}
theorem dr_tup (d : DR r f n) : DR (rTup r) (dTup f) (n + 1) := ⟨fun K B v a ⟨p, xs, h1, h2, h3⟩ => by subst h1; exact .tup h2 (dpAll_of (d.dp K B) h3), fun a => by simpa [dTup, PyData.canLay0] using layAll d.lay a,
  fun a => by have := depAll d.dep a; simp only [dTup, PyData.depth]; omega, fun a b => by simpa [dTup, PyData.eqv] using eqvAll d.eqv a b, fun a b e => by unfold dTup at e; injection e with e; exact map_inj d.inj a b e⟩
theorem dr_lst (d : DR r f n) : DR (rLst r) (dLst f) (n + 1) := ⟨fun K B v a ⟨p, xs, h1, h2, h3⟩ => by subst h1; exact .lst h2 (dpAll_of (d.dp K B) h3), fun a => by simpa [dLst, PyData.canLay0] using layAll d.lay a,
  fun a => by have := depAll d.dep a; simp only [dLst, PyData.depth]; omega, fun a b => by simpa [dLst, PyData.eqv] using eqvAll d.eqv a b, fun a b e => by unfold dLst at e; injection e with e; exact map_inj d.inj a b e⟩
theorem dr_T2 (d : DR r f n) (e : DR s g m) : DR (rT2 r s) (dT2 f g) (max n m + 1) := ⟨fun K B v a ⟨p, x, y, h1, h2, h3, h4⟩ => by subst h1; exact .tup h2 (.cons (d.dp _ _ _ _ h3) (.cons (e.dp _ _ _ _ h4) .nil)),
  fun a => by simp [dT2, PyData.canLay0, PyData.canLayAll0, d.lay, e.lay], fun a => by have := d.dep a.1; have := e.dep a.2; simp only [dT2, PyData.depth, PyData.depthAll]; omega,
  fun a b => by simp only [dT2, PyData.eqv, PyData.eqvAll, Bool.and_true, Bool.and_eq_true, d.eqv, e.eqv]; exact ⟨fun ⟨x, y⟩ => Prod.ext x y, fun e => by rw [e]; exact ⟨rfl, rfl⟩⟩,
  fun a b q => by unfold dT2 at q; injection q with q; injection q with q1 q2; injection q2 with q2 _; exact Prod.ext (d.inj _ _ q1) (e.inj _ _ q2)⟩
theorem dr_T3 (d : DR r f n) (e : DR s g m) (c : DR t h k) : DR (rT3 r s t) (dT3 f g h) (max n (max m k) + 1) := ⟨fun K B v a ⟨p, x, y, z, h1, h2, h3, h4, h5⟩ => by subst h1; exact .tup h2 (.cons (d.dp _ _ _ _ h3) (.cons (e.dp _ _ _ _ h4) (.cons (c.dp _ _ _ _ h5) .nil))),
  fun a => by simp [dT3, PyData.canLay0, PyData.canLayAll0, d.lay, e.lay, c.lay], fun a => by have := d.dep a.1; have := e.dep a.2.1; have := c.dep a.2.2; simp only [dT3, PyData.depth, PyData.depthAll]; omega,
  fun a b => by simp only [dT3, PyData.eqv, PyData.eqvAll, Bool.and_true, Bool.and_eq_true, d.eqv, e.eqv, c.eqv]; exact ⟨fun ⟨x, y, z⟩ => Prod.ext x (Prod.ext y z), fun e => by rw [e]; exact ⟨rfl, rfl, rfl⟩⟩,
  fun a b q => by unfold dT3 at q; injection q with q; injection q with q1 q2; injection q2 with q2 q3; injection q3 with q3 _; exact Prod.ext (d.inj _ _ q1) (Prod.ext (e.inj _ _ q2) (c.inj _ _ q3))⟩
theorem DR.dec [DecidableEq α] (d : DR r f n) (a b : α) : PyData.eqv (f a) (f b) = decide (a = b) := by
  rw [Bool.eq_iff_iff, d.eqv, decide_eq_true_iff]
theorem DR.sh (d : DR r f n) (hn : n ≤ 64) (a : α) : SeqAt.shaped (f a) = true := by
  unfold SeqAt.shaped
  rw [d.lay a, decide_eq_true (Nat.le_trans (d.dep a) hn)]; rfl
end
/-! ### operations on data -/
def isNoneD : PyData → Bool
  | .none => true
  | _ => false
def isBoolD : PyData → Bool
  | .bool _ => true
  | _ => false
def isIntD : PyData → Bool
  | .bool _ => true
  | .int _ => true
  | _ => false
def isStrD : PyData → Bool
  | .str _ => true
  | _ => false
def isTupD : PyData → Bool
  | .tuple _ => true
  | _ => false
def isLstD : PyData → Bool
  | .list _ => true
  | _ => false
def tyName : PyData → String
  | .none => "NoneType"
  | .bool _ => "bool"
  | .int _ => "int"
  | .str _ => "str"
  | .list _ => "list"
  | .tuple _ => "tuple"
  | .dict _ => "dict"
def eqvD (a b : PyData) : Option Bool := if SeqAt.shaped a = true ∧ SeqAt.shaped b = true then some (PyData.eqv a b) else none
def lenD : PyData → Option Int
  | .list xs => some xs.length
  | .tuple xs => some xs.length
  | _ => none
def ixD : PyData → Int → Option PyData
  | .list xs, i => atI xs i
  | .tuple xs, i => atI xs i
  | _, _ => none
theorem dp_ty {K : Fg} {B H : Hp} {v : V} {d : PyData} (e : Ex B H) (h : Dp K B v d) : TyX K H v (.type (tyName d)) := by
  cases h with
  | non => exact .base .non
  | bl b => exact .base (.bl b)
  | int i => exact .base (.int i)
  | str x => exact .base (.str x)
  | lst h t =>
    rcases ex_l e h with (h | ⟨o, h⟩) | ⟨o, its, n, h, hc, _⟩
    · exact .base (.lst h)
    · exact .base (.frz h)
    · exact .kList h hc
  | tup h t =>
    rcases ex_t e h with (h | ⟨o, h⟩) | ⟨o, its, n, h, hc, _⟩
    · exact .base (.tup h)
    · exact .fTuple h
    · exact .kTuple h hc
section
variable {K : Fg} {M : Fr} {σ : St} {B : Hp} {L L1 L2 L' : List Cell} {α β γ δ : Type} {r : Rep α} {s : Rep β} {t : Rep γ} {ta tb tc te : TE} {tt tu : TT} {tA : TA} {i j k : Int} {b c : Bool} {d d' : PyData}
theorem ev_dat {f : α → PyData} {n : Nat} {a : α} (h : EV K M te σ B L r a L') (D : DR r f n) : EV K M te σ B L rDat (f a) L' := ev_as h fun _ _ h => D.dp _ _ _ _ h
theorem ev_isND (ha : EV K M ta σ B L rDat d L1) : EV K M (tIsN ta) σ B L rBool (isNoneD d) L1 := fun B1 H e w Q q =>
  ha B1 H e w _ fun x B2 H2 e2 w2 hx => q _ B2 H2 e2 w2 (by
    show V.bl _ = V.bl _
    congr 1
    have hx : Dp K B2 x d := hx
    cases hx <;> rfl)
theorem ev_isi (T : String) (g : PyData → Bool) (hg : ∀ n d, tyName d = n → kitB n T = some (g d)) (ha : EV K M ta σ B L rDat d L1) : EV K M (tCB (rIsi K) (tCons ta (tCons (tC (.ty T)) tNil))) σ B L rBool (g d) L1 := fun B1 H e w Q q =>
  ha B1 H e w _ fun x B2 H2 e2 w2 hx => ⟨x, .ty T, .type (tyName d), .type T, g d, rfl, .ty T, dp_ty w2.b hx, kit_ty (hg _ d rfl), q _ B2 H2 e2 w2 rfl⟩
def kt (T : String) (g : String → Bool) : Bool := (kitB "NoneType" T == some (g "NoneType")) && (kitB "bool" T == some (g "bool")) && (kitB "int" T == some (g "int")) && (kitB "str" T == some (g "str")) && (kitB "list" T == some (g "list")) && (kitB "tuple" T == some (g "tuple")) && (kitB "dict" T == some (g "dict"))
theorem kt_of {T : String} {g : String → Bool} (h : kt T g = true) (d : PyData) : kitB (tyName d) T = some (g (tyName d)) := by
  unfold kt at h
  simp only [Bool.and_eq_true, beq_iff_eq] at h
  cases d <;> simp only [tyName] <;> simp_all
theorem isi_bool : ∀ n d, tyName d = n → kitB n "bool" = some (isBoolD d) := fun n d e => by
  subst e
  rw [kt_of (g := fun n => n == "bool") (by decide +kernel) d]
  cases d <;> rfl
theorem isi_int : ∀ n d, tyName d = n → kitB n "int" = some (isIntD d) := fun n d e => by
  subst e
  rw [kt_of (g := fun n => n == "bool" || n == "int") (by decide +kernel) d]
  cases d <;> rfl
theorem isi_str : ∀ n d, tyName d = n → kitB n "str" = some (isStrD d) := fun n d e => by
  subst e
  rw [kt_of (g := fun n => n == "str") (by decide +kernel) d]
  cases d <;> rfl
theorem isi_tuple : ∀ n d, tyName d = n → kitB n "tuple" = some (isTupD d) := fun n d e => by
  subst e
  rw [kt_of (g := fun n => n == "tuple") (by decide +kernel) d]
  cases d <;> rfl
theorem isi_list : ∀ n d, tyName d = n → kitB n "list" = some (isLstD d) := fun n d e => by
  subst e
  rw [kt_of (g := fun n => n == "list") (by decide +kernel) d]
  cases d <;> rfl
theorem ev_eqvD (ha : EV K M ta σ B L rDat d L1) (hb : EV K M tb σ B L1 rDat d' L2) (h : eqvD d d' = some b) : EV K M (tOp (rEqD K) ta tb) σ B L rBool b L2 :=
  ev_op ha hb fun B1 H1 x y Q w hx hy q => by
    unfold eqvD at h
    split at h
    · rename_i hc
      exact ⟨d, d', dp_mono w.b hx, dp_mono w.b hy, hc.1, hc.2, q _ (by rw [Option.some.inj h]; rfl)⟩
    · cases h
/-- == of typed data -/
theorem ev_eqT {f : α → PyData} {n : Nat} {a a' : α} [DecidableEq α] (D : DR r f n) (hn : n ≤ 64) (ha : EV K M ta σ B L r a L1) (hb : EV K M tb σ B L1 r a' L2) : EV K M (tOp (rEqD K) ta tb) σ B L rBool (decide (a = a')) L2 :=
  ev_op ha hb fun B1 H1 x y Q w hx hy q => ⟨f a, f a', dp_mono w.b (D.dp _ _ _ _ hx), dp_mono w.b (D.dp _ _ _ _ hy), D.sh hn a, D.sh hn a', q _ (by rw [D.dec]; rfl)⟩
theorem ev_neT {f : α → PyData} {n : Nat} {a a' : α} [DecidableEq α] (D : DR r f n) (hn : n ≤ 64) (ha : EV K M ta σ B L r a L1) (hb : EV K M tb σ B L1 r a' L2) : EV K M (tOp (rNeD K) ta tb) σ B L rBool (!decide (a = a')) L2 :=
  ev_op ha hb fun B1 H1 x y Q w hx hy q => ⟨f a, f a', dp_mono w.b (D.dp _ _ _ _ hx), dp_mono w.b (D.dp _ _ _ _ hy), D.sh hn a, D.sh hn a', q _ (by rw [D.dec]; rfl)⟩
theorem dpAll_len {vs : List V} {ds : List PyData} (h : DpAll K B vs ds) : vs.length = ds.length := paired_len (dpAll_paired h)
theorem ev_lenD (ha : EV K M ta σ B L rDat d L1) (h : lenD d = some i) : EV K M (tCB (rLen K) (tCons ta tNil)) σ B L rInt i L1 :=
  ev_cb1 ha fun B1 H1 x Q w hx q => by
    have hx : Dp K B1 x d := hx
    cases hx with
    | lst h1 t =>
      rw [← (Option.some.inj h : _ = i)] at q
      exact ⟨_, _, rfl, .inl (ex_l w.b h1), q _ (by rw [dpAll_len t]; rfl)⟩
    | tup h1 t =>
      rw [← (Option.some.inj h : _ = i)] at q
      exact ⟨_, _, rfl, .inr (ex_t w.b h1), q _ (by rw [dpAll_len t]; rfl)⟩
    | _ => cases h
theorem ev_ixD (ha : EV K M ta σ B L rDat d L1) (hb : EV K M tb σ B L1 rInt i L2) (h : ixD d i = some d') : EV K M (tOp (rIx K) ta tb) σ B L rDat d' L2 :=
  ev_op ha hb fun B1 H1 x y Q w hx hy q => by
    have hx : Dp K B1 x d := hx
    cases hx with
    | lst h1 t =>
      obtain ⟨z, e, hz⟩ := atI_paired (dpAll_paired t) h
      exact .inl ⟨_, _, i, z, rfl, hy, ex_l w.b h1, e, q _ hz⟩
    | tup h1 t =>
      obtain ⟨z, e, hz⟩ := atI_paired (dpAll_paired t) h
      exact .inr (.inl ⟨_, _, i, z, rfl, hy, ex_t w.b h1, e, q _ hz⟩)
    | _ => cases h
end
/-- nothing is promised: at any level -/
theorem fn_none {P : Program} {w : World} {K : Fg} {mg : Str → Option Value} {base : Heap} {k : Nat} {f : Addr} {fd : FuncData} {ps : List Str} {T : List Addr} {C : List Arg → List Cell → Arg → List Cell → Prop} (h : ∀ as L r L', ¬ C as L r L') : FnOk P w K mg base CX0 k f fd ps (spV K T C) :=
  ⟨fun vs H Q E ⟨_, _, _, _, _, _, _, _, _, c, _⟩ => (h _ _ _ _ c).elim, fun A outer s H args us vs Q E _ _ _ _ ⟨_, _, _, _, _, _, _, _, _, c, _⟩ => (h _ _ _ _ c).elim⟩
end L3

namespace L3
open PySem L2

/-! ### the mirrors: they answer, and the answer is as told -/
def Yes {α : Type} (o : Option α) (P : α → Prop) : Prop := ∃ a, o = some a ∧ P a
section
variable {α β S R : Type} {o : Option α} {P Q : α → Prop} {i j : Int}
theorem Yes.mono (h : Yes o P) (f : ∀ a, P a → Q a) : Yes o Q := by obtain ⟨a, h1, h2⟩ := h; exact ⟨a, h1, f a h2⟩
theorem y_some {a : α} (h : P a) : Yes (some a) P := ⟨a, rfl, h⟩
theorem y_bind {f : α → Option β} {T : β → Prop} (h : Yes o Q) (k : ∀ a, Q a → Yes (f a) T) : Yes (Option.bind o f) T := by
  obtain ⟨a, rfl, h2⟩ := h
  exact k a h2
theorem y_eq {a : α} {f : α → Option β} {T : β → Prop} (h : o = some a) (k : Yes (f a) T) : Yes (Option.bind o f) T := by
  subst h; exact k
theorem y_if {c : Prop} [Decidable c] {p q : Option α} (h1 : c → Yes p P) (h2 : ¬ c → Yes q P) : Yes (if c then p else q) P := by
  split
  · exact h1 (by assumption)
  · exact h2 (by assumption)
theorem y_and {c : Prop} [Decidable c] {p q : Option α} (h1 : c → p = q) : (if c then p else q) = q := by
  split
  · exact h1 (by assumption)
  · rfl
theorem mulI_l (h1 : -(2 ^ 64) < i) (h2 : i < 2 ^ 64) : mulI i j = some (i * j) := if_pos (Or.inl (Or.inl ⟨h1, h2⟩))
theorem mulI_r (h1 : -(2 ^ 64) < j) (h2 : j < 2 ^ 64) : mulI i j = some (i * j) := if_pos (Or.inl (Or.inr ⟨h1, h2⟩))
theorem mulI_w {a b : Nat} (ha : i.natAbs < 2 ^ a) (hb : j.natAbs < 2 ^ b) (h0 : 0 < a) (h1 : 0 < b) (h : a + b ≤ 1000000) : mulI i j = some (i * j) := if_pos (Or.inr (wide_mul ha hb h0 h1 h))
theorem divI_s (h1 : 0 < j) (h2 : j < 2 ^ 64) : divI i j = some (i / j) := if_pos ⟨h1, by
  have : j.natAbs < 2 ^ 64 := by omega
  have := PySem.Flt.log2_lt_of (by decide) this
  omega⟩
theorem divI_w {b : Nat} (h1 : 0 < j) (hb : j.natAbs < 2 ^ b) (h0 : 0 < b) (h9 : b ≤ 9000) : divI i j = some (i / j) := if_pos (wide_div (i := i) h1 hb h0 h9)
theorem modI_s (h : 0 < j) : modI i j = some (i % j) := if_pos h
theorem room_s {n : Nat} (h : n ≤ 1000000) : room n = some () := if_pos (Nat.lt_of_le_of_lt h (by decide))
theorem small62_s (h1 : -(2 ^ 62) ≤ i) (h2 : i < 2 ^ 62) : small62 i = some () := if_pos ⟨h1, h2⟩
theorem ixL_s {xs : List α} {n : Nat} {a : α} (h : xs[n]? = some a) (hi : i = n) : ixL xs i = some a := by
  subst hi
  unfold ixL atI
  have hl := (List.getElem?_eq_some_iff.mp h).1
  simp [ixN]
  have h2 := (List.getElem?_eq_some_iff.mp h).2
  simp_all
/-- with a number of the item -/
theorem y_foldI (f : S → α → Option S) (I : Nat → S → Prop) {xs : List α} {s : S} (h0 : I 0 s) (hs : ∀ (i : Nat) x s, xs[i]? = some x → I i s → Yes (f s x) (I (i + 1))) : Yes (foldO f s xs) (I xs.length) := by
  induction xs generalizing s I with
  | nil => exact ⟨s, rfl, h0⟩
  | cons x xs ih =>
    obtain ⟨s', h1, h2⟩ := hs 0 x s rfl h0
    unfold foldO
    rw [h1]
    exact ih (fun i => I (i + 1)) h2 fun i y s hy hI => hs (i + 1) y s (by simpa using hy) hI
theorem y_fold (f : S → α → Option S) (I : S → Prop) {xs : List α} {s : S} (h0 : I s) (hs : ∀ x s, x ∈ xs → I s → Yes (f s x) I) : Yes (foldO f s xs) I :=
  y_foldI f (fun _ => I) h0 fun i x s hx hI => hs x s (List.mem_of_getElem? hx) hI
/-- a loop that may return -/
theorem y_loopI (f : S → α → Option (Stp S R)) (I : Nat → S → Prop) (E : Stp S R → Prop) {xs : List α} {s : S} (h0 : I 0 s)
    (hs : ∀ (i : Nat) x s, xs[i]? = some x → I i s → Yes (f s x) fun t => match t with | .nx s' => I (i + 1) s' | t => E t) (hE : ∀ s, I xs.length s → E (.nx s)) : Yes (loopM f s xs) E := by
  induction xs generalizing s I with
  | nil => exact ⟨.nx s, rfl, hE s h0⟩
  | cons x xs ih =>
    obtain ⟨t, h1, h2⟩ := hs 0 x s rfl h0
    unfold loopM
    rw [h1]
    match t, h2 with
    | .nx s', h2 => exact ih (fun i => I (i + 1)) h2 (fun i y s hy hI => hs (i + 1) y s (by simpa using hy) hI) hE
    | .bk s', h2 => exact ⟨_, rfl, h2⟩
    | .rt r, h2 => exact ⟨_, rfl, h2⟩
theorem rng_mem {lo hi : Int} {x : Int} (h : x ∈ rng lo hi) : lo ≤ x ∧ x < hi := by
  obtain ⟨i, hi⟩ := List.getElem?_of_mem h
  obtain ⟨h1, h2⟩ := rng_get hi
  omega
theorem rng_at {lo hi : Int} {i : Nat} {x : Int} (h : (rng lo hi)[i]? = some x) : x = lo + i ∧ lo + i < hi := by
  obtain ⟨h1, h2⟩ := rng_get h
  exact ⟨h2, by omega⟩
theorem y_loopR (f : S → α → Option (Stp S R)) (I : Nat → S → Prop) (E : S ⊕ R → Prop) {xs : List α} {s : S} (h0 : I 0 s)
    (hs : ∀ (i : Nat) x s, xs[i]? = some x → I i s → Yes (f s x) fun t => match t with | .nx s' => I (i + 1) s' | .bk s' => E (.inl s') | .rt r => E (.inr r)) (hE : ∀ s, I xs.length s → E (.inl s)) : Yes (loopR f s xs) E := by
  obtain ⟨t, h1, h2⟩ := y_loopI f I (fun t => match t with | .nx s' => E (.inl s') | .bk s' => E (.inl s') | .rt r => E (.inr r)) h0 (fun i x s hx hI => (hs i x s hx hI).mono fun t ht => by
    cases t <;> exact ht) hE
  unfold loopR
  rw [h1]
  cases t <;> exact ⟨_, rfl, h2⟩
theorem y_loopB (f : S → α → Option (Stp S Empty)) (I : Nat → S → Prop) (E : S → Prop) {xs : List α} {s : S} (h0 : I 0 s)
    (hs : ∀ (i : Nat) x s, xs[i]? = some x → I i s → Yes (f s x) fun t => match t with | .nx s' => I (i + 1) s' | .bk s' => E s' | .rt r => False) (hE : ∀ s, I xs.length s → E s) : Yes (loopB f s xs) E := by
  obtain ⟨t, h1, h2⟩ := y_loopI f I (fun t => match t with | .nx s' => E s' | .bk s' => E s' | .rt r => False) h0 (fun i x s hx hI => (hs i x s hx hI).mono fun t ht => by
    cases t <;> exact ht) hE
  unfold loopB
  rw [h1]
  cases t with
  | nx s => exact ⟨_, rfl, h2⟩
  | bk s => exact ⟨_, rfl, h2⟩
  | rt r => exact h2.elim
end
end L3
namespace L3
open PySem L2
theorem paired_ints {K : Fg} {B : Hp} : ∀ ns : List Int, Paired (rInt.is K B) (ns.map V.int) ns
  | [] => .nil
  | _ :: l => .cons rfl (paired_ints l)
end L3

/-! a generator expression in any, all, sum: what is walked and the element are any -/
namespace L3G
open PySem PySem.Spec PyProof.Rows L2 GxR

structure GSc (sc scope : Scope) : Prop where
  kind : scope.kind = .function
  co : scope.isCoroutine = false
  cell : ∀ y ∈ scope.names, y.2 ≠ .cell
  dot : scope.names.lookup (".0" : Str) = some NameKind.local
  free : ∀ y ∈ scope.names, y.2 = .free → sc.names.lookup y.1 = some .cell ∨ sc.names.lookup y.1 = some .free
def gsB (sc scope : Scope) : Bool :=
  decide (scope.kind = .function) && !scope.isCoroutine && decide (scope.names.lookup (".0" : Str) = some NameKind.local) && scope.names.all fun y => !decide (y.2 = .cell) && (!decide (y.2 = .free) || decide (sc.names.lookup y.1 = some .cell) || decide (sc.names.lookup y.1 = some .free))
theorem gs_by {sc scope : Scope} (h : gsB sc scope = true) : GSc sc scope := by
  unfold gsB at h
  simp only [Bool.and_eq_true, Bool.or_eq_true, Bool.not_eq_true', decide_eq_true_eq, decide_eq_false_iff_not, List.all_eq_true] at h
  obtain ⟨⟨⟨h1, h2⟩, h3⟩, h4⟩ := h
  refine ⟨h1, h2, fun y hy => (h4 y hy).1, h3, fun y hy e => ?_⟩
  rcases (h4 y hy).2 with (z | z) | z
  · exact absurd e z
  · exact .inl z
  · exact .inr z
/-- the slots of the generator's frame: none, or a captured slot -/
def capS (js : List (Option Nat)) (σ : L2.St) : L2.St := js.map fun
  | none => none
  | some j => (σ[j]?).getD none
def capB (N NG : List Str) (scope : Scope) (js : List (Option Nat)) : Bool :=
  decide (js.length = NG.length) && (List.range js.length).all fun i => match js[i]? with
    | some (some j) => (match NG[i]? with
      | some y => decide (N[j]? = some y) && decide (scope.names.lookup y = some .free)
      | none => false)
    | _ => true
theorem capB_at {N NG : List Str} {scope : Scope} {js : List (Option Nat)} (h : capB N NG scope js = true) {σ : L2.St} {i : Nat} {y : Str} {v : V} (hy : NG[i]? = some y) (hv : (capS js σ)[i]? = some (some v)) :
    ∃ j : Nat, N[j]? = some y ∧ σ[j]? = some (some v) ∧ scope.names.lookup y = some .free := by
  unfold capB at h
  rw [Bool.and_eq_true, List.all_eq_true] at h
  unfold capS at hv
  rw [List.getElem?_map] at hv
  cases e : js[i]? with
  | none => rw [e] at hv; cases hv
  | some o =>
    rw [e] at hv
    have hi : i < js.length := (List.getElem?_eq_some_iff.mp e).1
    have q := h.2 i (List.mem_range.mpr hi)
    rw [e, hy] at q
    cases o with
    | none => cases hv
    | some j =>
      have q : (decide (N[j]? = some y) && decide (scope.names.lookup y = some .free)) = true := q
      rw [Bool.and_eq_true, decide_eq_true_eq, decide_eq_true_eq] at q
      refine ⟨j, q.1, ?_, q.2⟩
      have hv : (σ[j]?).getD none = some v := Option.some.inj hv
      cases e2 : σ[j]? with
      | none => rw [e2] at hv; cases hv
      | some u => rw [e2] at hv; exact congrArg some hv
theorem capB_len {N NG : List Str} {scope : Scope} {js : List (Option Nat)} (h : capB N NG scope js = true) : js.length = NG.length := by
  unfold capB at h
  rw [Bool.and_eq_true] at h
  exact of_decide_eq_true h.1

abbrev gEnv (X : Cx) (scope : Scope) (C : Addr) (code : Value) : Env := genEnv scope (cloFrom X.env.cells scope.names []) C code builtinsNs X.env
abbrev gCode (X : Cx) (elt tg iter : Expr) (scope : Scope) (gpos : Pos) (it : Addr) (C : Addr) (code : Value) : Code :=
  .compLoop (.GeneratorExp elt [⟨tg, iter, [], 0⟩] scope gpos) 0 (.ref it) .none (gEnv X scope C code)
abbrev gCode0 (X : Cx) (elt tg iter : Expr) (scope : Scope) (gpos : Pos) (it : Addr) (C : Addr) (code : Value) : Code :=
  .compStart (.GeneratorExp elt [⟨tg, iter, [], 0⟩] scope gpos) 0 (.ref it) .none (gEnv X scope C code)
/-- the Around of the generator's frame -/
abbrev gA (X : Cx) (cenv : Env) : Around := ⟨X.A.handled, X.A.depth + 1, pushEnvs [cenv] X.A.frames, X.A.guards, X.A.units + 5⟩
/-- the context of the generator's frame, made at s -/
abbrev gCx (X : Cx) (s : Shared) (H : Hp) (NG : List Str) (ex : List Addr) (cenv : Env) : Cx where
  prog := X.prog
  w := X.w
  K := X.K
  mg := X.mg
  base := X.base
  A := gA X cenv
  N := NG
  s_0 := s
  H_0 := H
  env := cenv
  outer := X.stack
  stack := cenv :: X.stack
  ex := ex
  fn := fun _ => false
  calm := true
  pn := []
  xe := fun _ _ => False
section
variable {X : Cx} {pins : List (Addr × Obj)} {σ : L2.St} {H : Hp} {s : Shared}
theorem gA_eq (X : Cx) (elt tg iter : Expr) (scope : Scope) (gpos : Pos) (it C : Addr) (code : Value) : X.A.in1.in1.over (gCode X elt tg iter scope gpos it C code) [] = gA X (gEnv X scope C code) := rfl
theorem gA_eq0 (X : Cx) (elt tg iter : Expr) (scope : Scope) (gpos : Pos) (it C : Addr) (code : Value) : X.A.in1.in1.over (gCode0 X elt tg iter scope gpos it C code) [] = gA X (gEnv X scope C code) := rfl
theorem room_g {k : Nat} {cenv : Env} (r : Room (k + 1) X.A) : Room k (gA X cenv) := ⟨r.hd, by have := r.dp; show X.A.depth + 1 + 3 * k + 5 < _; omega, by have := r.un; show X.A.units + 5 + 16 * k + 200 < _; omega⟩
theorem inv_gens {g' : Array GenState} {t' : Nat} (I : Inv X pins σ H s) (hg : AllBare g') : Inv X pins σ H { s with gens := g', toks := t' } :=
  ⟨I.ok, I.os, hg, I.base, I.loc, I.cell, I.free, I.freeC, I.pin, I.hok, I.len⟩
theorem gen_start {NG : List Str} {fp : List Addr} {scope : Scope} {code : Value} {it : Addr} {js : List (Option Nat)} {h₁ : Heap} {g₁ : Array GenState} {tk : Nat} (I : Inv X pins σ H s) (G : GSc X.env.scope scope) (hf : ∀ b ∈ fp, FpOk X pins H b) (hfl : ∀ b ∈ fp, b < s.heap.objs.size) (hd : X.A.handled = none)
    (hns : h₁.Ns s.heap.objs.size fun y => if y = (".0" : Str) then some (.ref it) else none) (kp : ∀ b o, s.heap.get? b = some o → h₁.get? b = some o) (hg : AllBare g₁) (hN : capB X.N NG scope js = true) :
    Inv (gCx X s H NG fp (gEnv X scope s.heap.objs.size code)) [] (capS js σ) H { s with heap := h₁, gens := g₁, toks := tk } := by
  have hfree : ∀ y ∈ scope.names, y.2 = .free → ∃ c, X.env.cells.lookup y.1 = some c := fun y hy e => by
    rcases G.free y hy e with k | k
    · exact I.ok.has _ (.inl k)
    · exact I.ok.has _ (.inr k)
  have cm : ∀ {y c}, (cloFrom X.env.cells scope.names []).lookup y = some c → X.env.cells.lookup y = some c := fun {y c} e => by
    rcases cloFrom_mem (PySem.mem_of_lookup e) with hm | ⟨h1, h2⟩
    · cases hm
    · obtain ⟨c1, hc⟩ := hfree _ h1 rfl
      have hc : X.env.cells.lookup y = some c1 := hc
      have e2 : c = c1 := by
        rw [h2, hc] <;> rfl
      rw [e2]
      exact hc
  have look : ∀ {y}, scope.names.lookup y = some .free → ∃ c, (cloFrom X.env.cells scope.names []).lookup y = some c := fun {y} hl => by
    have hy : (y, NameKind.free) ∈ scope.names := PySem.mem_of_lookup hl
    exact mem_lookup (cloFrom_has (cells := X.env.cells) (acc := []) hy)
  have cellK : ∀ {c : Addr} {v : Option Value}, s.heap.IsCell c v → h₁.IsCell c v := fun {c v} ⟨o, ho, hd⟩ => ⟨o, kp _ _ ho, hd⟩
  refine ⟨⟨I.ok.mod, G.kind, I.ok.glob, rfl, Nat.le_refl _, fun y z c e1 e2 => I.ok.inj y z c (cm e1) (cm e2), fun y hy => ?_, fun y c z _ => ?_, fun _ => hd, ?_, .inr ⟨rfl, rfl⟩, fun b hb => ⟨Nat.ne_of_lt (hfl b hb), fun y c e => (hf b hb).2.2.2.2.1 y c (cm e)⟩, I.bs, Nat.le_trans I.ok.bsz I.sz, fun b o e hb => ?_,
      fun b hb z => ?_, I.stack, I.stkFree⟩,
    rfl, hg, Un.kept kp, ⟨_, hns, fun i y v e1 e2 e3 => ?_⟩, fun y c e => ?_, I.hok.fresh (Nat.le_refl _), fun y c e => I.freeC y c (cm e), fun q hq => absurd (show q ∈ ([] : List (Addr × Obj)) ++ [] from hq) (by simp), I.hok.kept kp, ?_⟩
  · have hy : scope.names.lookup y = some .cell ∨ scope.names.lookup y = some .free := hy
    rcases hy with hy | hy
    · exact absurd rfl (G.cell _ (PySem.mem_of_lookup hy))
    · exact look hy
  · have z : false = true := z
    cases z
  · show pushEnvs [_] X.A.frames = _
    rw [I.ok.frames]
    rfl
  · rcases (hf b hb).2.2.2.1 with z | z
    · exact I.ok.noex b o e z
    · exact absurd (Nat.lt_of_lt_of_le (Heap.lt_size (I.ok.bs b o e).1) z) (Nat.lt_irrefl _)
  · rcases List.mem_cons.mp (I.stkSub b z) with e | e
    · exact (hf b hb).2.1 e
    · exact (hf b hb).2.2.1 e
  · obtain ⟨j, h1, h2, h3⟩ := capB_at hN e1 e2
    obtain ⟨m, hn, hl⟩ := I.loc
    have hfr := G.free _ (PySem.mem_of_lookup h3) rfl
    have hvis : Vis X.env.scope y := hfr.elim (fun k => .inr (.inl k)) (fun k => .inr (.inr k))
    obtain ⟨w', r, q⟩ := hl j y v h1 h2 hvis
    obtain ⟨c2, h4⟩ := look h3
    refine ⟨w', r, .inr ⟨.inr h3, c2, h4, ?_⟩⟩
    have c1 := cm h4
    rcases q with ⟨k', _⟩ | ⟨_, c3, e', z⟩
    · have k' : X.env.scope.names.lookup y = some .local := k'
      rcases hfr with k2 | k2 <;> rw [show X.env.scope.names.lookup y = _ from k2] at k' <;> cases k'
    · rw [c1] at e'
      cases e'
      exact cellK z
  · obtain ⟨w', z⟩ := I.cell y c (cm e)
    exact ⟨w', cellK z⟩
  · show (capS js σ).length = NG.length
    unfold capS
    rw [List.length_map]
    exact capB_len hN
end
/-! ### the run -/
/-- the consumer's own objects -/
def SOk (S : List Addr) (H : Hp) (s : Shared) : Prop := ∀ b ∈ S, H b = none ∧ ∃ o, s.heap.get? b = some o ∧ ∀ v, o.data ≠ .cell v
section
variable (X : Cx) (s0 : Shared) (H0 : Hp) (NG : List Str) (fp : List Addr) (cenv : Env) (a : Addr) (ob : Obj) (S : List Addr) (tn : Nat → Heap → Prop) (N : Nat) (Z : Nat → L2.St → Hp → Prop) (P : Nat → V → L2.St → Hp → Prop) (F : Nat → L2.St → Hp → Prop)
def gR : GenEnd := fun n s₀ r s => r = .ok .next ∧ ∃ i σ H, n + i = N + 1 ∧ F i σ H ∧ Inv (gCx X s0 H0 NG fp cenv) ([(a, ob)] ++ pinsAt S s₀.heap) σ H s
def gY : Protocol := fun n s₀ v s kap => ∃ i y σ H, n + i = N ∧ i < N ∧ RelV y v ∧ P i y σ H ∧ Inv (gCx X s0 H0 NG fp cenv) ([(a, ob)] ++ pinsAt S s₀.heap) σ H s ∧ tn (i + 1) s.heap ∧ (∀ b ∈ fp, H b = none) ∧ (∀ b ∈ S, H b = none) ∧
  ∀ s'' : Shared, Z (i + 1) σ H → Inv (gCx X s0 H0 NG fp cenv) [(a, ob)] σ H s'' → tn (i + 1) s''.heap → SOk S H s'' → kap (.send .none) s''
end
structure GFix (X : Cx) (s0 : Shared) (fp : List Addr) (cenv : Env) (a : Addr) (S : List Addr) : Prop where
  f : ∀ b ∈ fp, b ≠ cenv.locals ∧ b ∉ frs X.stack ∧ (∀ x c, cenv.cells.lookup x = some c → c ≠ b) ∧ b ≠ a ∧ b ∉ S
  s : ∀ b ∈ S, s0.heap.objs.size ≤ b ∧ b ≠ cenv.locals ∧ b ∉ frs X.stack ∧ (∀ x c, cenv.cells.lookup x = some c → c ≠ b) ∧ b ≠ a
section
variable {X : Cx} {s0 : Shared} {H0 : Hp} {NG : List Str} {fp : List Addr} {cenv : Env} {a : Addr} {ob : Obj} {S : List Addr} {tn : Nat → Heap → Prop} {N : Nat} {Z : Nat → L2.St → Hp → Prop} {P : Nat → V → L2.St → Hp → Prop} {F : Nat → L2.St → Hp → Prop}
theorem seg_loop {elt tg iter : Expr} {scope : Scope} {gpos : Pos} {it C : Addr} {code : Value} {J : It} {g : TG} {te : TE} (hce : cenv = gEnv X scope C code) (hco : scope.isCoroutine = false) (fx : GFix X s0 fp cenv a S)
    (T : Turn X.prog X.w X.K tg J fp it tn) (hg : PG (gCx X s0 H0 NG fp cenv) tg g) (he : PE (gCx X s0 H0 NG fp cenv) elt te)
    (turn : ∀ i σ H, Z i σ H → (J.stop i H ∧ F i σ H) ∨ (J.go i H ∧ i < N ∧ ∀ x H2, J.yld i H x H2 → g x σ H2 fun σ2 H3 => te σ2 H3 fun y H4 => P i y σ2 H4)) :
    ∀ (k i : Nat) (s : Shared) (σ : L2.St) (H : Hp), N - i = k → i ≤ N → Z i σ H → Inv (gCx X s0 H0 NG fp cenv) [(a, ob)] σ H s → tn i s.heap → (∀ b ∈ fp, H b = none) → SOk S H s →
      Seg (model X.prog X.w) X.A.in1.in1 (gR X s0 H0 NG fp cenv a ob S N F) (gY X s0 H0 NG fp cenv a ob S tn N Z P) (N + 1 - i) s (gCode X elt tg iter scope gpos it C code) ((model X.prog X.w).den (gCode X elt tg iter scope gpos it C code)) [] s := by
  subst hce
  intro k
  induction k with
  | zero =>
    intro i s σ H hk hi hZ I st fr so
    have fS : ∀ b ∈ S, FpOk (gCx X s0 H0 NG fp (gEnv X scope C code)) [(a, ob)] H b := fun b hb => ⟨(so b hb).1, (fx.s b hb).2.1, (fx.s b hb).2.2.1, .inr (fx.s b hb).1, (fx.s b hb).2.2.2.1, fun p hp => by
      have hp : p ∈ [(a, ob)] := hp
      rw [List.mem_singleton.mp hp]; exact Ne.symm (fx.s b hb).2.2.2.2⟩
    have I1 := I.pinned fS fun b hb => (so b hb).2
    have fF : ∀ {H' : Hp}, (∀ b ∈ fp, H' b = none) → ∀ b ∈ fp, FpOk (gCx X s0 H0 NG fp (gEnv X scope C code)) ([(a, ob)] ++ pinsAt S s.heap) H' b := fun hn b hb => ⟨hn b hb, (fx.f b hb).1, (fx.f b hb).2.1, .inl hb, (fx.f b hb).2.2.1, fun p hp => by
      have hp : p ∈ [(a, ob)] ++ pinsAt S s.heap := hp
      rcases List.mem_append.mp hp with hp | hp
      · rw [List.mem_singleton.mp hp]; exact Ne.symm (fx.f b hb).2.2.2.1
      · exact fun z => (fx.f b hb).2.2.2.2 (by rw [← z]; exact (of_pinsAt hp).1)⟩
    show Seg _ X.A.in1.in1 _ _ _ s _ ((compTurn (.GeneratorExp elt [⟨tg, iter, [], 0⟩] scope gpos) 0 (.ref it) .none (gEnv X scope C code)).onRaise (leaving (gEnv X scope C code))) [] s
    rw [compTurn_gen, Sem.onRaise_eq_wrap]
    refine seg_bind_wrap (wpAny_standAt ?_)
    rcases turn i σ H hZ with ⟨stop, hF⟩ | ⟨_, hlt, _⟩
    · refine seg_bind_wrap (thn (T.done (gCx X s0 H0 NG fp (gEnv X scope C code)) rfl rfl rfl rfl i _ s σ H _ I1 (fF fr) st stop) fun r s1 ⟨hr, J1⟩ => ?_)
      subst hr
      exact seg_end (.ok .next) ⟨rfl, i, σ, H, by omega, hF, J1⟩
    · omega
  | succ k ih =>
    intro i s σ H hk hi hZ I st fr so
    have fS : ∀ b ∈ S, FpOk (gCx X s0 H0 NG fp (gEnv X scope C code)) [(a, ob)] H b := fun b hb => ⟨(so b hb).1, (fx.s b hb).2.1, (fx.s b hb).2.2.1, .inr (fx.s b hb).1, (fx.s b hb).2.2.2.1, fun p hp => by
      have hp : p ∈ [(a, ob)] := hp
      rw [List.mem_singleton.mp hp]; exact Ne.symm (fx.s b hb).2.2.2.2⟩
    have I1 := I.pinned fS fun b hb => (so b hb).2
    have fF : ∀ {H' : Hp}, (∀ b ∈ fp, H' b = none) → ∀ b ∈ fp, FpOk (gCx X s0 H0 NG fp (gEnv X scope C code)) ([(a, ob)] ++ pinsAt S s.heap) H' b := fun hn b hb => ⟨hn b hb, (fx.f b hb).1, (fx.f b hb).2.1, .inl hb, (fx.f b hb).2.2.1, fun p hp => by
      have hp : p ∈ [(a, ob)] ++ pinsAt S s.heap := hp
      rcases List.mem_append.mp hp with hp | hp
      · rw [List.mem_singleton.mp hp]; exact Ne.symm (fx.f b hb).2.2.2.1
      · exact fun z => (fx.f b hb).2.2.2.2 (by rw [← z]; exact (of_pinsAt hp).1)⟩
    show Seg _ X.A.in1.in1 _ _ _ s _ ((compTurn (.GeneratorExp elt [⟨tg, iter, [], 0⟩] scope gpos) 0 (.ref it) .none (gEnv X scope C code)).onRaise (leaving (gEnv X scope C code))) [] s
    rw [compTurn_gen, Sem.onRaise_eq_wrap]
    refine seg_bind_wrap (wpAny_standAt ?_)
    rcases turn i σ H hZ with ⟨stop, hF⟩ | ⟨go, hlt, step⟩
    · refine seg_bind_wrap (thn (T.done (gCx X s0 H0 NG fp (gEnv X scope C code)) rfl rfl rfl rfl i _ s σ H _ I1 (fF fr) st stop) fun r s1 ⟨hr, J1⟩ => ?_)
      subst hr
      exact seg_end (.ok .next) ⟨rfl, i, σ, H, by omega, hF, J1⟩
    · refine seg_bind_wrap (thn (T.item (gCx X s0 H0 NG fp (gEnv X scope C code)) rfl rfl rfl rfl i _ s σ H _ I1 (fF fr) st go) fun r s1 ⟨u, hr, h1⟩ => ?_)
      subst hr
      refine seg_bind_wrap (thn h1 fun _ s2 ⟨x, H2, I2, r2, y2, st2, fr2⟩ => ?_)
      have I2' := I2.pinned (fF fr2) (T.obj _ _ st2)
      refine seg_bind_wrap (wpAny_mono (hg.run _ s2 σ H2 x u _ I2' r2 (step x H2 y2)) (fun _ s3 ⟨σ3, H3, I3, q3⟩ => ?_) fun _ _ z => z.elim)
      simp only [List.forIn_nil]
      refine seg_bind_wrap (wpAny_pure ?_)
      simp only [if_true]
      have hy : ∀ v, yieldOut (gEnv X scope C code) v = yieldValue v := fun v => by
        show (if scope.isCoroutine = true then _ else _) = _
        simp only [hco, Bool.false_eq_true, if_false]
      simp only [hy]
      rw [Sem.bind_eq_wrap', Sem.bind_eq_wrap', Sem.wrap_wrap, Sem.wrap_wrap]
      refine seg_wrap (wpAny_mono (he.run _ s3 σ3 H3 _ I3 q3) (fun v s4 ⟨y, H4, I4, r4, q4⟩ => ?_) fun _ _ z => z.elim)
      have en : N + 1 - i = (N + 1 - (i + 1)) + 1 := by omega
      rw [en]
      have pinF : ∀ b ∈ fp, ∃ o, s2.heap.get? b = some o ∧ s4.heap.get? b = some o ∧ H4 b = none := fun b hb => by
        obtain ⟨o, e, d⟩ := T.obj _ _ st2 b hb
        have := I4.pin (b, o) (List.mem_append_right _ (List.mem_append_right _ (mem_pinsAt hb e)))
        exact ⟨o, e, this.1, this.2.1⟩
      have st4 : tn (i + 1) s4.heap := T.keep _ _ _ st2 fun b hb o e => by
        obtain ⟨o', e1, e2, _⟩ := pinF b hb
        rw [e] at e1; cases e1
        exact e2
      have fr4 : ∀ b ∈ fp, H4 b = none := fun b hb => (pinF b hb).elim fun _ h => h.2.2
      have fS4 : ∀ b ∈ S, H4 b = none := fun b hb => by
        obtain ⟨_, o, e, _⟩ := so b hb
        exact (I4.pin (b, o) (List.mem_append_right _ (List.mem_append_left _ (List.mem_append_right _ (mem_pinsAt hb e))))).2.1
      refine seg_at (seg_yield rfl rfl rfl ⟨i, y, σ3, H4, by omega, hlt, r4, q4, I4.unpinned, st4, fr4, fS4, fun s'' z1 z2 z3 z4 => ?_⟩)
      exact seg_again rfl (ih (i + 1) s'' σ3 H4 (by omega) hlt z1 z2 z3 fr4 z4)
theorem seg_start {elt tg iter : Expr} {scope : Scope} {gpos : Pos} {it C : Addr} {code : Value} {J : It} {g : TG} {te : TE} (hce : cenv = gEnv X scope C code) (hco : scope.isCoroutine = false) (fx : GFix X s0 fp cenv a S)
    (T : Turn X.prog X.w X.K tg J fp it tn) (hg : PG (gCx X s0 H0 NG fp cenv) tg g) (he : PE (gCx X s0 H0 NG fp cenv) elt te)
    (turn : ∀ i σ H, Z i σ H → (J.stop i H ∧ F i σ H) ∨ (J.go i H ∧ i < N ∧ ∀ x H2, J.yld i H x H2 → g x σ H2 fun σ2 H3 => te σ2 H3 fun y H4 => P i y σ2 H4))
    (s : Shared) (σ : L2.St) (H : Hp) (hZ : Z 0 σ H) (I : Inv (gCx X s0 H0 NG fp cenv) [(a, ob)] σ H s) (st : tn 0 s.heap) (fr : ∀ b ∈ fp, H b = none) (so : SOk S H s) :
      Seg (model X.prog X.w) X.A.in1.in1 (gR X s0 H0 NG fp cenv a ob S N F) (gY X s0 H0 NG fp cenv a ob S tn N Z P) (N + 1) s (gCode0 X elt tg iter scope gpos it C code) ((model X.prog X.w).den (gCode0 X elt tg iter scope gpos it C code)) [] s := by
  have loop := seg_loop (elt := elt) (tg := tg) (iter := iter) (gpos := gpos) (it := it) hce hco fx T hg he turn N 0 s σ H rfl (Nat.zero_le _) hZ I st fr so
  show Seg _ X.A.in1.in1 _ _ _ s _ ((compStart (.GeneratorExp elt [⟨tg, iter, [], 0⟩] scope gpos) 0 (.ref it) .none (gEnv X scope C code)).onRaise (leaving (gEnv X scope C code))) [] s
  unfold compStart
  rw [Sem.onRaise_eq_wrap]
  show Seg _ X.A.in1.in1 _ _ _ s _ ((ask >>= _).wrap _ _ _ _) [] s
  refine seg_bind_wrap (wpAny_askSetting ?_)
  split
  · exact seg_again rfl loop
  · first
      | exact seg_bind_wrap (wpAny_rule (seg_bind_wrap (wpAny_standAt (seg_bind_wrap (T.self _ 0 s _ _ st (seg_again rfl loop))))))
      | (refine seg_bind_wrap (wpAny_rule ?_); show Seg _ X.A.in1.in1 _ _ _ s _ ((standAt iter.pos >>= _).wrap _ _ _ _) [] s; exact seg_bind_wrap (wpAny_standAt (seg_bind_wrap (T.self _ 0 s _ _ st (seg_again rfl loop)))))
end
theorem bare_set {gens : Array GenState} {g : Nat} {x : GenState} (h : AllBare gens) (hx : x.bare = true) : AllBare (gens.setIfInBounds g x) := fun y hy => by
  rcases Array.mem_or_eq_of_mem_setIfInBounds hy with h1 | h1
  · exact h y h1
  · rw [h1]; exact hx
section
variable (X : Cx) (s0 : Shared) (H0 : Hp) (NG : List Str) (fp : List Addr) (cenv : Env) (a : Addr) (ob : Obj) (g : Nat) (S : List Addr) (tn : Nat → Heap → Prop) (N : Nat) (Z : Nat → L2.St → Hp → Prop) (P : Nat → V → L2.St → Hp → Prop) (F : Nat → L2.St → Hp → Prop)
/-- the generator sleeps at turn i -/
def GenSt (i : Nat) (s : Shared) : Prop := ∃ σ H, i ≤ N ∧ Z i σ H ∧ Inv (gCx X s0 H0 NG fp cenv) [(a, ob)] σ H s ∧ tn i s.heap ∧ (∀ b ∈ fp, H b = none) ∧ SOk S H s ∧ ∃ gs, s.gens[g]? = some gs ∧
  ∀ s'' : Shared, Inv (gCx X s0 H0 NG fp cenv) [(a, ob)] σ H s'' → tn i s''.heap → SOk S H s'' → gs.Goes (model X.prog X.w) X.A.in1.in1 (gR X s0 H0 NG fp cenv a ob S N F) (gY X s0 H0 NG fp cenv a ob S tn N Z P) (N + 1 - i) (.send .none) s''
def GenNext (i : Nat) (s : Shared) (r : Option Value) (s' : Shared) : Prop :=
  (r = none ∧ ∃ σ H, F i σ H ∧ Inv (gCx X s0 H0 NG fp cenv) [(a, ob)] σ H s' ∧ SOk S H s' ∧ ∀ b ∈ S, s'.heap.get? b = s.heap.get? b) ∨
  ∃ v y σ H, r = some v ∧ i < N ∧ RelV y v ∧ P i y σ H ∧ Inv (gCx X s0 H0 NG fp cenv) [(a, ob)] σ H s' ∧ SOk S H s' ∧ (∀ b ∈ S, s'.heap.get? b = s.heap.get? b) ∧
    (Z (i + 1) σ H → ∀ s'' : Shared, Inv (gCx X s0 H0 NG fp cenv) [(a, ob)] σ H s'' → (∀ b ∈ fp, s''.heap.get? b = s'.heap.get? b) → SOk S H s'' → s''.gens = s'.gens → GenSt X s0 H0 NG fp cenv a ob g S tn N Z P F (i + 1) s'')
end
section
variable {X : Cx} {s0 : Shared} {H0 : Hp} {NG : List Str} {fp : List Addr} {cenv : Env} {a : Addr} {ob : Obj} {g : Nat} {S : List Addr} {tn : Nat → Heap → Prop} {N : Nat} {Z : Nat → L2.St → Hp → Prop} {P : Nat → V → L2.St → Hp → Prop} {F : Nat → L2.St → Hp → Prop}
theorem gen_next {tg : Expr} {J : It} {it : Addr} (T : Turn X.prog X.w X.K tg J fp it tn) (hob : ∀ h : Heap, h.get? a = some ob → h.IsGen a g) (hd : X.A.handled = none) (hroom : X.A.depth < recursionLimit) {i : Nat} {s : Shared} {E : Value → Shared → Prop}
    (h : GenSt X s0 H0 NG fp cenv a ob g S tn N Z P F i s) : wpAny (model X.prog X.w) X.A.in1 (pyNext (.ref a)) (GenNext X s0 H0 NG fp cenv a ob g S tn N Z P F i s) E s := by
  obtain ⟨σ, H, hi, hZ, I, st, fr, so, gs, hgs, hgo⟩ := h
  have pa := I.pin (a, ob) (List.mem_append_right _ (List.mem_singleton.mpr rfl))
  have hbs : AllBare (s.setGen g .running).gens := bare_set I.bare rfl
  have hgl : g < s.gens.size := (Array.getElem?_eq_some_iff.mp hgs).1
  refine GenW.wpAny_gsz (n := g + 1) hgl ?_
  refine wpAny_pyNext_genexpQ (P := fun n s₀ s => ∃ i σ H, n + i = N + 1 ∧ F i σ H ∧ Inv (gCx X s0 H0 NG fp cenv) ([(a, ob)] ++ pinsAt S s₀.heap) σ H s) hd I.nolimit hroom (hob _ pa.1) hgs (hgo _ (inv_gens (t' := s.toks) I hbs) st so) (fun v s₁ gs' hb hv => ?_) (fun s₁ hp h' hk => ?_)
  · intro hsz
    obtain ⟨i', y, σ2, H2, e1, hlt, rv, hP, I2, st2, fr2, fS2, kap⟩ := hv
    have ei : i' = i := by omega
    subst ei
    have pS : ∀ b ∈ S, ∃ o, s.heap.get? b = some o ∧ s₁.heap.get? b = some o ∧ ∀ v, o.data ≠ .cell v := fun b hb => by
      obtain ⟨_, o, e, d⟩ := so b hb
      exact ⟨o, e, (I2.pin (b, o) (List.mem_append_right _ (List.mem_append_right _ (mem_pinsAt hb e)))).1, d⟩
    have hb2 : AllBare (s₁.setGen g gs').gens := bare_set I2.bare hb
    refine .inr ⟨v, y, σ2, H2, rfl, hlt, rv, hP, inv_gens (t' := s₁.toks) I2.unpinned hb2, fun b hb => ⟨fS2 b hb, (pS b hb).elim fun o h => ⟨o, h.2.1, h.2.2⟩⟩, fun b hb => ?_, fun hZ2 s'' J1 kf so2 eg => ?_⟩
    · obtain ⟨o, e, e2, _⟩ := pS b hb
      exact e2.trans e.symm
    · have stn : tn (i' + 1) s''.heap := T.keep _ _ _ st2 fun b hb o e => (kf b hb).trans e
      refine ⟨σ2, H2, hlt, hZ2, J1, stn, fr2, so2, gs', ?_, fun s3 J3 st3 so3 => ?_⟩
      · rw [eg]
        exact L2.setGen_at (by
          have q : (s₁.setGen g gs').gens.size = s₁.gens.size := GenW.setGen_size _ _ _
          have hsz' : g + 1 ≤ (s₁.setGen g gs').gens.size := hsz
          omega)
      · have e3 : N + 1 - i' = (N + 1 - (i' + 1)) + 1 := by omega
        have := kap s3 hZ2 J3 st3 so3
        rw [e3] at this
        exact this
  · intro _
    obtain ⟨i', σ2, H2, e1, hF, I2⟩ := hp
    have ei : i' = i := by omega
    subst ei
    have pS : ∀ b ∈ S, ∃ o, s.heap.get? b = some o ∧ s₁.heap.get? b = some o ∧ (∀ v, o.data ≠ .cell v) ∧ H2 b = none := fun b hb => by
      obtain ⟨_, o, e, d⟩ := so b hb
      have p := I2.pin (b, o) (List.mem_append_right _ (List.mem_append_right _ (mem_pinsAt hb e)))
      exact ⟨o, e, p.1, d, p.2.1⟩
    have hb2 : AllBare (s₁.setGen g .finished).gens := bare_set I2.bare rfl
    have J1 := (inv_gens (t' := s₁.toks) I2.unpinned hb2).kept (t' := s₁.toks) hk
    refine .inl ⟨rfl, σ2, H2, hF, J1, fun b hb => ⟨(pS b hb).elim fun _ h => h.2.2.2, (pS b hb).elim fun o h => ⟨o, hk _ _ h.2.1, h.2.2.1⟩⟩, fun b hb => ?_⟩
    obtain ⟨o, e, e2, _⟩ := pS b hb
    exact (hk _ _ e2).trans e.symm
theorem all_loop {tg : Expr} {J : It} {it : Addr} {Q : VK} (T : Turn X.prog X.w X.K tg J fp it tn) (hob : ∀ h : Heap, h.get? a = some ob → h.IsGen a g) (hd : X.A.handled = none) (hroom : X.A.depth < recursionLimit) : ∀ (k i : Nat) (s : Shared), N - i = k →
    GenSt X s0 H0 NG fp cenv a ob g [] tn N Z (fun i y σ H => (y = .bl true ∧ Z (i + 1) σ H) ∨ (y = .bl false ∧ Q (.bl false) H)) (fun _ _ H => Q (.bl true) H) i s →
    codeAny (model X.prog X.w) X.A (.builtin "all.loop" ⟨[.ref a], []⟩) (fun r s' => ∃ b σ H, r = .ok (.ret (.bool b)) ∧ Inv (gCx X s0 H0 NG fp cenv) [(a, ob)] σ H s' ∧ Q (.bl b) H) s := by
  intro k
  induction k with
  | zero =>
    intro i s hk h
    refine codeAny_builtin F.entry_all_loop ?_
    rw [Around.under_plainId F.plain_all_loop _]
    show wpAny _ X.A.in1 (pyNext (.ref a) >>= _) _ _ s
    refine wpAny_bind (thn (gen_next T hob hd hroom h) fun r s' hn => ?_)
    rcases hn with ⟨rfl, σ, H, hF, I, _⟩ | ⟨v, y, σ, H, rfl, hlt, _⟩
    · exact wpAny_bind (wpAny_rule (wpAny_pure ⟨true, σ, H, rfl, I, hF⟩))
    · omega
  | succ k ih =>
    intro i s hk h
    refine codeAny_builtin F.entry_all_loop ?_
    rw [Around.under_plainId F.plain_all_loop _]
    show wpAny _ X.A.in1 (pyNext (.ref a) >>= _) _ _ s
    refine wpAny_bind (thn (gen_next T hob hd hroom h) fun r s' hn => ?_)
    rcases hn with ⟨rfl, σ, H, hF, I, _⟩ | ⟨v, y, σ, H, rfl, hlt, rv, hP, I, so, _, next⟩
    · exact wpAny_bind (wpAny_rule (wpAny_pure ⟨true, σ, H, rfl, I, hF⟩))
    · rcases hP with ⟨rfl, hZ⟩ | ⟨rfl, hQ⟩
      · obtain rfl : v = .bool true := rv
        refine wpAny_bind (wpAny_holding (wpAny_truthy_bool ?_))
        refine wpAny_bind (wpAny_letGo ?_)
        simp only [if_true]
        exact wpAny_pure ⟨plainId_quiet F.plain_all_loop _, ih (i + 1) _ (by omega) (next hZ s' I (fun _ _ => rfl) so rfl)⟩
      · obtain rfl : v = .bool false := rv
        refine wpAny_bind (wpAny_holding (wpAny_truthy_bool ?_))
        refine wpAny_bind (wpAny_letGo ?_)
        simp only [Bool.false_eq_true, if_false]
        exact wpAny_bind (wpAny_rule (wpAny_pure ⟨false, σ, H, rfl, I, hQ⟩))
theorem any_loop {tg : Expr} {J : It} {it : Addr} {Q : VK} (T : Turn X.prog X.w X.K tg J fp it tn) (hob : ∀ h : Heap, h.get? a = some ob → h.IsGen a g) (hd : X.A.handled = none) (hroom : X.A.depth < recursionLimit) : ∀ (k i : Nat) (s : Shared), N - i = k →
    GenSt X s0 H0 NG fp cenv a ob g [] tn N Z (fun i y σ H => (y = .bl false ∧ Z (i + 1) σ H) ∨ (y = .bl true ∧ Q (.bl true) H)) (fun _ _ H => Q (.bl false) H) i s →
    codeAny (model X.prog X.w) X.A (.builtin "any.loop" ⟨[.ref a], []⟩) (fun r s' => ∃ b σ H, r = .ok (.ret (.bool b)) ∧ Inv (gCx X s0 H0 NG fp cenv) [(a, ob)] σ H s' ∧ Q (.bl b) H) s := by
  intro k
  induction k with
  | zero =>
    intro i s hk h
    refine codeAny_builtin F.entry_any_loop ?_
    rw [Around.under_plainId F.plain_any_loop _]
    show wpAny _ X.A.in1 (pyNext (.ref a) >>= _) _ _ s
    refine wpAny_bind (thn (gen_next T hob hd hroom h) fun r s' hn => ?_)
    rcases hn with ⟨rfl, σ, H, hF, I, _⟩ | ⟨v, y, σ, H, rfl, hlt, _⟩
    · exact wpAny_bind (wpAny_rule (wpAny_pure ⟨false, σ, H, rfl, I, hF⟩))
    · omega
  | succ k ih =>
    intro i s hk h
    refine codeAny_builtin F.entry_any_loop ?_
    rw [Around.under_plainId F.plain_any_loop _]
    show wpAny _ X.A.in1 (pyNext (.ref a) >>= _) _ _ s
    refine wpAny_bind (thn (gen_next T hob hd hroom h) fun r s' hn => ?_)
    rcases hn with ⟨rfl, σ, H, hF, I, _⟩ | ⟨v, y, σ, H, rfl, hlt, rv, hP, I, so, _, next⟩
    · exact wpAny_bind (wpAny_rule (wpAny_pure ⟨false, σ, H, rfl, I, hF⟩))
    · rcases hP with ⟨rfl, hZ⟩ | ⟨rfl, hQ⟩
      · obtain rfl : v = .bool false := rv
        refine wpAny_bind (wpAny_holding (wpAny_truthy_bool ?_))
        refine wpAny_bind (wpAny_letGo ?_)
        simp only [Bool.false_eq_true, if_false]
        exact wpAny_pure ⟨plainId_quiet F.plain_any_loop _, ih (i + 1) _ (by omega) (next hZ s' I (fun _ _ => rfl) so rfl)⟩
      · obtain rfl : v = .bool true := rv
        refine wpAny_bind (wpAny_holding (wpAny_truthy_bool ?_))
        refine wpAny_bind (wpAny_letGo ?_)
        simp only [if_true]
        exact wpAny_bind (wpAny_rule (wpAny_pure ⟨true, σ, H, rfl, I, hQ⟩))
/-- the sum so far stands in the list at S -/
theorem sum_loop {tg : Expr} {J : It} {it : Addr} {Q : VK} {S : Addr} {vals : List Int} (hfp : ∀ b ∈ fp, b ≠ S) (hSa : S ≠ a) (T : Turn X.prog X.w X.K tg J fp it tn) (hob : ∀ h : Heap, h.get? a = some ob → h.IsGen a g) (hd : X.A.handled = none) (hroom : X.A.depth < recursionLimit)
    (hS : s0.heap.objs.size ≤ S ∧ S ≠ cenv.locals ∧ S ∉ frs X.stack ∧ (∀ x c, cenv.cells.lookup x = some c → c ≠ S))
    (hfit : ∀ j v, vals[j]? = some v → InLong v ∧ InLong ((vals.take j).sum + v)) : ∀ (k i : Nat) (s : Shared) (tA : Tok) (c : Nat), N - i = k →
    GenSt X s0 H0 NG fp cenv a ob g [S] tn N Z (fun i y σ H => ∃ v, vals[i]? = some v ∧ y = .int v ∧ Z (i + 1) σ H) (fun i _ H => i = vals.length ∧ Q (.int vals.sum) H) i s → s.heap.get? S = some { cls := .type "list", dict := none, data := .seq #[.int (vals.take i).sum tA] c, slots := #[] } →
    codeAny (model X.prog X.w) X.A (.builtin "sum.loop" ⟨[.ref a, .ref S, rawInt 0, rawInt 0], []⟩) (fun r s' => ∃ t σ H, r = .ok (.ret (.int vals.sum t)) ∧ Inv (gCx X s0 H0 NG fp cenv) [(a, ob)] σ H s' ∧ Q (.int vals.sum) H) s := by
  intro k
  have fin : ∀ (i : Nat) (tA : Tok), i = vals.length → (vals.take i).sum = vals.sum := fun i _ e => by rw [e, List.take_length]
  induction k with
  | zero =>
    intro i s tA c hk h hs
    refine codeAny_builtin F.entry_sum_loop ?_
    rw [Around.under_plainId F.plain_sum_loop _]
    show wpAny _ X.A.in1 (seqItems? (.ref S) >>= _) _ _ s
    refine wpAny_bind (wpAny_seqItems hs rfl ?_)
    show wpAny _ X.A.in1 (tryCatch (pyNext (.ref a)) _ >>= _) _ _ s
    refine wpAny_bind (wpAny_tryCatch (thn (gen_next T hob hd hroom h) fun r s' hn => ?_))
    rcases hn with ⟨rfl, σ, H, ⟨e, hF⟩, I, _⟩ | ⟨v, y, σ, H, rfl, hlt, _⟩
    · exact wpAny_pure ⟨tA, σ, H, by rw [← fin i tA e]; rfl, I, hF⟩
    · omega
  | succ k ih =>
    intro i s tA c hk h hs
    refine codeAny_builtin F.entry_sum_loop ?_
    rw [Around.under_plainId F.plain_sum_loop _]
    show wpAny _ X.A.in1 (seqItems? (.ref S) >>= _) _ _ s
    refine wpAny_bind (wpAny_seqItems hs rfl ?_)
    show wpAny _ X.A.in1 (tryCatch (pyNext (.ref a)) _ >>= _) _ _ s
    refine wpAny_bind (wpAny_tryCatch (thn (gen_next T hob hd hroom h) fun r s' hn => ?_))
    rcases hn with ⟨rfl, σ, H, ⟨e, hF⟩, I, _⟩ | ⟨v, y, σ, H, rfl, hlt, rv, ⟨z, hz, rfl, hZ⟩, I, so, same, next⟩
    · exact wpAny_pure ⟨tA, σ, H, by rw [← fin i tA e]; rfl, I, hF⟩
    · obtain ⟨t, rfl⟩ := _root_.id rv
      have hS' : s'.heap.get? S = some { cls := .type "list", dict := none, data := .seq #[.int (vals.take i).sum tA] c, slots := #[] } := (same S (List.mem_singleton.mpr rfl)).trans hs
      obtain ⟨⟨f1, f2⟩, f3, f4⟩ := hfit i z hz
      have hc : ((decide (-(2 ^ 63) ≤ z) && decide (z < 2 ^ 63)) && (decide (-(2 ^ 63) ≤ (vals.take i).sum + z) && decide ((vals.take i).sum + z < 2 ^ 63))) = true := by
        simp only [Bool.and_eq_true, decide_eq_true_eq]
        exact ⟨⟨f1, f2⟩, f3, f4⟩
      have es : (vals.take (i + 1)).sum = (vals.take i).sum + z := by
        rw [List.take_succ, hz]; simp
      show wpAny _ X.A.in1 (if (_ : Bool) = true then (mkInt ((vals.take i).sum + z) >>= _) else _) _ _ _
      split
      · refine wpAny_bind (wpAny_mkInt ?_)
        show wpAny _ X.A.in1 (updateSeq S (fun _ => #[.int ((vals.take i).sum + z) s'.toks]) >>= _) _ _ _
        refine wpAny_bind ?_
        refine wpAny_updateSeq hS' rfl (wpAny_pure ⟨plainId_quiet F.plain_sum_loop _, ih (i + 1) _ s'.toks _ (by omega) (next hZ _ ?_ (fun b hb => ?_) ?_ rfl) (by rw [es]; exact Heap.get?_update_self _ hS' rfl)⟩)
        · refine (inv_gens (t' := s'.toks + 1) I I.bare).turned (it := S) (fun b o hb e => (Heap.get?_update_other _ _ (Ne.symm hb)).trans e) (so S (List.mem_singleton.mpr rfl)).1 hS.2.1 (.inr hS.1) hS.2.2.2 fun p hp => ?_
          have hp : p ∈ [(a, ob)] := hp
          rw [List.mem_singleton.mp hp]
          exact Ne.symm hSa
        · exact Heap.get?_update_other _ _ (Ne.symm (hfp b hb))
        · intro b hb
          rw [List.mem_singleton.mp hb]
          exact ⟨(so S (List.mem_singleton.mpr rfl)).1, _, Heap.get?_update_self _ hS' rfl, fun v e => by cases e⟩
      · rename_i hn
        exact absurd hc hn
end
/-! ### the making -/
/-- a generator has been made: a, at s5; H3 is what is held from then on -/
def Made (X : Cx) (pins : List (Addr × Obj)) (σ : L2.St) (NG : List Str) (js : List (Option Nat)) (elt tg iter : Expr) (scope : Scope) (gpos : Pos) (J : It) (H3 : Hp) (a : Addr) (s5 : Shared) : Prop :=
  ∃ (s3 : Shared) (it : Addr) (fp : List Addr) (tn : Nat → Heap → Prop) (C : Addr) (code : Value) (ob : Obj) (g : Nat), Inv X pins σ H3 s3 ∧ Turn X.prog X.w X.K tg J fp it tn ∧ tn 0 s5.heap ∧ (∀ b ∈ fp, FpOk X pins H3 b) ∧ (∀ b ∈ fp, b < s3.heap.objs.size) ∧ C = s3.heap.objs.size ∧ C < a ∧
    Inv (gCx X s3 H3 NG fp (gEnv X scope C code)) [(a, ob)] (capS js σ) H3 s5 ∧ s5.gens[g]? = some (.fresh (gCode0 X elt tg iter scope gpos it C code)) ∧ (∀ h : Heap, h.get? a = some ob → h.IsGen a g)
section
variable {X : Cx} {pins : List (Addr × Obj)} {σ : L2.St} {H : Hp} {s : Shared}
theorem gen_make {c P : Addr} {elt tg iter : Expr} {gpos : Pos} {scope : Scope} {NG : List Str} {js : List (Option Nat)} {wi : TI} {k : Nat} {Q' : Value → Shared → Prop} {R : It → Hp → Prop}
    (hr : Room k X.A) (TB : TabB X.base X.mg c P) (hcode : X.env.code = .ref c) (G : GSc X.env.scope scope) (hi : PI X tg iter wi) (hN : capB X.N NG scope js = true)
    (hs : ∀ v, genFold iter X.env v = pure v) (I : Inv X pins σ H s) (h : wi σ H fun J H1 => TabG H1 P ∧ R J H1)
    (hQ : ∀ J H1 H3 a s5, Tabbed P H1 H3 → R J H1 → Made X pins σ NG js elt tg iter scope gpos J H3 a s5 → Q' (.ref a) s5) :
    wpAny (model X.prog X.w) X.A (eval (.GeneratorExp elt [⟨tg, iter, [], 0⟩] scope gpos) X.env) Q' X.xe s := by
  have hfree : ∀ y ∈ scope.names, y.2 = .free → ∃ c, X.env.cells.lookup y.1 = some c := fun y hy e => by
    rcases G.free y hy e with k | k
    · exact I.ok.has _ (.inl k)
    · exact I.ok.has _ (.inr k)
  refine wpAny_GeneratorExp_make G.co (closure_ok hfree) G.cell G.dot G.kind (by have := hr.dp; omega) ?_ hs
  refine thn (hi.run pins s σ H _ I h) fun xv s1 h1 => thn h1 fun itv s2 h2 => ?_
  obtain ⟨it, fp, tn, J, H2, rfl, I2, T, st2, f2, ⟨ps, hP, ht⟩, hR⟩ := h2
  have hPs : s2.heap.get? P = some { cls := .none, data := .fields ps } := I2.hok P _ hP
  have cd : PySem.W.CodeHd s2.heap c P := TB.code.keeps I2.bk
  refine ⟨I2.nolimit, ?_⟩
  have cont : ∀ (code : Value) (h3 : Heap) (tk : Nat) (more : Array Value), (∀ b o, b ≠ P → s2.heap.get? b = some o → h3.get? b = some o) → h3.get? P = some { cls := .none, data := .fields (ps ++ more) } → TriplesOk (ps ++ more).toList →
      wpAny (model X.prog X.w) X.A (builtinsFor X.env.globals X.env.builtins) (fun bi s₄ =>
        ∀ h' : Heap, h'.Ns s₄.heap.objs.size (fun y => if y = ".0" then some (.ref it) else none) → Heap.SameBut s₄.heap.objs.size (s₄.heap.push { cls := .type "frame", data := .dict #[] }) h' →
          Q' (.ref h'.objs.size) { s₄ with
            gens := s₄.gens.push (.fresh (.compStart (.GeneratorExp elt [⟨tg, iter, [], 0⟩] scope gpos) 0 (.ref it) .none (genEnv scope (cloFrom X.env.cells scope.names []) s₄.heap.objs.size code bi X.env))),
            toks := s₄.toks + 1 + 1 + 1,
            heap := h'.push { cls := .type "generator", data := .fields #[.int s₄.gens.size 0, .str "<genexpr>" (s₄.toks + 1), .str (X.env.qual ++ "<genexpr>") (s₄.toks + 1 + 1)] } }) X.xe { s2 with heap := h3, toks := tk } := by
    intro code h3 tk more hx hP3 ht3
    have J3 : Inv X pins σ (upd H2 P (.tbl (ps ++ more))) { s2 with heap := h3, toks := tk } := inv_tab (g' := s2.gens) (d' := s2.drawn) I2 hP hx hP3 I2.bare
    obtain ⟨bm, ob, e1, e2, e3, e4, e5, e6, e7, e8⟩ := TB.bm
    refine wpAny_builtinsFor (m := X.mg) (by rw [J3.ok.glob]; exact J3.mod.glob.keeps J3.bk) e1 e2 (J3.bk _ _ e5) e6 e7 e8 ?_
    intro h' hn' hs'
    have hfP : ∀ b ∈ fp, b ≠ P := fun b hb z => by
      have := (f2 b hb).1
      rw [z, hP] at this
      cases this
    have hsz : h'.objs.size = h3.objs.size + 1 := by rw [hs'.1, Heap.size_push]
    have keep' : ∀ b o, h3.get? b = some o → h'.get? b = some o := fun b o e => hs'.extBut b o (Nat.ne_of_lt (Heap.lt_size e)) (Heap.get?_push_of_some _ e)
    have keep₅ : ∀ b o, h3.get? b = some o → (h'.push { cls := .type "generator", data := .fields #[.int s2.gens.size 0, .str "<genexpr>" (tk + 1), .str (X.env.qual ++ "<genexpr>") (tk + 1 + 1)] }).get? b = some o :=
      fun b o e => Heap.get?_push_of_some _ (keep' b o e)
    have f3 : ∀ b ∈ fp, FpOk X pins (upd H2 P (.tbl (ps ++ more))) b := fun b hb => ⟨by rw [upd_ne (hfP b hb)]; exact (f2 b hb).1, (f2 b hb).2⟩
    have fl : ∀ b ∈ fp, b < h3.objs.size := fun b hb => by
      obtain ⟨o, e, _⟩ := T.obj _ _ st2 b hb
      exact Heap.lt_size (hx b o (hfP b hb) e)
    have IX := gen_start (s := { s2 with heap := h3, toks := tk }) (NG := NG) (code := code) (it := it) (js := js) (tk := tk + 1 + 1 + 1) (g₁ := s2.gens.push (.fresh (.compStart (.GeneratorExp elt [⟨tg, iter, [], 0⟩] scope gpos) 0 (.ref it) .none (gEnv X scope h3.objs.size code)))) J3 G f3 fl hr.hd (hn'.push _) keep₅ (I2.bare.push rfl) hN
    have aF : h3.objs.size ≤ h'.objs.size := by omega
    refine hQ J H2 _ h'.objs.size _ ⟨⟨ps ++ more, upd_same, ht3⟩, fun b hb => upd_ne hb⟩ hR ⟨{ s2 with heap := h3, toks := tk }, it, fp, tn, h3.objs.size, code, { cls := .type "generator", data := .fields #[.int s2.gens.size 0, .str "<genexpr>" (tk + 1), .str (X.env.qual ++ "<genexpr>") (tk + 1 + 1)] }, s2.gens.size, J3, T, T.keep _ _ _ st2 fun b hb o e => keep₅ b o (hx b o (hfP b hb) e), f3, fl, rfl, (by show h3.objs.size < h'.objs.size; omega), IX.pins_of fun p hp => ?_, Array.getElem?_push_size .., fun h e => ⟨_, _, _, e, rfl, rfl, rfl⟩⟩
    rw [List.mem_singleton.mp hp]
    have nfr : h'.objs.size ∉ frs X.stack := fun z => by
      rcases List.mem_cons.mp (J3.stkSub _ z) with e | e
      · have h1 : X.env.locals < h3.objs.size := J3.lt
        have e : (h'.objs.size : Nat) = X.env.locals := e
        rw [← e] at h1
        exact absurd (Nat.lt_of_lt_of_le h1 aF) (Nat.lt_irrefl _)
      · exact J3.nofs (a := h'.objs.size) aF e
    refine ⟨Heap.get?_push_size _ rfl, J3.hok.fresh aF, ?_, nfr, fun v e => by cases e⟩
    show h'.objs.size ≠ h3.objs.size
    omega
  cases hf : codeAmong gpos ps.toList with
  | none =>
    refine wpAny_genexprCodeX hcode (cd.code hPs ht) (cd.tab hPs) hf fun c' h' tk hx hge hlt hco' _ htab' _ => ?_
    obtain ⟨o1, vs, f1, tf, fl, tg, inF, tx, tt, op, _, _, _, _, _, _, _, _, _, htr, _⟩ := hco'
    exact cont _ h' tk _ (fun b o hb e => hx b o hb e) htab'.2 htr
  | some cv =>
    refine wpAny_genexprCode_hit hcode (cd.code hPs ht) hf ?_
    exact cont cv s2.heap s2.toks #[] (fun _ _ _ e => e) (by rw [Array.append_empty]; exact hPs) (by rw [Array.append_empty]; exact ht)
/-- behind it -/
theorem gen_after {s3 s' : Shared} {H3 H' : Hp} {NG : List Str} {fp : List Addr} {cenv : Env} {pins' : List (Addr × Obj)} {σ' : L2.St} (I : Inv X pins σ H3 s3) (hf : ∀ b ∈ fp, FpOk X pins H3 b) (J : Inv (gCx X s3 H3 NG fp cenv) pins' σ' H' s') : Inv X pins σ H' s' :=
  I.call' J.os J.base J.hok J.bare fun b hb => ⟨(hf b hb).2.2.2.1, (hf b hb).2.1, (hf b hb).2.2.2.2.1, (hf b hb).2.2.2.2.2⟩
end
/-! ### any, all, sum -/
/-- what a generator's frame hangs on -/
structure GPar where
  s : Shared
  H : Hp
  fp : List Addr
  C : Addr
  code : Value
def tQG (al : Bool) (P : Addr) (js : List (Option Nat)) (wi : TI) (g : GPar → TG) (te : GPar → TE) : TE := fun σ H Q => wi σ H fun J H1 => TabG H1 P ∧ ∀ a H3, Tabbed P H1 H3 → ∃ (N : Nat) (Z : Nat → L2.St → Hp → Prop), Z 0 (capS js σ) H3 ∧
  ∀ i σ' H', Z i σ' H' → (J.stop i H' ∧ Q (.bl al) H') ∨ (J.go i H' ∧ i < N ∧ ∀ x H2, J.yld i H' x H2 → g a x σ' H2 fun σ2 H4 => te a σ2 H4 fun y H5 => (y = .bl al ∧ Z (i + 1) σ2 H5) ∨ (y = .bl (!al) ∧ Q (.bl (!al)) H5))
def tSumG (P : Addr) (js : List (Option Nat)) (wi : TI) (g : GPar → TG) (te : GPar → TE) : TE := fun σ H Q => wi σ H fun J H1 => TabG H1 P ∧ ∀ a H3, Tabbed P H1 H3 → ∃ (vals : List Int) (Z : Nat → L2.St → Hp → Prop), (∀ (j : Nat) (v : Int), vals[j]? = some v → InLong v ∧ InLong ((vals.take j).sum + v)) ∧ Z 0 (capS js σ) H3 ∧
  ∀ i σ' H', Z i σ' H' → (J.stop i H' ∧ i = vals.length ∧ Q (.int vals.sum) H') ∨ (J.go i H' ∧ i < vals.length ∧ ∀ x H2, J.yld i H' x H2 → g a x σ' H2 fun σ2 H4 => te a σ2 H4 fun y H5 => ∃ v, vals[i]? = some v ∧ y = .int v ∧ Z (i + 1) σ2 H5)
section
variable {X : Cx} {c P : Addr} {elt tg iter : Expr} {p gpos pos : Pos} {scope : Scope} {NG : List Str} {js : List (Option Nat)} {wi : TI} {g : GPar → TG} {te : GPar → TE} {k : Nat}
theorem gfix {s3 : Shared} {H3 : Hp} {pins : List (Addr × Obj)} {σ : L2.St} {fp : List Addr} {code : Value} {a : Addr} (I : Inv X pins σ H3 s3) (G : GSc X.env.scope scope) (f : ∀ b ∈ fp, FpOk X pins H3 b) (fl : ∀ b ∈ fp, b < s3.heap.objs.size) (ha : s3.heap.objs.size < a) {S : List Addr} (hS : ∀ b ∈ S, a < b) :
    GFix X s3 fp (gEnv X scope s3.heap.objs.size code) a S := by
  have hfree : ∀ y ∈ scope.names, y.2 = .free → ∃ c, X.env.cells.lookup y.1 = some c := fun y hy e => by
    rcases G.free y hy e with k | k
    · exact I.ok.has _ (.inl k)
    · exact I.ok.has _ (.inr k)
  have cm : ∀ {y c}, (cloFrom X.env.cells scope.names []).lookup y = some c → X.env.cells.lookup y = some c := fun {y c} e => by
    rcases cloFrom_mem (PySem.mem_of_lookup e) with hm | ⟨h1, h2⟩
    · cases hm
    · obtain ⟨c1, hc⟩ := hfree _ h1 rfl
      have hc : X.env.cells.lookup y = some c1 := hc
      have e2 : c = c1 := by
        rw [h2, hc] <;> rfl
      rw [e2]
      exact hc
  have nfr : ∀ b, s3.heap.objs.size ≤ b → b ∉ frs X.stack := fun b hb z => by
    rcases List.mem_cons.mp (I.stkSub _ z) with e | e
    · have h1 := I.lt
      rw [← e] at h1
      exact Nat.lt_irrefl _ (Nat.lt_of_lt_of_le h1 hb)
    · exact I.nofs hb e
  refine ⟨fun b hb => ⟨Nat.ne_of_lt (fl b hb), fun z => ?_, fun x c e => (f b hb).2.2.2.2.1 x c (cm e), Nat.ne_of_lt (Nat.lt_trans (fl b hb) ha), fun z => absurd (Nat.lt_trans (Nat.lt_trans (fl b hb) ha) (hS b z)) (Nat.lt_irrefl _)⟩,
    fun b hb => ⟨Nat.le_of_lt (Nat.lt_trans ha (hS b hb)), Nat.ne_of_gt (Nat.lt_trans ha (hS b hb)), nfr b (Nat.le_of_lt (Nat.lt_trans ha (hS b hb))), fun x c e z => ?_, Nat.ne_of_gt (hS b hb)⟩⟩
  · rcases List.mem_cons.mp (I.stkSub b z) with e | e
    · exact (f b hb).2.1 e
    · exact (f b hb).2.2.1 e
  · obtain ⟨v, q⟩ := I.cell x c (cm e)
    have h1 : c < s3.heap.objs.size := q.lt
    rw [z] at h1
    exact Nat.lt_irrefl _ (Nat.lt_trans (Nat.lt_trans ha (hS b hb)) h1)
theorem pe_allG (hr : Room (k + 1) X.A) (hgl : Gl X "all") (hm : X.mg "all" = none) (hb : bootBuiltins "all" = some (.builtin "all")) (TB : TabB X.base X.mg c P) (hcode : X.env.code = .ref c) (G : GSc X.env.scope scope) (hi : PI X tg iter wi) (hN : capB X.N NG scope js = true)
    (hg : ∀ a : GPar, PG (gCx X a.s a.H NG a.fp (gEnv X scope a.C a.code)) tg (g a)) (he : ∀ a : GPar, Room k (gA X (gEnv X scope a.C a.code)) → PE (gCx X a.s a.H NG a.fp (gEnv X scope a.C a.code)) elt (te a)) (hs : ∀ v, genFold iter X.env v = pure v)
    (hst : starEach [.GeneratorExp elt [⟨tg, iter, [], 0⟩] scope gpos] X.env = (false, eval (.GeneratorExp elt [⟨tg, iter, [], 0⟩] scope gpos) X.env) :: starEach [] X.env := by rfl) :
    PE X (.Call (.Name "all" p) [.GeneratorExp elt [⟨tg, iter, [], 0⟩] scope gpos] [] pos) (tQG true P js wi g te) := by
  refine ⟨fun pins s σ H Q I h => ?_⟩
  refine wpAny_Call_Name_kw (ld_blt I hgl hm hb ?_)
  refine PyProof.Rows.callWith_builtin1 ?_ hst (by rfl)
  rw [hst]
  show wpAny _ _ (spliced ((false, eval (.GeneratorExp elt [⟨tg, iter, [], 0⟩] scope gpos) X.env) :: backTo pos (starEach [] X.env))) _ _ s
  refine Calls.spliced_cons (gen_make hr TB hcode G hi hN hs I h fun J H1 H3 a s5 hT hR M => ?_)
  refine Calls.spliced_nil ?_
  obtain ⟨s3, it, fp, tn, C, code, ob, gn, I3, T, st5, f3, fl, rfl, ha, I5, hgs, hob⟩ := M
  obtain ⟨N, Z, z0, turn⟩ := hR ⟨s3, H3, fp, s3.heap.objs.size, code⟩ H3 hT
  have fx : GFix X s3 fp (gEnv X scope s3.heap.objs.size code) a [] := gfix I3 G f3 fl ha (fun b hb => absurd hb (by simp))
  have pa := I5.pin (a, ob) (List.mem_append_right _ (List.mem_singleton.mpr rfl))
  have g0 : GenSt X s3 H3 NG fp (gEnv X scope s3.heap.objs.size code) a ob gn [] tn N Z (fun i y σ H => (y = .bl true ∧ Z (i + 1) σ H) ∨ (y = .bl false ∧ Q (.bl false) H)) (fun _ _ H => Q (.bl true) H) 0 s5 :=
    ⟨_, _, Nat.zero_le _, z0, I5, st5, fun b hb => (f3 b hb).1, fun b hb => absurd hb (by simp), _, hgs, fun s'' J2 st2 so2 => ⟨rfl, seg_start rfl G.co fx T (hg ⟨s3, H3, fp, s3.heap.objs.size, code⟩) (he ⟨s3, H3, fp, s3.heap.objs.size, code⟩ (room_g hr)) turn s'' _ _ z0 J2 st2 (fun b hb => (f3 b hb).1) so2⟩⟩
  refine call_function_tree F.kind_all F.plain_all F.entry_all (F.args_all1 _) ?_
  unfold Builtin.«all»
  refine wpAny_bind (m := oneArg "all" _) (wpAny_pure ?_)
  refine wpAny_bind (wpAny_pyIter_gen (hob _ pa.1) ?_)
  refine wpAny_pure ⟨plainId_quiet F.plain_all_loop _, codeAny_mono (all_loop (Q := Q) T hob hr.hd (by have := hr.dp; omega) N 0 s5 rfl g0) fun r s' hq => ?_⟩
  obtain ⟨b, σ', H', rfl, J2, q⟩ := hq
  exact ⟨.bl b, H', gen_after I3 f3 J2, rfl, q⟩
theorem pe_anyG (hr : Room (k + 1) X.A) (hgl : Gl X "any") (hm : X.mg "any" = none) (hb : bootBuiltins "any" = some (.builtin "any")) (TB : TabB X.base X.mg c P) (hcode : X.env.code = .ref c) (G : GSc X.env.scope scope) (hi : PI X tg iter wi) (hN : capB X.N NG scope js = true)
    (hg : ∀ a : GPar, PG (gCx X a.s a.H NG a.fp (gEnv X scope a.C a.code)) tg (g a)) (he : ∀ a : GPar, Room k (gA X (gEnv X scope a.C a.code)) → PE (gCx X a.s a.H NG a.fp (gEnv X scope a.C a.code)) elt (te a)) (hs : ∀ v, genFold iter X.env v = pure v)
    (hst : starEach [.GeneratorExp elt [⟨tg, iter, [], 0⟩] scope gpos] X.env = (false, eval (.GeneratorExp elt [⟨tg, iter, [], 0⟩] scope gpos) X.env) :: starEach [] X.env := by rfl) :
    PE X (.Call (.Name "any" p) [.GeneratorExp elt [⟨tg, iter, [], 0⟩] scope gpos] [] pos) (tQG false P js wi g te) := by
  refine ⟨fun pins s σ H Q I h => ?_⟩
  refine wpAny_Call_Name_kw (ld_blt I hgl hm hb ?_)
  refine PyProof.Rows.callWith_builtin1 ?_ hst (by rfl)
  rw [hst]
  show wpAny _ _ (spliced ((false, eval (.GeneratorExp elt [⟨tg, iter, [], 0⟩] scope gpos) X.env) :: backTo pos (starEach [] X.env))) _ _ s
  refine Calls.spliced_cons (gen_make hr TB hcode G hi hN hs I h fun J H1 H3 a s5 hT hR M => ?_)
  refine Calls.spliced_nil ?_
  obtain ⟨s3, it, fp, tn, C, code, ob, gn, I3, T, st5, f3, fl, rfl, ha, I5, hgs, hob⟩ := M
  obtain ⟨N, Z, z0, turn⟩ := hR ⟨s3, H3, fp, s3.heap.objs.size, code⟩ H3 hT
  have fx : GFix X s3 fp (gEnv X scope s3.heap.objs.size code) a [] := gfix I3 G f3 fl ha (fun b hb => absurd hb (by simp))
  have pa := I5.pin (a, ob) (List.mem_append_right _ (List.mem_singleton.mpr rfl))
  have g0 : GenSt X s3 H3 NG fp (gEnv X scope s3.heap.objs.size code) a ob gn [] tn N Z (fun i y σ H => (y = .bl false ∧ Z (i + 1) σ H) ∨ (y = .bl true ∧ Q (.bl true) H)) (fun _ _ H => Q (.bl false) H) 0 s5 :=
    ⟨_, _, Nat.zero_le _, z0, I5, st5, fun b hb => (f3 b hb).1, fun b hb => absurd hb (by simp), _, hgs, fun s'' J2 st2 so2 => ⟨rfl, seg_start rfl G.co fx T (hg ⟨s3, H3, fp, s3.heap.objs.size, code⟩) (he ⟨s3, H3, fp, s3.heap.objs.size, code⟩ (room_g hr)) turn s'' _ _ z0 J2 st2 (fun b hb => (f3 b hb).1) so2⟩⟩
  refine call_function_tree F.kind_any F.plain_any F.entry_any (F.args_any1 _) ?_
  unfold Builtin.«any»
  refine wpAny_bind (m := oneArg "any" _) (wpAny_pure ?_)
  refine wpAny_bind (wpAny_pyIter_gen (hob _ pa.1) ?_)
  refine wpAny_pure ⟨plainId_quiet F.plain_any_loop _, codeAny_mono (any_loop (Q := Q) T hob hr.hd (by have := hr.dp; omega) N 0 s5 rfl g0) fun r s' hq => ?_⟩
  obtain ⟨b, σ', H', rfl, J2, q⟩ := hq
  exact ⟨.bl b, H', gen_after I3 f3 J2, rfl, q⟩
theorem pe_sumG (hr : Room (k + 1) X.A) (hgl : Gl X "sum") (hm : X.mg "sum" = none) (hb : bootBuiltins "sum" = some (.builtin "sum")) (TB : TabB X.base X.mg c P) (hcode : X.env.code = .ref c) (G : GSc X.env.scope scope) (hi : PI X tg iter wi) (hN : capB X.N NG scope js = true)
    (hg : ∀ a : GPar, PG (gCx X a.s a.H NG a.fp (gEnv X scope a.C a.code)) tg (g a)) (he : ∀ a : GPar, Room k (gA X (gEnv X scope a.C a.code)) → PE (gCx X a.s a.H NG a.fp (gEnv X scope a.C a.code)) elt (te a)) (hs : ∀ v, genFold iter X.env v = pure v)
    (hst : starEach [.GeneratorExp elt [⟨tg, iter, [], 0⟩] scope gpos] X.env = (false, eval (.GeneratorExp elt [⟨tg, iter, [], 0⟩] scope gpos) X.env) :: starEach [] X.env := by rfl) :
    PE X (.Call (.Name "sum" p) [.GeneratorExp elt [⟨tg, iter, [], 0⟩] scope gpos] [] pos) (tSumG P js wi g te) := by
  refine ⟨fun pins s σ H Q I h => ?_⟩
  refine wpAny_Call_Name_kw (ld_blt I hgl hm hb ?_)
  refine PyProof.Rows.callWith_builtin1 ?_ hst (by rfl)
  rw [hst]
  show wpAny _ _ (spliced ((false, eval (.GeneratorExp elt [⟨tg, iter, [], 0⟩] scope gpos) X.env) :: backTo pos (starEach [] X.env))) _ _ s
  refine Calls.spliced_cons (gen_make hr TB hcode G hi hN hs I h fun J H1 H3 a s5 hT hR M => ?_)
  refine Calls.spliced_nil ?_
  obtain ⟨s3, it, fp, tn, C, code, ob, gn, I3, T, st5, f3, fl, rfl, ha, I5, hgs, hob⟩ := M
  obtain ⟨vals, Z, hfit, z0, turn⟩ := hR ⟨s3, H3, fp, s3.heap.objs.size, code⟩ H3 hT
  have pa := I5.pin (a, ob) (List.mem_append_right _ (List.mem_singleton.mpr rfl))
  have ha5 : a < s5.heap.objs.size := Heap.lt_size pa.1
  have fx : GFix X s3 fp (gEnv X scope s3.heap.objs.size code) a [s5.heap.objs.size] := gfix I3 G f3 fl ha (fun b hb => by rw [List.mem_singleton.mp hb]; exact ha5)
  refine call_function_tree F.kind_sum F.plain_sum F.entry_sum (F.args_sum1 _) ?_
  unfold Builtin.«sum»
  simp only [List.length_cons, List.length_nil]
  rw [if_neg (by decide)]
  refine wpAny_bind (wpAny_of_eq (show Builtin.Builtins.bindParams "sum" ["start"] 0 { } = pure [none] from rfl) ?_)
  refine wpAny_bind (wpAny_pyIter_gen (hob _ pa.1) ?_)
  refine wpAny_bind (wpAny_mkInt ?_)
  refine wpAny_bind (wpAny_pure ?_)
  simp only [List.forIn_cons, List.forIn_nil]
  refine wpAny_bind (wpAny_bind (wpAny_bind (wpAny_isInstance (T := "int") (b := false) (typeIs_int _ _ _) PySem.sub_int_str ?_)))
  simp only [Bool.false_eq_true, if_false]
  refine wpAny_pure (wpAny_bind (wpAny_bind (wpAny_isInstance (T := "int") (b := false) (typeIs_int _ _ _) PySem.sub_int_bytes ?_)))
  simp only [Bool.false_eq_true, if_false]
  refine wpAny_pure (wpAny_bind (wpAny_bind (wpAny_isInstance (T := "int") (b := false) (typeIs_int _ _ _) PySem.sub_int_bytearray ?_)))
  simp only [Bool.false_eq_true, if_false]
  refine wpAny_pure (wpAny_pure ?_)
  refine wpAny_bind (wpAny_newObj_type ?_)
  have I6 : Inv (gCx X s3 H3 NG fp (gEnv X scope s3.heap.objs.size code)) [(a, ob)] (capS js σ) H3 { s5 with heap := s5.heap.push { cls := .type "list", data := .seq #[.int 0 s5.toks] }, toks := s5.toks + 1 } := I5.kept fun b o e => Heap.get?_push_of_some _ e
  have hS6 : (s5.heap.push { cls := .type "list", data := .seq #[.int 0 s5.toks] }).get? s5.heap.objs.size = some { cls := .type "list", data := .seq #[.int 0 s5.toks] } := Heap.get?_push_size _ rfl
  have g0 : GenSt X s3 H3 NG fp (gEnv X scope s3.heap.objs.size code) a ob gn [s5.heap.objs.size] tn vals.length Z (fun i y σ H => ∃ v, vals[i]? = some v ∧ y = .int v ∧ Z (i + 1) σ H) (fun i _ H => i = vals.length ∧ Q (.int vals.sum) H) 0 { s5 with heap := s5.heap.push { cls := .type "list", data := .seq #[.int 0 s5.toks] }, toks := s5.toks + 1 } :=
    ⟨_, _, Nat.zero_le _, z0, I6, T.keep _ _ _ st5 fun b _ o e => Heap.get?_push_of_some _ e, fun b hb => (f3 b hb).1, fun b hb => by
      rw [List.mem_singleton.mp hb]
      exact ⟨I5.hok.fresh (Nat.le_refl _), _, hS6, fun v e => by cases e⟩, _, hgs, fun s'' J2 st2 so2 => ⟨rfl, seg_start rfl G.co fx T (hg ⟨s3, H3, fp, s3.heap.objs.size, code⟩) (he ⟨s3, H3, fp, s3.heap.objs.size, code⟩ (room_g hr)) turn s'' _ _ z0 J2 st2 (fun b hb => (f3 b hb).1) so2⟩⟩
  have hfS := fx.s s5.heap.objs.size (List.mem_singleton.mpr rfl)
  refine wpAny_pure ⟨plainId_quiet F.plain_sum_loop _, codeAny_mono (sum_loop (Q := Q) (fun b hb z => (fx.f b hb).2.2.2.2 (by rw [z]; exact List.mem_singleton.mpr rfl)) hfS.2.2.2.2 T hob hr.hd (by have := hr.dp; omega) ⟨hfS.1, hfS.2.1, hfS.2.2.1, hfS.2.2.2.1⟩ hfit vals.length 0 _ s5.toks _ rfl g0 hS6) fun r s' hq => ?_⟩
  obtain ⟨t, σ', H', rfl, J2, q⟩ := hq
  exact ⟨.int vals.sum, H', gen_after I3 f3 J2, ⟨t, rfl⟩, q⟩
end
end L3G

namespace L3
open PySem L2
open Evl (Ex ex_rd ex_l ex_t sq_of st_of fresh_back)

/-! ### generator expressions -/
def allM {α : Type} (f : α → Option Bool) : List α → Option Bool
  | [] => some true
  | x :: xs => match f x with
    | some true => allM f xs
    | o => o
def anyM {α : Type} (f : α → Option Bool) : List α → Option Bool
  | [] => some false
  | x :: xs => match f x with
    | some false => anyM f xs
    | o => o
def quM {α : Type} (al : Bool) (f : α → Option Bool) : List α → Option Bool
  | [] => some al
  | x :: xs => match f x with
    | some b => if b = al then quM al f xs else some b
    | none => none
theorem quM_all {α : Type} (f : α → Option Bool) : ∀ xs : List α, quM true f xs = allM f xs
  | [] => rfl
  | x :: xs => by
    unfold quM allM
    cases f x with
    | none => rfl
    | some b => cases b with
      | true => exact quM_all f xs
      | false => rfl
theorem quM_any {α : Type} (f : α → Option Bool) : ∀ xs : List α, quM false f xs = anyM f xs
  | [] => rfl
  | x :: xs => by
    unfold quM anyM
    cases f x with
    | none => rfl
    | some b => cases b with
      | false => exact quM_any f xs
      | true => rfl
def mapO {α β : Type} (f : α → Option β) : List α → Option (List β)
  | [] => some []
  | x :: xs => match f x, mapO f xs with
    | some y, some ys => some (y :: ys)
    | _, _ => none
theorem mapO_get {α β : Type} {f : α → Option β} : ∀ {xs : List α} {ys : List β}, mapO f xs = some ys → xs.length = ys.length ∧ ∀ (i : Nat) (x : α), xs[i]? = some x → ∃ y, f x = some y ∧ ys[i]? = some y
  | [], ys, h => by
    obtain rfl : [] = ys := Option.some.inj h
    exact ⟨rfl, fun i x e => by simp at e⟩
  | x :: xs, ys, h => by
    unfold mapO at h
    split at h
    · rename_i y ys' e1 e2
      obtain rfl := Option.some.inj h
      obtain ⟨h1, h2⟩ := mapO_get e2
      refine ⟨congrArg (· + 1) h1, fun i z e => ?_⟩
      cases i with
      | zero => obtain rfl : x = z := by simpa using e
                exact ⟨y, e1, rfl⟩
      | succ i => exact h2 i z (by simpa using e)
    · cases h
def longI (i : Int) : Bool := decide (-(2 ^ 63) ≤ i) && decide (i < 2 ^ 63)
def fits (acc : Int) : List Int → Bool
  | [] => true
  | v :: vs => longI v && longI (acc + v) && fits (acc + v) vs
def sumM {α : Type} (f : α → Option Int) (xs : List α) : Option Int := match mapO f xs with
  | some vs => if fits 0 vs = true then some vs.sum else none
  | none => none
theorem longI_ok {i : Int} (h : longI i = true) : InLong i := by
  unfold longI at h
  rw [Bool.and_eq_true, decide_eq_true_eq, decide_eq_true_eq] at h
  exact h
theorem fits_ok : ∀ {vs : List Int} {acc : Int}, fits acc vs = true → ∀ (j : Nat) (v : Int), vs[j]? = some v → InLong v ∧ InLong (acc + (vs.take j).sum + v)
  | [], _, _, _, _, e => by simp at e
  | w :: vs, acc, h, j, v, e => by
    unfold fits at h
    rw [Bool.and_eq_true, Bool.and_eq_true] at h
    cases j with
    | zero =>
      obtain rfl : w = v := by simpa using e
      exact ⟨longI_ok h.1.1, by simpa using longI_ok h.1.2⟩
    | succ j =>
      have := fits_ok h.2 j v (by simpa using e)
      refine ⟨this.1, ?_⟩
      rw [List.take_succ_cons, List.sum_cons, ← Int.add_assoc]
      exact this.2
section
variable {K : Fg} {M : Fr} {σ : St} {B : Hp} {L L1 L2 L' : List Cell} {α β γ δ : Type} {r : Rep α} {s : Rep β} {t : Rep γ} {ta tb tc te : TE} {tt tu : TT} {tA : TA} {i j k : Int} {b c : Bool} {P : Addr} {js : List (Option Nat)} {wi : TI} {g : L3G.GPar → TG} {ge : L3G.GPar → TE}
theorem Own.tabbed {H H' : Hp} (w : Own K B M L H) (hP : P ∈ M.T) (h : GxR.Tabbed P H H') : Own K B M L H' := by
  obtain ⟨h1, h2⟩ := h
  obtain ⟨t1, t2, t3, t4⟩ := w.t P hP
  refine ⟨fun a u e => ?_, fun a u e => ?_, w.bm, fun x hx => ?_, w.nd, fun R hR => ?_⟩
  · rw [h2 a (ne_of_none e t2)]; exact w.b a u e
  · rw [h2 a (ne_of_none e t3)]; exact w.m a u e
  · obtain ⟨⟨o, a1, a2⟩, a3, a4⟩ := w.l x hx
    exact ⟨⟨o, by rw [h2 x.p (fun e => t4 (by rw [← e]; exact List.mem_map.mpr ⟨x, hx, rfl⟩))]; exact a1, a2⟩, a3, a4⟩
  · obtain ⟨s1, s2, s3, s4⟩ := w.t R hR
    refine ⟨?_, s2, s3, s4⟩
    by_cases e : R = P
    · rw [e]; exact h1
    · obtain ⟨ps, q1, q2⟩ := s1
      exact ⟨ps, by rw [h2 R e]; exact q1, q2⟩
theorem ev_quG (al : Bool) {xs : List α} (hP : P ∈ M.T) (hi : EI K M wi σ B L r xs L1) (f : α → Option Bool) (Sg : St → Prop) (h0 : Sg (L3G.capS js σ)) (hm : quM al f xs = some b)
    (hs : ∀ a x c v B' H' σ', f x = some c → Ex B B' → Sg σ' → Own K B' M L1 H' → r.is K B' v x → ∀ Q : St → VK, (∀ σ2 B2 H2, Sg σ2 → Ex B' B2 → Own K B2 M L1 H2 → Q σ2 (.bl c) H2) → g a v σ' H' fun σ2 H2 => ge a σ2 H2 (Q σ2)) :
    EV K M (L3G.tQG al P js wi g ge) σ B L rBool b L1 := fun B1 H e w Q q =>
  hi B1 H e w _ fun J B2 H2 e2 w2 wk => by
    refine ⟨(w2.t P hP).1, fun a H3 hT => ?_⟩
    have w3 := w2.tabbed hP hT
    refine ⟨xs.length, fun i σ' H' => Sg σ' ∧ (∃ B', Ex B2 B' ∧ Own K B' M L1 H') ∧ i ≤ xs.length ∧ quM al f (xs.drop i) = some b, ⟨h0, ⟨B2, Ex.refl _, w3⟩, Nat.zero_le _, hm⟩, ?_⟩
    rintro i σ' H' ⟨sg, ⟨B', eb, w'⟩, hi, hq⟩
    by_cases hl : i = xs.length
    · subst hl
      refine .inl ⟨wk.stop B' L1 H' eb w', ?_⟩
      rw [List.drop_length] at hq
      obtain rfl : al = b := Option.some.inj hq
      exact q _ B' H' (e2.trans eb) w' rfl
    · have hlt : i < xs.length := by omega
      rw [List.drop_eq_getElem_cons hlt] at hq
      have hx : xs[i]? = some xs[i] := List.getElem?_eq_getElem hlt
      obtain ⟨g1, g2⟩ := wk.go i xs[i] B' L1 H' eb w' hx
      unfold quM at hq
      cases hf : f xs[i] with
      | none => rw [hf] at hq; cases hq
      | some c =>
        rw [hf] at hq
        refine .inr ⟨g1, hlt, fun x H4 hy => ?_⟩
        obtain ⟨B4, e4, w4, hr⟩ := g2 x H4 hy
        refine hs a xs[i] c x B4 H4 σ' hf ((e.trans e2).trans (eb.trans e4)) sg w4 hr _ fun σ2 B5 H5 sg5 e5 w5 => ?_
        have hq : (if c = al then quM al f (xs.drop (i + 1)) else some c) = some b := hq
        by_cases hc : c = al
        · rw [if_pos hc] at hq
          exact .inl ⟨by rw [hc], sg5, ⟨B5, (eb.trans e4).trans e5, w5⟩, hlt, hq⟩
        · rw [if_neg hc] at hq
          obtain rfl : c = b := Option.some.inj hq
          have hn : c = !al := by revert hc; cases c <;> cases al <;> simp
          exact .inr ⟨by rw [hn], hn ▸ q _ B5 H5 (((e2.trans eb).trans e4).trans e5) w5 rfl⟩
theorem ev_allG {xs : List α} (hP : P ∈ M.T) (hi : EI K M wi σ B L r xs L1) (f : α → Option Bool) (Sg : St → Prop) (h0 : Sg (L3G.capS js σ)) (hm : allM f xs = some b)
    (hs : ∀ a x c v B' H' σ', f x = some c → Ex B B' → Sg σ' → Own K B' M L1 H' → r.is K B' v x → ∀ Q : St → VK, (∀ σ2 B2 H2, Sg σ2 → Ex B' B2 → Own K B2 M L1 H2 → Q σ2 (.bl c) H2) → g a v σ' H' fun σ2 H2 => ge a σ2 H2 (Q σ2)) :
    EV K M (L3G.tQG true P js wi g ge) σ B L rBool b L1 := ev_quG true hP hi f Sg h0 (by rw [quM_all]; exact hm) hs
theorem ev_anyG {xs : List α} (hP : P ∈ M.T) (hi : EI K M wi σ B L r xs L1) (f : α → Option Bool) (Sg : St → Prop) (h0 : Sg (L3G.capS js σ)) (hm : anyM f xs = some b)
    (hs : ∀ a x c v B' H' σ', f x = some c → Ex B B' → Sg σ' → Own K B' M L1 H' → r.is K B' v x → ∀ Q : St → VK, (∀ σ2 B2 H2, Sg σ2 → Ex B' B2 → Own K B2 M L1 H2 → Q σ2 (.bl c) H2) → g a v σ' H' fun σ2 H2 => ge a σ2 H2 (Q σ2)) :
    EV K M (L3G.tQG false P js wi g ge) σ B L rBool b L1 := ev_quG false hP hi f Sg h0 (by rw [quM_any]; exact hm) hs
theorem ev_sumG {xs : List α} (hP : P ∈ M.T) (hi : EI K M wi σ B L r xs L1) (f : α → Option Int) (Sg : St → Prop) (h0 : Sg (L3G.capS js σ)) (hm : sumM f xs = some k)
    (hs : ∀ a x c v B' H' σ', f x = some c → Ex B B' → Sg σ' → Own K B' M L1 H' → r.is K B' v x → ∀ Q : St → VK, (∀ σ2 B2 H2, Sg σ2 → Ex B' B2 → Own K B2 M L1 H2 → Q σ2 (.int c) H2) → g a v σ' H' fun σ2 H2 => ge a σ2 H2 (Q σ2)) :
    EV K M (L3G.tSumG P js wi g ge) σ B L rInt k L1 := fun B1 H e w Q q =>
  hi B1 H e w _ fun J B2 H2 e2 w2 wk => by
    unfold sumM at hm
    split at hm
    · rename_i vs hvs
      split at hm
      · rename_i hfit
        obtain rfl := Option.some.inj hm
        obtain ⟨hlen, hget⟩ := mapO_get hvs
        refine ⟨(w2.t P hP).1, fun a H3 hT => ?_⟩
        have w3 := w2.tabbed hP hT
        refine ⟨vs, fun i σ' H' => Sg σ' ∧ (∃ B', Ex B2 B' ∧ Own K B' M L1 H') ∧ i ≤ vs.length, fun j v hv => by simpa using fits_ok hfit j v hv, ⟨h0, ⟨B2, Ex.refl _, w3⟩, Nat.zero_le _⟩, ?_⟩
        rintro i σ' H' ⟨sg, ⟨B', eb, w'⟩, hi⟩
        by_cases hl : i = vs.length
        · subst hl
          refine .inl ⟨by rw [← hlen]; exact wk.stop B' L1 H' eb w', rfl, q _ B' H' (e2.trans eb) w' rfl⟩
        · have hlt : i < vs.length := by omega
          have hlt' : i < xs.length := by omega
          have hx : xs[i]? = some xs[i] := List.getElem?_eq_getElem hlt'
          obtain ⟨g1, g2⟩ := wk.go i xs[i] B' L1 H' eb w' hx
          obtain ⟨y, f1, f2⟩ := hget i _ hx
          refine .inr ⟨g1, hlt, fun x H4 hy => ?_⟩
          obtain ⟨B4, e4, w4, hr⟩ := g2 x H4 hy
          refine hs a xs[i] y x B4 H4 σ' f1 ((e.trans e2).trans (eb.trans e4)) sg w4 hr _ fun σ2 B5 H5 sg5 e5 w5 => ?_
          exact ⟨y, f2, rfl, sg5, ⟨B5, (eb.trans e4).trans e5, w5⟩, hlt⟩
      · cases hm
    · cases hm
end
/-! ### a def with its code object -/
structure FunC (K : Fg) (x : Str) (st : Stmt) (f : Addr) (fd : FuncData) (c : Addr) : Prop where
  ex : ∃ (oc : Value) (od : Option Addr) (kV doc pm : Value) (an : Option Addr) (ct : Value) (osl : Array (Option Value)),
    fd = PySem.W.fnOf x x (defArgs st) (defBody st) (defScope st) .none kV doc pm an (.ref c) ct ∧ K.lookup f = some ⟨oc, od, .func fd, osl⟩ ∧ PySem.W.codeIn K (.ref c) x = true
  kp : PySem.W.keepIn K (.ref f) = true
theorem FunC.ok {P : Program} {w : World} {K : Fg} {mg : Str → Option Value} {base : Heap} {x : Str} {st : Stmt} {f : Addr} {fd : FuncData} {c : Addr} {N ps : List Str} {k : Nat} {sp : Sp} (F : FunC K x st f fd c) (S : FnScope N ps (defScope st)) (len : ∀ vs H Q E, sp vs H Q E → vs.length = ps.length)
    (hbody : ∀ (A : Around) (outer : List Env) (s : Shared) (H : Hp) (vs : List V) (Q : VK) (E : XK), Room k (A.deeper (PyProof.Rows.envOfC x (defScope st) s.heap.objs.size f (.ref c))) → sp vs H Q E →
      ∃ t, PSs (cxOf CX0 P w K mg base N x (defScope st) f (.ref c) A outer s H E).nox (defBody st) t ∧ t { nx := fun _ H' => Q .non H', rt := Q } (start N vs) H) : FnOk P w K mg base CX0 (k + 1) f fd ps sp := by
  obtain ⟨oc, od, kV, doc, pm, an, ct, osl, rfl, lk, hcd⟩ := F.ex
  refine fn_of lk hcd S len fun A outer s H vs Q E hr hsp => ?_
  obtain ⟨t, h, q⟩ := hbody A outer s H vs Q E hr hsp
  exact ⟨t, h.nox, q⟩
theorem FunC.binds {K : Fg} {x : Str} {st : Stmt} {f : Addr} {fd : FuncData} {c : Addr} {ps : List Str} (F : FunC K x st f fd c)
    (h : ∀ (kV doc pm : Value) (an : Option Addr) (cdv ct : Value) (us : List Value), us.length = ps.length → bindArgs (PySem.W.fnOf x x (defArgs st) (defBody st) (defScope st) .none kV doc pm an cdv ct) ⟨us, []⟩ = pure (ps.zip us)) : Binds K fd ps [] := by
  obtain ⟨oc, od, kV, doc, pm, an, ct, osl, rfl, lk, hcd⟩ := F.ex
  exact .all (h kV doc pm an _ ct)
theorem FunC.bindsA {K : Fg} {x : Str} {st : Stmt} {f : Addr} {fd : FuncData} {c : Addr} {ps : List Str} (F : FunC K x st f fd c)
    (h : ∀ (kV doc pm : Value) (an : Option Addr) (cdv ct : Value) (us : List Value), us.length = ps.length → bindArgs (PySem.W.fnOf x x (defArgs st) (defBody st) (defScope st) .none kV doc pm an cdv ct) ⟨us, []⟩ = pure (ps.zip us)) (s : Shared) (us : List Value) (hl : us.length = ps.length) : PySem.BindsTo s fd ⟨us, []⟩ (ps.zip us) := by
  obtain ⟨oc, od, kV, doc, pm, an, ct, osl, rfl, lk, hcd⟩ := F.ex
  exact .of_eq (h kV doc pm an _ ct us hl)
theorem funC_of {K : Fg} {x : Str} {st : Stmt} {fd : FuncData} (F : FunD K x x (defArgs st) (defBody st) (defScope st) [] [] (He.fAd K (x, none)) fd) : FunC K x st (He.fAd K (x, none)) fd (He.codeOf K (x, none)) := by
  obtain ⟨oc, od, dV, kV, doc, pm, an, cdv, ct, osl, rfl, lk, hcd, hD, hK⟩ := F.ex
  obtain ⟨c, rfl⟩ := He.codeIn_ref hcd
  rcases hD with ⟨_, rfl⟩ | ⟨e, _⟩
  · have e := He.codeOf_eq (p := (x, none)) lk (c := c) rfl
    rw [e]
    exact ⟨⟨oc, od, kV, doc, pm, an, ct, osl, rfl, lk, hcd⟩, F.kp⟩
  · exact absurd rfl e
end L3

/-! enumerate of a tuple -/
namespace L3G
open PySem PySem.Spec PyProof.Rows L2
set_option maxHeartbeats 4000000 in
theorem meets_enumT (t : Addr) (items : Array Value) :
    Meets (Builtin.«enumerate.__new__» ⟨[.type "enumerate", .ref t], []⟩) (fun _ R s => s.heap.IsTuple t items ∧
      R (.ok (.ret (.ref (s.heap.push { cls := .type "tuple_iterator", data := .fields #[.ref t, .int 0 0] }).objs.size)))
        { s with heap := (s.heap.push { cls := .type "tuple_iterator", data := .fields #[.ref t, .int 0 0] }).push { cls := .type "enumerate", data := .fields #[.none, .bool false, .ref s.heap.objs.size, rawInt 0, .none, .none] } }) :=
  .of_wp fun prog w A R s h => by
    obtain ⟨hp, g, d, tk, os⟩ := s; obtain ⟨hL, h⟩ := h
    have hsub := sub_enumerate
    obtain ⟨o, hl, hc, n, hd⟩ := id hL
    obtain ⟨oc, od, odt, osl⟩ := o
    replace hc : oc = .type "tuple" := hc
    replace hd : odt = .seq items n := hd
    subst hc hd
    wp_walk using wpAny_loadPart' hl
    refine wpAny_stack_any fun st => wpAny_pure ?_
    split
    · rename_i c _ _ _ _ _
      cases (c == Value.type "enumerate")
      · wp_walk using wpAny_loadPart' hl, wpAny_pyIter_tuple hL
        exact ⟨_, rfl, h⟩
      · wp_walk using wpAny_loadPart' hl, wpAny_pyIter_tuple hL
        exact ⟨_, rfl, h⟩
    · wp_walk using wpAny_loadPart' hl, wpAny_pyIter_tuple hL
      exact ⟨_, rfl, h⟩
section
variable {prog : Program} {w : World} {A : Around} {E : Value → Shared → Prop} {s : Shared}
theorem call_enumT {l : Addr} {items : Array Value} {Q : Value → Shared → Prop} (hL : s.heap.IsTuple l items)
    (h : ∀ h', IsEnum h' (s.heap.objs.size + 1) s.heap.objs.size 0 .none → h'.IsTupleIter s.heap.objs.size l 0 → h'.objs.size = s.heap.objs.size + 2 →
      (∀ b o, s.heap.get? b = some o → h'.get? b = some o) → Q (.ref (s.heap.objs.size + 1)) { s with heap := h' }) :
    wpAny (model prog w) A (call (.type "enumerate") [.ref l]) Q E s := by
  refine callType_new F.called_enumerate (by decide) (F.typeCall_enumerate_1 _) (F.newCall_enumerate_1 _) (fun obj => F.args_object_init_2 obj _) F.entry_enumerate_new
    (meets_enumT l items) ⟨hL, ?_⟩
  have hz : (s.heap.push { cls := .type "tuple_iterator", data := .fields #[.ref l, .int 0 0] }).objs.size = s.heap.objs.size + 1 := Heap.size_push ..
  show _ ∧ _
  rw [hz]
  have he : IsEnum ((s.heap.push { cls := .type "tuple_iterator", data := .fields #[.ref l, .int 0 0] }).push
      { cls := .type "enumerate", data := .fields #[.none, .bool false, .ref s.heap.objs.size, rawInt 0, .none, .none] }) (s.heap.objs.size + 1) s.heap.objs.size 0 .none := by
    have := Heap.get?_push_size (s.heap.push { cls := .type "tuple_iterator", data := .fields #[.ref l, .int 0 0] })
      (o := { cls := .type "enumerate", data := .fields #[.none, .bool false, .ref s.heap.objs.size, rawInt 0, .none, .none] }) rfl
    rw [hz] at this; exact this
  refine ⟨⟨_, he, rfl⟩, h _ he ⟨_, Heap.get?_push_of_some _ (Heap.get?_push_size _ rfl), rfl, rfl⟩ (by rw [Heap.size_push, hz]) fun b o x => Heap.get?_push_of_some _ (Heap.get?_push_of_some _ x)⟩
end
def IteT (K : PySem.W.Frag) (a : Addr) : It :=
  ⟨fun i H => ∃ (xs : List V) (x : V), SqT K H a xs ∧ xs[i]? = some x, fun i H v H' => ∃ T x, v = .ref T ∧ H T = none ∧ H' = upd H T (.tup [.int (i : Nat), x]) ∧ ∀ xs, SqT K H a xs → xs[i]? = some x, fun i H => ∃ xs : List V, SqT K H a xs ∧ xs.length ≤ i⟩
theorem turn_enumT {P : Program} {w : World} {K : PySem.W.Frag} {elts : List Expr} {kk : Nat} {tpos : Pos} (a e it : Addr) :
    Turn P w K (.Tuple elts kk tpos) (IteT K a) [e, it] e (fun i h => (∃ old, IsEnum h e it ((i : Nat) : Int) old) ∧ h.IsTupleIter it a i ∧ e ≠ it) where
  mem := by simp
  obj := fun i h st b hb => by
    obtain ⟨⟨old, he⟩, ⟨o, ho, hc, hd⟩, _⟩ := st
    have e' : b = e ∨ b = it := by simpa using hb
    rcases e' with z | z
    · rw [z]; exact ⟨_, he, fun v q => nomatch q⟩
    · rw [z]; exact ⟨o, ho, fun v q => by rw [hd] at q; cases q⟩
  keep := fun i h h' st k => let ⟨⟨old, he⟩, hi, hne⟩ := st; ⟨⟨old, k e (by simp) _ he⟩, hi.at fun o q => k it (by simp) o q, hne⟩
  item := by
    intro X hP hw hK hc i pins s σ H E I hf st hg
    subst hP hw hK
    obtain ⟨⟨old, he⟩, hit, hne⟩ := st
    obtain ⟨xs, x, hq, hx⟩ := hg
    obtain ⟨its, rv, p, hz⟩ := I.tuple hq
    obtain ⟨u, hu, ru⟩ := rv.get hx
    have p' : s.heap.IsTuple a its.toArray := p
    have hel : e < s.heap.objs.size := Heap.lt_size he
    have hil : it < s.heap.objs.size := by obtain ⟨_, q, _⟩ := hit; exact Heap.lt_size q
    have hai : a ≠ it := fun z => by
      obtain ⟨o1, q1, c1, _⟩ := hit
      obtain ⟨o2, q2, c2, _⟩ := p'
      rw [z, q1] at q2; cases q2
      rw [c1] at c2; exact absurd (Value.type.inj c2) (by decide)
    have hea : e ≠ a := fun z => by
      obtain ⟨o2, q2, c2, _⟩ := p'
      have he' : s.heap.get? e = some _ := he
      rw [z, q2] at he'; cases he'
      exact absurd (Value.type.inj c2) (by decide)
    have hsz : i < its.toArray.size := by
      have := (List.getElem?_eq_some_iff.mp hu).1
      simpa using this
    refine wpAny_pyNext_enum_itemD (PySem.Draws.tuple (A := X.A.in1) (I.ok.hd hc) it a hai its.toArray) he ⟨hit, p'⟩ hsz hne (by simp [hne, hea]) fun x' h' tk' hPx ho hit' hT hsz' hk => ?_
    have hPx : its[i]? = some x' := by simpa using hPx
    rw [hu] at hPx
    obtain rfl := Option.some.inj hPx
    refine ⟨_, rfl, wpAny_letOwnedTupleGo_enum (s := { s with heap := h', toks := tk' + 1 }) ho fun h'' he' sb => ?_⟩
    have hT2 : h''.get? s.heap.objs.size = some { cls := .type "tuple", data := .seq #[.int i tk', u] } := (sb.2 _ (Nat.ne_of_gt hel)).trans hT
    have new : ObjOk X.prog X.w (upd H s.heap.objs.size (.tup [.int (i : Nat), x])) h'' s.heap.objs.size (.tup [.int (i : Nat), x]) :=
      ⟨by show 2 ≤ sizeLine; decide, [.int i tk', u], .cons ⟨_, rfl⟩ (.cons ru .nil), ⟨_, hT2, rfl, _, rfl⟩⟩
    have I1 : Inv X pins σ (upd H s.heap.objs.size (.tup [.int (i : Nat), x])) { s with heap := h'', toks := tk' + 1 } :=
      I.turnedNew (ch := [e, it]) (fun b ob hb q => (sb.2 b (fun z => hb (by simp [z]))).trans (hk b ob (fun z => hb (by simp [z])) (fun z => hb (by simp [z])) q)) hf (Nat.le_refl _) new
    refine ⟨.ref s.heap.objs.size, _, I1, rfl, ⟨_, x, rfl, I.hok.fresh (Nat.le_refl _), rfl, fun ys hy => by rw [I.tuple_inj hy hq]; exact hx⟩, ⟨⟨u, ?_⟩, hit'.1.at fun o q => (sb.2 it (Ne.symm hne)).trans q, hne⟩, fun b hb => ?_⟩
    · have e1 : ((i + 1 : Nat) : Int) = (i : Int) + 1 := by omega
      rw [e1]; exact he'
    · have hb' : b < s.heap.objs.size := by
        have e' : b = e ∨ b = it := by simpa using hb
        rcases e' with z | z
        · rw [z]; exact hel
        · rw [z]; exact hil
      rw [upd_ne (Nat.ne_of_lt hb')]
      exact (hf b hb).1
  done := by
    intro X hP hw hK hc i pins s σ H E I hf st hg
    subst hP hw hK
    obtain ⟨⟨old, he⟩, hit, hne⟩ := st
    obtain ⟨xs, hq, hx⟩ := hg
    obtain ⟨its, rv, p, hz⟩ := I.tuple hq
    have p' : s.heap.IsTuple a its.toArray := p
    obtain ⟨f0, f1, f2, f3, f4, f5⟩ := hf it (by simp)
    have hl := rv.length
    have hT : s.TypeIs (.ref e) "enumerate" := ⟨_, he, rfl⟩
    unfold pyNext
    refine wpAny_bind (wpAny_attempt (wpAny_callSpecial?_slot (name := Str.ofString "__next__") hT F.slot_enumerate_next
      (wpAny_call_entry F.slot_enumerate_next hT F.entry_enumerate_next ?_ (F.args_enumerate_next_1 _))))
    show wpAny _ _ (field (.ref e) 2 >>= _) _ _ _
    refine wpAny_bind (wpAny_field he rfl (x := .ref it) rfl ?_)
    refine wpAny_bind (wpAny_nextOf_tuple_end (I.ok.hd hc) hit p' (by simp; omega) fun h' x he' hx' => ?_)
    obtain ⟨o, ho, hc'⟩ := hx'
    refine wpAny_bind (wpAny_isInstance (T := "StopIteration") (b := true) ⟨o, ho, hc'⟩ isSubtype_stop ?_)
    exact wpAny_pure ⟨rfl, I.turned (t' := s.toks) (fun b o hb q => he' b o hb q) f0 f1 f3 f4 f5⟩
  self := fun A i s Q E st h => let ⟨⟨_, he⟩, _⟩ := st; wpAny_pyIter_enum he h
def iEnumT (K : PySem.W.Frag) (ta : TA) : TI := fun σ H R => ta σ H fun vs H1 => ∃ a xs, vs = [.ref a] ∧ SqT K H1 a xs ∧ R (IteT K a) H1
theorem pi_enumT {X : Cx} {e : Expr} {ta : TA} {p pos tpos : Pos} {elts : List Expr} {kk : Nat} (hg : Gl X "enumerate") (hm : X.mg "enumerate" = none) (ha : PA X [e] ta) (hs : starEach [e] X.env = [(false, eval e X.env)] := by rfl) :
    PI X (.Tuple elts kk tpos) (.Call (.Name "enumerate" p) [e] [] pos) (iEnumT X.K ta) := by
  refine ⟨fun pins s σ H R I h => ?_⟩
  refine Call_ (ld_blt I hg hm boot_enumerate (PyProof.Rows.callWith_type1 (thn (ha.run pos pins s σ H _ I h) fun us s1 ⟨vs, H1, I1, r1, q1⟩ => ?_) hs rfl))
  obtain ⟨a, xs, ex, hq, q⟩ := q1
  subst ex
  cases r1 with
  | cons r rr =>
    cases rr
    cases r
    obtain ⟨its, rv, p', hz⟩ := I1.tuple hq
    refine call_enumT (show s1.heap.IsTuple a its.toArray from p') fun h' he hit hsz hk => wpAny_pyIter_enum he ?_
    have I2 : Inv X pins σ H1 { s1 with heap := h' } := I1.kept (t' := s1.toks) hk
    refine ⟨s1.heap.objs.size + 1, [s1.heap.objs.size + 1, s1.heap.objs.size], _, _, H1, rfl, I2, turn_enumT a (s1.heap.objs.size + 1) s1.heap.objs.size, ⟨⟨.none, he⟩, hit, Nat.succ_ne_self _⟩, fun b hb => ?_, q⟩
    have e' : b = s1.heap.objs.size + 1 ∨ b = s1.heap.objs.size := by simpa using hb
    have hle : s1.heap.objs.size ≤ b := by
      rcases e' with z | z
      · rw [z]; exact Nat.le_add_right _ _
      · rw [z]; exact Nat.le_refl _
    exact I1.fpOk hle (I1.hok.fresh hle)
end L3G
namespace L3
open PySem L2
open Evl (Ex ex_rd ex_l ex_t sq_of st_of fresh_back)
/-- (0, x), (1, y), .. -/
def enumI {α : Type} : Nat → List α → List (Int × α)
  | _, [] => []
  | n, x :: xs => ((n : Int), x) :: enumI (n + 1) xs
theorem enumI_len {α : Type} : ∀ (n : Nat) (xs : List α), (enumI n xs).length = xs.length
  | _, [] => rfl
  | n, _ :: xs => congrArg (· + 1) (enumI_len (n + 1) xs)
theorem enumI_get {α : Type} : ∀ {n i : Nat} {xs : List α} {q : Int × α}, (enumI n xs)[i]? = some q → q.1 = ((n + i : Nat) : Int) ∧ xs[i]? = some q.2
  | _, _, [], _, h => by simp [enumI] at h
  | n, 0, x :: xs, q, h => by
    obtain rfl : ((n : Int), x) = q := by simpa [enumI] using h
    exact ⟨rfl, rfl⟩
  | n, i + 1, x :: xs, q, h => by
    obtain ⟨h1, h2⟩ := enumI_get (n := n + 1) (i := i) (xs := xs) (q := q) (by simpa [enumI] using h)
    refine ⟨h1.trans ?_, h2⟩
    congr 1
    omega
section
variable {K : Fg} {M : Fr} {σ : St} {B : Hp} {L L1 L2 L' : List Cell} {α β γ δ : Type} {r : Rep α} {te : TE}
theorem ei_enumT {xs : List α} (h : EV K M te σ B L (rTup r) xs L') : EI K M (L3G.iEnumT K (tCons te tNil)) σ B L (rT2 rInt r) (enumI 0 xs) L' := fun B1 H e w R q => h B1 H e w _ fun v B2 H2 e2 w2 hv => by
  obtain ⟨p, vs, rfl, hs, hp⟩ := hv
  refine ⟨p, vs, rfl, ex_t w2.b hs, q _ B2 H2 e2 w2 ⟨fun i a B' L' H' e' w' hi => ?_, fun B' L' H' e' w' => ⟨vs, ex_t (e'.trans w'.b) hs, by rw [enumI_len, paired_len hp]; exact Nat.le_refl _⟩⟩⟩
  obtain ⟨h1, h2⟩ := enumI_get hi
  obtain ⟨x, hx, hr⟩ := paired_get hp h2
  refine ⟨⟨vs, x, ex_t (e'.trans w'.b) hs, hx⟩, fun y H3 hy => ?_⟩
  obtain ⟨T, z, rfl, hT, rfl, hy⟩ := hy
  have := hy vs (ex_t (e'.trans w'.b) hs)
  rw [hx] at this
  cases this
  have eN := Ex.new (o := HO.tup [.int (i : Nat), x]) (fresh_back w'.b hT)
  exact ⟨upd B' T _, eN, w'.ext hT, ⟨T, _, _, rfl, st_of upd_same, by rw [h1]; show V.int _ = V.int _; congr 1; simp, r.mono (e'.trans eN) hr⟩⟩
theorem ei_enumL {xs : List α} (h : EV K M te σ B L (rLst r) xs L') : EI K M (iEnum K (tCons te tNil)) σ B L (rT2 rInt r) (enumI 0 xs) L' := fun B1 H e w R q => h B1 H e w _ fun v B2 H2 e2 w2 hv => by
  obtain ⟨p, vs, rfl, hs, hp⟩ := hv
  refine ⟨p, vs, rfl, ex_l w2.b hs, q _ B2 H2 e2 w2 ⟨fun i a B' L' H' e' w' hi => ?_, fun B' L' H' e' w' => ⟨vs, ex_l (e'.trans w'.b) hs, by rw [enumI_len, paired_len hp]; exact Nat.le_refl _⟩⟩⟩
  obtain ⟨h1, h2⟩ := enumI_get hi
  obtain ⟨x, hx, hr⟩ := paired_get hp h2
  refine ⟨⟨vs, x, ex_l (e'.trans w'.b) hs, hx⟩, fun y H3 hy => ?_⟩
  obtain ⟨T, z, rfl, hT, rfl, hy⟩ := hy
  have := hy vs (ex_l (e'.trans w'.b) hs)
  rw [hx] at this
  cases this
  have eN := Ex.new (o := HO.tup [.int (i : Nat), x]) (fresh_back w'.b hT)
  exact ⟨upd B' T _, eN, w'.ext hT, ⟨T, _, _, rfl, st_of upd_same, by rw [h1]; show V.int _ = V.int _; congr 1; simp, r.mono (e'.trans eN) hr⟩⟩
end
end L3

/-! a tuple backwards -/
namespace L3G
open PySem PySem.Spec PyProof.Rows L2 HT
section
variable {prog : Program} {w : World} {A : Around} {E : Value → Shared → Prop} {s : Shared}
theorem adjust_back (n : Nat) : Builtin.Slice.sliceAdjust none none (-1) (n : Int) = ((n : Int) - 1, -1) := by
  unfold Builtin.Slice.sliceAdjust
  simp
theorem places_back (n : Nat) : Builtin.Slice.slicePlaces ((n : Int) - 1) (-1) (-1) = n := by
  unfold Builtin.Slice.slicePlaces
  simp
  omega
theorem fm_some {α β : Type} {f : α → Option β} {g : α → β} : ∀ {l : List α}, (∀ m ∈ l, f m = some (g m)) → l.filterMap f = l.map g
  | [], _ => rfl
  | x :: l, h => by
    rw [List.filterMap_cons, h x List.mem_cons_self, List.map_cons, fm_some fun m hm => h m (List.mem_cons_of_mem _ hm)]
theorem pick_back (xs : Array Value) : ((List.range xs.size).filterMap fun (m : Nat) => xs[(((xs.size : Int) - 1) + (m : Int) * (-1)).toNat]?).toArray = xs.toList.reverse.toArray := by
  congr 1
  have e : ∀ m ∈ List.range xs.size, xs[(((xs.size : Int) - 1) + (m : Int) * (-1)).toNat]? = some ((xs.toList.reverse).getD m .none) := fun m hm => by
    have hm := List.mem_range.mp hm
    have e1 : (((xs.size : Int) - 1) + (m : Int) * (-1)).toNat = xs.size - 1 - m := by omega
    rw [e1, List.getD_eq_getElem?_getD, List.getElem?_reverse (by simpa using hm), Array.length_toList, Array.getElem?_toList]
    cases q : xs[xs.size - 1 - m]? with
    | none => have := Array.getElem?_eq_none_iff.mp q; omega
    | some v => rfl
  rw [fm_some e]
  refine List.ext_getElem? fun i => ?_
  rw [List.getElem?_map]
  by_cases hi : i < xs.size
  · rw [List.getElem?_range hi]
    have hl : i < xs.toList.reverse.length := by simpa using hi
    simp only [Option.map_some]
    rw [List.getD_eq_getElem?_getD, List.getElem?_eq_getElem hl]
    rfl
  · rw [List.getElem?_eq_none (by simpa using hi), List.getElem?_eq_none (by simpa using hi)]
    rfl
theorem sliceApplied_back {sl : Addr} {n : Nat} {vs : Value} {Q : Int × Int × Nat → Shared → Prop} (hs : s.heap.IsSliceOf sl .none .none vs) (pv : IsPart vs (some (-1)))
    (h : Q ((n : Int) - 1, -1, n) s) : wpAny (model prog w) A (Builtin.Slice.sliceApplied (.ref sl) (pure (n : Int))) Q E s := by
  obtain ⟨os, hos, hcs, hds⟩ := id hs
  unfold Builtin.Slice.sliceApplied Builtin.Slice.sliceFields
  refine wpAny_bind (wpAny_bind (wpAny_field hos hds (x := .none) rfl (wpAny_bind (wpAny_field hos hds (x := .none) rfl (wpAny_bind (wpAny_field hos hds (x := vs) rfl (wpAny_pure ?_)))))))
  refine wpAny_bind (slicePart_ pv ?_)
  show wpAny _ _ (if ((-1 : Int) == 0) = true then _ else _) _ _ s
  rw [if_neg (by decide)]
  refine wpAny_bind (slicePart_ (o := none) .none (wpAny_bind (slicePart_ (o := none) .none (wpAny_bind (wpAny_pure ?_)))))
  show wpAny _ _ (match Builtin.Slice.sliceAdjust none none (-1) (n : Int) with | (lo, hi) => pure (lo, (-1 : Int), Builtin.Slice.slicePlaces lo hi (-1))) _ _ s
  rw [adjust_back]
  show wpAny _ _ (pure ((n : Int) - 1, (-1 : Int), Builtin.Slice.slicePlaces ((n : Int) - 1) (-1) (-1))) _ _ s
  rw [places_back]
  exact wpAny_pure h
theorem getItem_tuple_back {t sl : Addr} {items : Array Value} {vs : Value} {Q : Value → Shared → Prop} (ht : IsTup s.heap t items) (hs : s.heap.IsSliceOf sl .none .none vs) (pv : IsPart vs (some (-1)))
    (h : Q (.ref s.heap.objs.size) { s with heap := s.heap.push { cls := .type "tuple", data := .seq items.toList.reverse.toArray } })
    (hsz : items.size ≤ sizeLine) : wpAny (model prog w) A (getItem (.ref t) (.ref sl)) Q E s := by
  have htake : sizeOk (.seq items.toList.reverse.toArray) := by
    show items.toList.reverse.toArray.size ≤ sizeLine
    rw [List.size_toArray, List.length_reverse, Array.length_toList]
    exact hsz
  obtain ⟨os, hos, hcs, hds⟩ := id hs
  have hTs : s.TypeIs (.ref sl) "slice" := ⟨os, hos, hcs⟩
  unfold getItem
  try with_reducible refine wpAny_holding ?_
  first | refine wpAny_bind (wpAny_pure ?_) | skip
  refine wpAny_bind (wpAny_sequenceKey ht.typeIs (by decide) ?_)
  refine wpAny_bind (wpAny_callSpecial?_slot (name := Str.ofString "__getitem__") ht.typeIs PyProof.Rows.slot_tuple_getitem
    (wpAny_call_entry PyProof.Rows.slot_tuple_getitem ht.typeIs PyProof.Rows.entry_tuple_getitem ?_ (PyProof.Rows.args_tuple_getitem _ _)))
  show wpAny _ _ (Builtin.Tuple.tupleItemsOf (.ref t) >>= _) _ _ s
  refine wpAny_bind (tupleItemsOf_ ht ?_)
  refine wpAny_bind (wpAny_typeOf hTs ?_)
  rw [if_pos (by decide)]
  refine wpAny_bind (sliceApplied_back hs pv ?_)
  have hno : ¬ ((((items.size : Int) - 1) == 0 && (-1 : Int) == 1 && items.size == items.size) = true) := by
    intro q
    rw [Bool.and_eq_true, Bool.and_eq_true] at q
    exact absurd q.1.2 (by decide)
  show wpAny _ _ (if (((items.size : Int) - 1) == 0 && (-1 : Int) == 1 && items.size == items.size) = true then _ else _) _ _ s
  rw [if_neg hno, pick_back]
  first
    | exact wpAny_bind (m := Builtin.Tuple.tupleExact _) (wpAny_newObj_type (wpAny_pure ⟨_, rfl, wpAny_pure h⟩) htake)
    | exact wpAny_bind (m := Builtin.Tuple.tupleExact _) (wpAny_newObj_type (wpAny_bind (wpAny_pure (wpAny_pure ⟨_, rfl, wpAny_pure h⟩))) htake)
    | exact wpAny_bind (wpAny_bind (m := Builtin.Tuple.tupleExact _) (wpAny_newObj_type (wpAny_pure (wpAny_pure ⟨_, rfl, wpAny_pure h⟩)) htake))
    | exact wpAny_bind (wpAny_bind (m := Builtin.Tuple.tupleExact _) (wpAny_newObj_type (wpAny_pure ⟨_, rfl, wpAny_pure h⟩) htake))
end
def tRevT (K : PySem.W.Frag) (te : TE) : TE := fun σ H Q => te σ H fun x H1 => ∃ a xs, x = .ref a ∧ SqT K H1 a xs ∧ ∀ p, H1 p = none → Q (.ref p) (upd H1 p (.tup xs.reverse))
theorem pe_revT {X : Cx} {e : Expr} {te : TE} {k : Nat} {p1 p2 p3 pos : Pos} (he : PE X e te) : PE X (.Subscript e (.Slice none none (some (.UnaryOp .USub (.Constant (.int 1) k p1) p2)) p3) pos) (tRevT X.K te) := by
  refine ⟨fun pins s σ H Q I h => ?_⟩
  refine Subscript_ (thn (he.run pins s σ H _ I h) fun v s1 ⟨x, H1, I1, r1, q1⟩ => ?_)
  obtain ⟨a, xs, ex, hx, q⟩ := q1
  subst ex
  cases r1
  have hst : PO X (some (.UnaryOp .USub (.Constant (.int 1) k p1) p2)) (tPart (tUn (rU fun i => .int (-i)) (tC (.int 1)))) := po_some (pe_un un_neg pe_int)
  refine wpAny_Slice ?_
  rw [evalPart_none]
  refine wpAny_pure ?_
  refine wpAny_pure ?_
  refine thn (hst.run pins s1 σ H1 (fun o H4 => o = some (-1) ∧ H4 = H1) I1 ⟨1, rfl, -1, rfl, rfl, rfl⟩) fun vs s4 ⟨o, H4, I4, ps, eo, e4⟩ => ?_
  subst eo e4
  have I5 : Inv X pins σ H4 { s4 with heap := s4.heap.push { cls := .type "slice", data := .fields #[.none, .none, vs] } } := I4.kept (t' := s4.toks) fun b ob q => Heap.get?_push_of_some _ q
  obtain ⟨its, r, ht, hz⟩ := I5.tuple hx
  have hlen := r.length
  show wpAny (model X.prog X.w) X.A (subscriptTail e (.Slice none none (some (.UnaryOp .USub (.Constant (.int 1) k p1) p2)) p3) (.ref a) (.ref s4.heap.objs.size)) (EP X pins σ Q) X.xe { s4 with heap := s4.heap.push { cls := .type "slice", data := .fields #[.none, .none, vs] } }
  refine tail_any (ops := [.ref a, .ref s4.heap.objs.size]) ht.typeIs (PyProof.Rows.slot_tuple_getitem.lookup) ?_ (by with_unfolding_all rfl)
  refine getItem_tuple_back ht (Heap.IsSliceOf.new _ .none .none vs) ps ?_ (by rw [List.size_toArray]; omega)
  refine ⟨.ref _, _, I5.laid (t' := s4.toks) (o := .tup xs.reverse) (fun b ob q => Heap.get?_push_of_some _ q) (Nat.le_refl _) ?_, rfl, q _ (I5.hok.fresh (Nat.le_refl _))⟩
  exact ⟨by rw [List.length_reverse]; exact hz, _, r.reverse, IsTup.new _ _⟩
end L3G
namespace L3
open PySem L2
open Evl (Ex ex_rd ex_l ex_t sq_of st_of fresh_back)

/-! ### comprehensions -/
def compM {S α β : Type} (f : S → α → Option (Option β × S)) : S → List α → Option (List β × S)
  | s, [] => some ([], s)
  | s, x :: xs => match f s x with
    | some (o, s') => (match compM f s' xs with
      | some (ys, s2) => some (o.toList ++ ys, s2)
      | none => none)
    | none => none
section
variable {K : Fg} {M : Fr} {σ : St} {B : Hp} {L L1 L2 L' : List Cell} {α β γ δ : Type} {r : Rep α} {s : Rep β} {t : Rep γ} {ta tb tc te : TE} {tt tu : TT} {tA : TA} {i j k : Int} {b c : Bool} {wi : TI} {g : TG}
theorem compM_len {S : Type} {f : S → α → Option (Option β × S)} : ∀ {xs : List α} {s0 s1 : S} {ys : List β}, compM f s0 xs = some (ys, s1) → ys.length ≤ xs.length
  | [], _, _, _, h => by obtain ⟨rfl, _⟩ := Prod.mk.inj (Option.some.inj h); exact Nat.le_refl _
  | x :: xs, s0, s1, ys, h => by
    unfold compM at h
    cases e : f s0 x with
    | none => rw [e] at h; cases h
    | some q =>
      obtain ⟨o, s'⟩ := q
      rw [e] at h
      dsimp only at h
      cases e2 : compM f s' xs with
      | none => rw [e2] at h; cases h
      | some q2 =>
        obtain ⟨zs, s2⟩ := q2
        rw [e2] at h
        obtain ⟨rfl, _⟩ := Prod.mk.inj (Option.some.inj h)
        have := compM_len e2
        cases o <;> simp <;> omega
theorem lc_yes {PY : VK} {PN : Hp → Prop} {H : Hp} (h : te σ H PY) : tYes σ H fun b H3 => if b = true then te σ H3 PY else PN H3 := by
  show (if true = true then te σ H PY else PN H)
  rw [if_pos rfl]
  exact h
theorem lc_if {b : Bool} {X Y : Prop} (h1 : b = true → X) (h2 : b = false → Y) : if b = true then X else Y := by
  cases b with
  | true => rw [if_pos rfl]; exact h1 rfl
  | false => rw [if_neg Bool.false_ne_true]; exact h2 rfl
theorem el_lc {S : Type} {vs : List Nat} {σ' : St} {xs : List α} {ys : List β} {s0 s1 : S} (s : Rep β) (hi : EI K M wi σ B L r xs L1) (f : S → α → Option (Option β × S)) (Lf : S → List Cell) (hL : Lf s0 = L1) (hm : compM f s0 xs = some (ys, s1)) (hr : room xs.length = some ()) (hw : wipe σ vs = σ')
    (hs : ∀ st x o st' v D acc B' H', f st x = some (o, st') → Ex B B' → Own K B' M (⟨D, cLst s, acc⟩ :: Lf st) H' → r.is K B' v x → ∀ (PY : VK) (PN : Hp → Prop),
      (∀ y B2 H2 b, o = some b → Ex B' B2 → Own K B2 M (⟨D, cLst s, acc⟩ :: Lf st') H2 → s.is K B2 y b → PY y H2) → (∀ B2 H2, o = none → Ex B' B2 → Own K B2 M (⟨D, cLst s, acc⟩ :: Lf st') H2 → PN H2) →
      g v σ' H' fun σ2 H2 => wipe σ2 vs = σ' ∧ tt σ2 H2 fun b H3 => if b = true then te σ2 H3 PY else PN H3) :
    EVL K M (tLc wi g tt te vs) σ B L s ys (Lf s1) := fun B1 H e w Q q => by
  refine hi B1 H e w _ fun J B2 H2 e2 w2 wk => ?_
  intro D hD
  subst hL
  subst hw
  have w3 : Own K B2 M (⟨D, cLst s, []⟩ :: Lf s0) (upd H2 D (.lst [])) := w2.new hD ⟨[], rfl, .nil⟩
  refine ⟨fun i m H' => m = xs.length - i ∧ i ≤ xs.length ∧ ∃ st acc B', Ex B2 B' ∧ Own K B' M (⟨D, cLst s, acc⟩ :: Lf st) H' ∧ acc.length ≤ i ∧ ∃ zs, compM f st (xs.drop i) = some (zs, s1) ∧ acc ++ zs = ys,
    ⟨_, rfl, Nat.zero_le _, s0, [], B2, Ex.refl _, w3, Nat.zero_le _, ys, hm, rfl⟩, ?_⟩
  rintro i m H' ⟨rfl, hil, st, acc, B', eb, w', hacc, zs, hz, hzs⟩
  by_cases hl : i = xs.length
  · subst hl
    rw [List.drop_length] at hz
    obtain ⟨rfl, rfl⟩ := Prod.mk.inj (Option.some.inj hz)
    rw [List.append_nil] at hzs
    subst hzs
    exact .inl ⟨wk.stop B' _ H' eb w', q D B' H' (e2.trans eb) w'⟩
  · have hlt : i < xs.length := by omega
    rw [List.drop_eq_getElem_cons hlt] at hz
    have hx : xs[i]? = some xs[i] := List.getElem?_eq_getElem hlt
    obtain ⟨g1, g2⟩ := wk.go i xs[i] B' _ H' eb w' hx
    unfold compM at hz
    cases hf : f st xs[i] with
    | none => rw [hf] at hz; cases hz
    | some q2 =>
      obtain ⟨o, st'⟩ := q2
      rw [hf] at hz
      dsimp only at hz
      cases hc : compM f st' (xs.drop (i + 1)) with
      | none => rw [hc] at hz; cases hz
      | some q3 =>
        obtain ⟨zs', s2⟩ := q3
        rw [hc] at hz
        obtain ⟨rfl, rfl⟩ := Prod.mk.inj (Option.some.inj hz)
        refine .inr ⟨g1, fun H5 => i + 1 ≤ xs.length ∧ ∃ st acc B', Ex B2 B' ∧ Own K B' M (⟨D, cLst s, acc⟩ :: Lf st) H5 ∧ acc.length ≤ i + 1 ∧ ∃ zs, compM f st (xs.drop (i + 1)) = some (zs, s2) ∧ acc ++ zs = ys, fun H5 h5 => ⟨xs.length - (i + 1), by omega, rfl, h5⟩, fun x H4 hy => ?_⟩
        obtain ⟨B4, e4, w4, hrx⟩ := g2 x H4 hy
        have hb := (e.trans e2).trans (eb.trans e4)
        refine hs st xs[i] o st' x D acc B4 H4 hf hb w4 hrx (fun y H6 => ∃ acc', H6 D = some (.lst acc') ∧ acc'.length < sizeLine ∧ (fun H5 => i + 1 ≤ xs.length ∧ ∃ st acc B', Ex B2 B' ∧ Own K B' M (⟨D, cLst s, acc⟩ :: Lf st) H5 ∧ acc.length ≤ i + 1 ∧ ∃ zs, compM f st (xs.drop (i + 1)) = some (zs, s2) ∧ acc ++ zs = ys) (upd H6 D (.lst (acc' ++ [y])))) _ (fun y B5 H5 b' ho e5 w5 hyb => ?_) fun B5 H5 ho e5 w5 => ?_
        · subst ho
          obtain ⟨⟨o', a1, vs', a2, a3⟩, _⟩ := w5.at (i := 0) rfl
          have a1 : H5 D = some o' := a1
          refine ⟨vs', by rw [a1, a2], ?_, hlt, st', acc ++ [b'], B5, (eb.trans e4).trans e5, w5.set (i := 0) rfl (c' := cLst s) ⟨_, rfl, paired_app a3 (.cons hyb .nil)⟩, by simp; omega, zs', hc, by simpa using hzs⟩
          have hq := room_some hr
          have := paired_len a3
          have : vs'.length = acc.length := this
          omega
        · subst ho
          exact ⟨hlt, st', acc, B5, (eb.trans e4).trans e5, w5, by omega, zs', hc, by simpa using hzs⟩
/-! ### tuple(..), list(..) -/
theorem ev_tupOfL {xs : List α} (h : EV K M te σ B L (rLst r) xs L') : EV K M (tCB (fun xs H Q => ∃ p ys, xs = [.ref p] ∧ ((SqL K H p ys ∧ ∀ l, H l = none → Q (.ref l) (upd H l (.tup ys))) ∨ (SqT K H p ys ∧ Q (.ref p) H))) (tCons te tNil)) σ B L (rTup r) xs L' := fun B1 H e w Q q =>
  h B1 H e w _ fun v B2 H2 e2 w2 hv => by
    obtain ⟨p, vs, rfl, hs, hp⟩ := hv
    refine ⟨p, vs, rfl, .inl ⟨ex_l w2.b hs, fun l hl => ?_⟩⟩
    have eN := Ex.new (o := HO.tup vs) (fresh_back w2.b hl)
    exact q _ (upd B2 l _) _ (e2.trans eN) (w2.ext hl) ⟨l, vs, rfl, st_of upd_same, paired_mono eN hp⟩
theorem ev_tupOfT {xs : List α} (h : EV K M te σ B L (rTup r) xs L') : EV K M (tCB (fun xs H Q => ∃ p ys, xs = [.ref p] ∧ ((SqL K H p ys ∧ ∀ l, H l = none → Q (.ref l) (upd H l (.tup ys))) ∨ (SqT K H p ys ∧ Q (.ref p) H))) (tCons te tNil)) σ B L (rTup r) xs L' := fun B1 H e w Q q =>
  h B1 H e w _ fun v B2 H2 e2 w2 hv => by
    obtain ⟨p, vs, rfl, hs, hp⟩ := hv
    exact ⟨p, vs, rfl, .inr ⟨ex_t w2.b hs, q _ B2 H2 e2 w2 ⟨p, vs, rfl, hs, hp⟩⟩⟩
theorem el_listOf {xs : List α} (h : EV K M te σ B L (rSeq r) xs L') : EVL K M (tCB (fun xs H Q => ∃ p ys, xs = [.ref p] ∧ (SqL K H p ys ∨ SqT K H p ys) ∧ ∀ l, H l = none → Q (.ref l) (upd H l (.lst ys))) (tCons te tNil)) σ B L r xs L' := fun B1 H e w Q q =>
  h B1 H e w _ fun v B2 H2 e2 w2 hv => by
    obtain ⟨p, vs, rfl, hs, hp⟩ := hv
    exact ⟨p, vs, rfl, hs.imp (ex_l w2.b) (ex_t w2.b), fun l hl => q l B2 _ e2 (w2.new hl ⟨vs, rfl, hp⟩)⟩
theorem el_listOfC {n : Nat} {p : Addr} {xs : List α} (h : EV K M te σ B L rRef p L') (hc : L'[n]? = some ⟨p, cLst r, xs⟩) : EVL K M (tCB (fun xs H Q => ∃ p ys, xs = [.ref p] ∧ (SqL K H p ys ∨ SqT K H p ys) ∧ ∀ l, H l = none → Q (.ref l) (upd H l (.lst ys))) (tCons te tNil)) σ B L r xs L' := fun B1 H e w Q q =>
  h B1 H e w _ fun v B2 H2 e2 w2 hv => by
    have hv : v = .ref p := hv
    subst hv
    obtain ⟨⟨o, h1, vs, h2, hp⟩, _⟩ := w2.at hc
    have h1 : H2 p = some o := h1
    exact ⟨p, vs, rfl, .inl (sq_of (by rw [h1, h2])), fun l hl => q l B2 _ e2 (w2.new hl ⟨vs, rfl, hp⟩)⟩
theorem ev_tupOfC {n : Nat} {p : Addr} {xs : List α} (h : EV K M te σ B L rRef p L') (hc : L'[n]? = some ⟨p, cLst r, xs⟩) : EV K M (tCB (fun xs H Q => ∃ p ys, xs = [.ref p] ∧ ((SqL K H p ys ∧ ∀ l, H l = none → Q (.ref l) (upd H l (.tup ys))) ∨ (SqT K H p ys ∧ Q (.ref p) H))) (tCons te tNil)) σ B L (rTup r) xs L' := fun B1 H e w Q q =>
  h B1 H e w _ fun v B2 H2 e2 w2 hv => by
    have hv : v = .ref p := hv
    subst hv
    obtain ⟨⟨o, h1, vs, h2, hp⟩, _⟩ := w2.at hc
    have h1 : H2 p = some o := h1
    refine ⟨p, vs, rfl, .inl ⟨sq_of (by rw [h1, h2]), fun l hl => ?_⟩⟩
    have eN := Ex.new (o := HO.tup vs) (fresh_back w2.b hl)
    exact q _ (upd B2 l _) _ (e2.trans eN) (w2.ext hl) ⟨l, vs, rfl, st_of upd_same, paired_mono eN hp⟩
/-! ### slices -/
def cutL (xs : List α) (lo hi : Option Int) : List α := (xs.drop (HT.sIx xs.length 0 lo)).take (HT.sIx xs.length xs.length hi - HT.sIx xs.length 0 lo)
theorem paired_cut {F : V → α → Prop} {xs : List V} {as : List α} (h : Paired F xs as) (lo hi : Option Int) : Paired F (cutV xs lo hi) (cutL as lo hi) := by
  unfold cutV cutL
  rw [paired_len h]
  exact paired_take _ (paired_drop _ h)
def EO (K : Fg) (M : Fr) (t : TO) (σ : St) (B : Hp) (L : List Cell) (o : Option Int) (L' : List Cell) : Prop :=
  ∀ B1 H, Ex B B1 → Own K B1 M L H → ∀ Q : Option Int → Hp → Prop, (∀ B2 H2, Ex B1 B2 → Own K B2 M L' H2 → Q o H2) → t σ H Q
theorem eo_none : EO K M tNoPart σ B L none L := fun B1 H e w Q q => q B1 H (Ex.refl _) w
theorem eo_some (h : EV K M te σ B L rInt i L') : EO K M (tPart te) σ B L (some i) L' := fun B1 H e w Q q => h B1 H e w _ fun v B2 H2 e2 w2 hv => ⟨i, hv, q B2 H2 e2 w2⟩
theorem cut_all {xs : List α} {lo hi : Option Int} (h1 : HT.sIx xs.length 0 lo = 0) (h2 : HT.sIx xs.length xs.length hi = xs.length) : cutL xs lo hi = xs := by
  unfold cutL
  rw [h1, h2]
  simp
theorem ev_slT {xs : List α} {tl th : TO} {lo hi : Option Int} (h : EV K M te σ B L (rTup r) xs L1) (hl : EO K M tl σ B L1 lo L2) (hh : EO K M th σ B L2 hi L') : EV K M (tSl (rSlA K) te tl th) σ B L (rTup r) (cutL xs lo hi) L' := fun B1 H e w Q q =>
  h B1 H e w _ fun v B2 H2 e2 w2 hv => hl B2 H2 (e.trans e2) w2 _ fun B3 H3 e3 w3 => hh B3 H3 ((e.trans e2).trans e3) w3 _ fun B4 H4 e4 w4 => by
    obtain ⟨p, vs, rfl, hs, hp⟩ := hv
    have e34 := e3.trans e4
    have hp4 := paired_mono e34 hp
    refine ⟨p, vs, rfl, ex_t w4.b (ex_t e34 hs), fun ⟨h1, h2⟩ => ?_, fun _ l hl => ?_⟩
    · refine q _ B4 H4 (e2.trans e34) w4 ⟨p, vs, rfl, ex_t e34 hs, ?_⟩
      rw [paired_len hp] at h1 h2
      rw [cut_all h1 h2]
      exact hp4
    · have eN := Ex.new (o := HO.tup (cutV vs lo hi)) (fresh_back w4.b hl)
      exact q _ (upd B4 l _) _ ((e2.trans e34).trans eN) (w4.ext hl) ⟨l, _, rfl, st_of upd_same, paired_mono eN (paired_cut hp4 lo hi)⟩
theorem el_slL {xs : List α} {tl th : TO} {lo hi : Option Int} (h : EV K M te σ B L (rLst r) xs L1) (hl : EO K M tl σ B L1 lo L2) (hh : EO K M th σ B L2 hi L') : EVL K M (tSl (rSlL K) te tl th) σ B L r (cutL xs lo hi) L' := fun B1 H e w Q q =>
  h B1 H e w _ fun v B2 H2 e2 w2 hv => hl B2 H2 (e.trans e2) w2 _ fun B3 H3 e3 w3 => hh B3 H3 ((e.trans e2).trans e3) w3 _ fun B4 H4 e4 w4 => by
    obtain ⟨p, vs, rfl, hs, hp⟩ := hv
    have e34 := e3.trans e4
    exact ⟨p, vs, rfl, ex_l w4.b (ex_l e34 hs), fun l hl => q l B4 _ (e2.trans e34) (w4.new hl ⟨_, rfl, paired_cut (paired_mono e34 hp) lo hi⟩)⟩
theorem el_revL {xs : List α} (h : EV K M te σ B L (rLst r) xs L') : EVL K M (tRevL K te) σ B L r xs.reverse L' := fun B1 H e w Q q =>
  h B1 H e w _ fun v B2 H2 e2 w2 hv => by
    obtain ⟨p, vs, rfl, hs, hp⟩ := hv
    exact ⟨p, vs, rfl, ex_l w2.b hs, fun l hl => q l B2 _ e2 (w2.new hl ⟨_, rfl, paired_rev hp⟩)⟩
theorem el_revC {n : Nat} {p : Addr} {xs : List α} (h : EV K M te σ B L rRef p L') (hc : L'[n]? = some ⟨p, cLst r, xs⟩) : EVL K M (tRevL K te) σ B L r xs.reverse L' := fun B1 H e w Q q =>
  h B1 H e w _ fun v B2 H2 e2 w2 hv => by
    have hv : v = .ref p := hv
    subst hv
    obtain ⟨⟨o, h1, vs, h2, hp⟩, _⟩ := w2.at hc
    have h1 : H2 p = some o := h1
    exact ⟨p, vs, rfl, sq_of (by rw [h1, h2]), fun l hl => q l B2 _ e2 (w2.new hl ⟨_, rfl, paired_rev hp⟩)⟩
theorem ev_revT {xs : List α} (h : EV K M te σ B L (rTup r) xs L') : EV K M (L3G.tRevT K te) σ B L (rTup r) xs.reverse L' := fun B1 H e w Q q =>
  h B1 H e w _ fun v B2 H2 e2 w2 hv => by
    obtain ⟨p, vs, rfl, hs, hp⟩ := hv
    refine ⟨p, vs, rfl, ex_t w2.b hs, fun l hl => ?_⟩
    have eN := Ex.new (o := HO.tup vs.reverse) (fresh_back w2.b hl)
    exact q _ (upd B2 l _) _ (e2.trans eN) (w2.ext hl) ⟨l, _, rfl, st_of upd_same, paired_mono eN (paired_rev hp)⟩
/-! ### tuples: +, * -/
def catT (xs ys : List α) : Option (List α) := if xs.length + ys.length ≤ 1000000 then some (xs ++ ys) else none
theorem ev_catT {xs ys zs : List α} (h : EV K M ta σ B L (rTup r) xs L1) (h' : EV K M tb σ B L1 (rTup r) ys L2) (hc : catT xs ys = some zs) : EV K M (tOp (rCatA K) ta tb) σ B L (rTup r) zs L2 := fun B1 H e w Q q =>
  h B1 H e w _ fun v B2 H2 e2 w2 hv => h' B2 H2 (e.trans e2) w2 _ fun u B3 H3 e3 w3 hu => by
    obtain ⟨p, vs, rfl, hs, hp⟩ := hv
    obtain ⟨p', us, rfl, hs', hp'⟩ := hu
    unfold catT at hc
    split at hc
    · rename_i hl
      obtain rfl := Option.some.inj hc
      have hp3 := paired_mono e3 hp
      have l1 := paired_len hp
      have l2 := paired_len hp'
      refine ⟨p, p', vs, us, rfl, rfl, ex_t w3.b (ex_t e3 hs), ex_t w3.b hs', Nat.le_trans (by omega) (show 1000000 ≤ sizeLine by decide), fun hz => ?_, fun _ hz => ?_, fun _ _ l hl => ?_⟩
      · subst hz
        have : xs = [] := List.length_eq_zero_iff.mp l1.symm
        subst this
        exact q _ B3 H3 (e2.trans e3) w3 ⟨p', us, rfl, hs', hp'⟩
      · subst hz
        have : ys = [] := List.length_eq_zero_iff.mp l2.symm
        subst this
        exact q _ B3 H3 (e2.trans e3) w3 ⟨p, vs, rfl, ex_t e3 hs, by rw [List.append_nil]; exact hp3⟩
      · have eN := Ex.new (o := HO.tup (vs ++ us)) (fresh_back w3.b hl)
        exact q _ (upd B3 l _) _ ((e2.trans e3).trans eN) (w3.ext hl) ⟨l, _, rfl, st_of upd_same, paired_mono eN (paired_app hp3 hp')⟩
    · cases hc
def repT (xs : List α) (k : Int) : Option (List α) := if xs ≠ [] ∧ 2 ≤ k ∧ k ≤ 1000 ∧ xs.length ≤ 1000 then some (List.replicate k.toNat xs).flatten else none
theorem paired_rep {F : V → α → Prop} {xs : List V} {as : List α} (h : Paired F xs as) : ∀ n : Nat, Paired F (List.replicate n xs).flatten (List.replicate n as).flatten
  | 0 => .nil
  | n + 1 => by
    rw [List.replicate_succ, List.replicate_succ, List.flatten_cons, List.flatten_cons]
    exact paired_app h (paired_rep h n)
theorem ev_repT {xs zs : List α} (h : EV K M ta σ B L (rTup r) xs L1) (h' : EV K M tb σ B L1 rInt k L2) (hc : repT xs k = some zs) : EV K M (tOp (rRepT K) ta tb) σ B L (rTup r) zs L2 := fun B1 H e w Q q =>
  h B1 H e w _ fun v B2 H2 e2 w2 hv => h' B2 H2 (e.trans e2) w2 _ fun u B3 H3 e3 w3 hu => by
    obtain ⟨p, vs, rfl, hs, hp⟩ := hv
    unfold repT at hc
    split at hc
    · rename_i hl
      obtain ⟨l0, l1, l2, l3⟩ := hl
      obtain rfl := Option.some.inj hc
      have hp3 := paired_mono e3 hp
      have ll := paired_len hp
      refine ⟨p, k, vs, rfl, hu, ex_t w3.b (ex_t e3 hs), fun hz => l0 (by subst hz; exact List.length_eq_zero_iff.mp ll.symm), l1, l2, by omega, fun l hl => ?_⟩
      have eN := Ex.new (o := HO.tup (List.replicate k.toNat vs).flatten) (fresh_back w3.b hl)
      exact q _ (upd B3 l _) _ ((e2.trans e3).trans eN) (w3.ext hl) ⟨l, _, rfl, st_of upd_same, paired_mono eN (paired_rep hp3 _)⟩
    · cases hc
/-! ### typed values as data -/
def DQ (r : Rep α) (f : α → PyData) : Prop := ∀ K B v a, r.is K B v a → Dp K B v (f a)
theorem dq_int : DQ rInt PyData.int := dr_int.dp
theorem dq_bool : DQ rBool PyData.bool := dr_bool.dp
theorem dq_non : DQ rNon dNon := dr_non.dp
theorem dq_str : DQ rStr PyData.str := fun _ _ _ a h => by have h : _ = V.str a := h; subst h; exact .str a
theorem dq_dat : DQ rDat id := fun _ _ _ _ h => h
theorem dq_tup {f : α → PyData} (d : DQ r f) : DQ (rTup r) (dTup f) := fun K B v a ⟨p, xs, h1, h2, h3⟩ => by subst h1; exact .tup h2 (dpAll_of (d K B) h3)
theorem dq_lst {f : α → PyData} (d : DQ r f) : DQ (rLst r) (dLst f) := fun K B v a ⟨p, xs, h1, h2, h3⟩ => by subst h1; exact .lst h2 (dpAll_of (d K B) h3)
theorem dq_T2 {f : α → PyData} {g : β → PyData} (d : DQ r f) (e : DQ s g) : DQ (rT2 r s) (dT2 f g) := fun K B v a ⟨p, x, y, h1, h2, h3, h4⟩ => by subst h1; exact .tup h2 (.cons (d _ _ _ _ h3) (.cons (e _ _ _ _ h4) .nil))
theorem dq_T3 {f : α → PyData} {g : β → PyData} {h : γ → PyData} (d : DQ r f) (e : DQ s g) (c : DQ t h) : DQ (rT3 r s t) (dT3 f g h) := fun K B v a ⟨p, x, y, z, h1, h2, h3, h4, h5⟩ => by subst h1; exact .tup h2 (.cons (d _ _ _ _ h3) (.cons (e _ _ _ _ h4) (.cons (c _ _ _ _ h5) .nil)))
theorem dq_opt {f : α → PyData} (d : DQ r f) : DQ (rOpt r) (dOpt f) := fun K B v a h => by
  cases a with
  | none => have h : v = .non := h; subst h; exact .non
  | some a => exact d _ _ _ _ h
theorem ev_dq {f : α → PyData} {a : α} (h : EV K M te σ B L r a L') (D : DQ r f) : EV K M te σ B L rDat (f a) L' := ev_as h fun _ _ h => D _ _ _ _ h
theorem ev_notND {d : PyData} (ha : EV K M ta σ B L rDat d L1) : EV K M (tNotN ta) σ B L rBool (!isNoneD d) L1 := fun B1 H e w Q q =>
  ha B1 H e w _ fun x B2 H2 e2 w2 hx => q _ B2 H2 e2 w2 (by
    show V.bl _ = V.bl _
    congr 1
    have hx : Dp K B2 x d := hx
    cases hx <;> rfl)
end
/-- a slot that may not be set yet -/
def slotIs {α : Type} (r : Rep α) (K : Fg) (B : Hp) (o : Option V) (x : Option α) : Prop := match x with
  | none => True
  | some a => ∃ v, o = some v ∧ r.is K B v a
theorem slot_mono {α : Type} {r : Rep α} {K : Fg} {B B' : Hp} {o : Option V} {x : Option α} (e : Ex B B') (h : slotIs r K B o x) : slotIs r K B' o x := by
  cases x with
  | none => trivial
  | some a => obtain ⟨v, h1, h2⟩ := h; exact ⟨v, h1, r.mono e h2⟩
theorem slot_get {α : Type} {r : Rep α} {K : Fg} {B : Hp} {o : Option V} {x : Option α} {a : α} (h : slotIs r K B o x) (e : x = some a) : ∃ v, o = some v ∧ r.is K B v a := by
  subst e; exact h
end L3

/-! () * k -/
namespace L3G
open PySem PySem.Spec PyProof.Rows L2
theorem tuple_mul0 (l : Addr) (n : Nat) (dd : Option Addr) (sl : Array (Option Value)) (x : Int) (u : Tok) (c0 : (decide (x < -(2 ^ 63)) || decide (x ≥ 2 ^ 63)) = false) :
    Meets (Builtin.«tuple.__mul__» ⟨[.ref l, .int x u], []⟩) (fun _ R s => s.heap.get? l = some { cls := .type "tuple", dict := dd, data := .seq #[] n, slots := sl } ∧
      R (.ok (.ret (Value.ref l))) s) :=
  .of_wp fun prog w A R s h => by
    obtain ⟨hp, g, d, tk, os⟩ := s
    obtain ⟨hl, h⟩ := h
    have f1 := AutoSeq1.idx_int
    wp_walk using wpAny_loadPart' hl
    repeat (first
      | (refine wpAny_ite_false (decide_eq_false (by rw [c0]; exact Bool.false_ne_true)) ?_; wp_walk using wpAny_loadPart' hl)
      | (refine wpAny_ite_true (decide_eq_true (by rfl)) ?_; wp_walk using wpAny_loadPart' hl))
    exact ⟨_, rfl, h⟩
def rRepA (K : PySem.W.Frag) : R2 := fun x y H Q => rRepT K x y H Q ∨ ∃ l k, x = .ref l ∧ y = .int k ∧ SqT K H l [] ∧ 0 ≤ k ∧ k ≤ 1000 ∧ Q (.ref l) H
theorem op_repA {X : Cx} : OpR X (binaryOp .Mult) (rRepA X.K) := by
  intro pins s σ H x y v u Q I rx ry h
  rcases h with h | h
  · exact op_repT pins s σ H x y v u Q I rx ry h
  · obtain ⟨l, k, rfl, rfl, hT, h1, h2, q⟩ := h
    cases rx
    obtain ⟨t, rfl⟩ := ry
    obtain ⟨its, r, ⟨⟨cls, dd, data, sl⟩, ho, hc, n, hd⟩, hs⟩ := I.tuple hT
    simp only at hc hd
    subst hc hd
    cases r
    have c0 : (decide (k < -(2 ^ 63)) || decide (k ≥ 2 ^ 63)) = false := by
      rw [decide_eq_false (by omega), decide_eq_false (by omega)] <;> rfl
    refine wpAny_binaryOp_repeat_ref (T := "tuple") (U := "int") (by decide) ⟨_, ho, rfl⟩ (fun s' => typeIs_int s' k t) noFill_tuple_mul F.fills_int_mul F.slot_int_rmul repeat_tuple F.slot_int_index.lookup
      (call_meets F.slot_int_rmul (typeIs_int s k t) F.entry_int_rmul (F.args_int_rmul_2 _ _) (int_rmul_tuple k t l #[] n dd sl)
        ⟨ho, rfl, ⟨_, ho, rfl⟩, call_meets F.slot_tuple_mul ⟨_, ho, rfl⟩ F.entry_tuple_mul (F.args_tuple_mul_2 _ _) (tuple_mul0 l n dd sl k t c0) ⟨ho, ?_⟩⟩)
    exact ⟨.ref l, H, I, rfl, q⟩
end L3G
namespace L3
open PySem L2
open Evl (Ex ex_rd ex_l ex_t sq_of st_of fresh_back)
section
variable {K : Fg} {M : Fr} {σ : St} {B : Hp} {L L1 L2 L' : List Cell} {α : Type} {r : Rep α} {ta tb : TE} {k : Int}
def repA (xs : List α) (k : Int) : Option (List α) := if 2 ≤ k ∧ k ≤ 1000 ∧ xs.length ≤ 1000 then some (List.replicate k.toNat xs).flatten else none
theorem rep_nil : ∀ n : Nat, (List.replicate n ([] : List α)).flatten = []
  | 0 => rfl
  | n + 1 => by rw [List.replicate_succ, List.flatten_cons, rep_nil n]; rfl
theorem ev_repA {xs zs : List α} (h : EV K M ta σ B L (rTup r) xs L1) (h' : EV K M tb σ B L1 rInt k L2) (hc : repA xs k = some zs) : EV K M (tOp (L3G.rRepA K) ta tb) σ B L (rTup r) zs L2 := fun B1 H e w Q q =>
  h B1 H e w _ fun v B2 H2 e2 w2 hv => h' B2 H2 (e.trans e2) w2 _ fun u B3 H3 e3 w3 hu => by
    obtain ⟨p, vs, rfl, hs, hp⟩ := hv
    unfold repA at hc
    split at hc
    · rename_i hl
      obtain ⟨l1, l2, l3⟩ := hl
      obtain rfl := Option.some.inj hc
      have hp3 := paired_mono e3 hp
      have ll := paired_len hp
      by_cases hn : vs = []
      · subst hn
        have hx : xs = [] := List.length_eq_zero_iff.mp ll.symm
        subst hx
        refine .inr ⟨p, k, rfl, hu, ex_t w3.b (ex_t e3 hs), by omega, l2, ?_⟩
        rw [rep_nil] at q
        exact q _ B3 H3 (e2.trans e3) w3 ⟨p, [], rfl, ex_t e3 hs, .nil⟩
      · refine .inl ⟨p, k, vs, rfl, hu, ex_t w3.b (ex_t e3 hs), hn, l1, l2, by omega, fun l hl => ?_⟩
        have eN := Ex.new (o := HO.tup (List.replicate k.toNat vs).flatten) (fresh_back w3.b hl)
        exact q _ (upd B3 l _) _ ((e2.trans e3).trans eN) (w3.ext hl) ⟨l, _, rfl, st_of upd_same, paired_mono eN (paired_rep hp3 _)⟩
    · cases hc
end
end L3

/-! dicts of ints by ints; sorted(d.items()) -/
namespace L3G
open PySem PySem.Spec PyProof.Rows L2
abbrev encI (kvs : List (Int × Int)) : List (Key × V) := kvs.map fun q => (Sum.inl q.1, V.int q.2)
def rSortI : V → Hp → VK → Prop := fun x H Q => ∃ (d : Addr) (kvs : List (Int × Int)), x = .ref d ∧ H d = some (.dK (encI kvs)) ∧
  ∀ (H' : Hp) (p : Addr) (ts : List Addr) (ys : List (Int × Int)), (∀ b o, H b = some o → H' b = some o) → (∀ t ∈ ts, H t = none) → H' p = none → Paired (fun (t : Addr) (q : Int × Int) => H' t = some (.tup [.int q.1, .int q.2])) ts ys →
    ys.Perm kvs → ys.Pairwise (fun a b => SrtO.lexB b a = false) → Q (.ref p) (upd H' p (.lst (ts.map V.ref)))
def tSortI (te : TE) : TE := fun σ H Q => te σ H fun x H1 => rSortI x H1 Q
def ofH (H : Hp) (v : Value) : Int × Int := match v with
  | .ref a => (match H a with
    | some (.tup [.int x, .int y]) => (x, y)
    | _ => (0, 0))
  | _ => (0, 0)
section
variable {X : Cx} {e : Expr} {te : TE} {p apos cpos pos : Pos}
theorem tups_laid {pins : List (Addr × Obj)} {σ : L2.St} {H : Hp} {s : Shared} {h' : Heap} {tk lo : Nat} {kvs : List (Key × V)} {vs : List (Key × Value)} {as : List Addr} (I : Inv X pins σ H s) (hlo : s.heap.objs.size ≤ lo) (kv : KV kvs vs)
    (hk : ∀ b o, s.heap.get? b = some o → h'.get? b = some o) (hl : as.length = vs.length) (hG : PySem.W.KdxG (mixKind X.prog X.w) vs lo h' as) :
    ∃ H' : Hp, (∀ b o, H b = some o → H' b = some o) ∧ (∀ t ∈ as, H t = none) ∧ Paired (fun (t : Addr) (q : Key × V) => H' t = some (.tup [kV q.1, q.2])) as kvs ∧ Inv X pins σ H' { s with heap := h', toks := tk } := by
  have lk : kvs.length = vs.length := Paired.length kv
  have nd : as.Nodup := List.Pairwise.imp (fun {a b} (h : a < b) => Nat.ne_of_lt h) hG.rise
  have ge : ∀ t ∈ as, s.heap.objs.size ≤ t := fun t ht => Nat.le_trans hlo (Nat.le_of_lt (hG.above t ht))
  have new : ∀ t ∈ as, H t = none := fun t ht => I.hok.fresh (ge t ht)
  have atP := LiI.putT_at as kvs H (by omega) nd
  have off : ∀ b, b ∉ as → LiI.putT H as kvs b = H b := fun b h1 => LiI.putT_off as kvs _ h1
  have low : ∀ b o, s.heap.get? b = some o → b ∉ as := fun b o e z => absurd (Heap.lt_size e) (Nat.not_lt.mpr (ge b z))
  have kp : ∀ b u, H b = some u → (LiI.putT H as kvs) b = some u := fun b u e => by
    rw [off b (fun z => by rw [new b z] at e; cases e)]
    exact e
  refine ⟨LiI.putT H as kvs, kp, new, atP, ?_⟩
  refine I.call' (ch := []) rfl ⟨fun b o q _ _ _ => hk b o q, fun b o q _ _ _ => ⟨o.slots, hk b o q⟩, fun b o q n _ => ?_, fun b o q _ => ⟨o, hk b o q⟩, fun b xs q => kp b _ q, fun b o u q => kp b _ q, fun b ps q => ⟨#[], by rw [kp b _ q]; simp⟩⟩ (fun b u q => ?_) I.bare fun b z => by simp at z
  · rw [off b (low b o q)]
    exact n
  · by_cases hb : b ∈ as
    · obtain ⟨j, pk, e1, e2, e3⟩ := LiI.paired_ix atP hb
      rw [e3] at q
      cases q
      obtain ⟨key, k, x, f1, f2, f3⟩ := hG.pairs j b e1
      obtain ⟨qv, g1, g2, g3⟩ := LiI.paired_get kv e2
      rw [f1] at g1
      cases g1
      have rk : RelV (kV pk.1) key := by
        rw [g2]
        exact relV_key (show keyIs k key = true from f2)
      exact ⟨by show 2 ≤ sizeLine; decide, [key, x], .cons rk (.cons g3 .nil), ⟨_, f3, rfl, _, rfl⟩⟩
    · rw [off b hb] at q
      exact (I.hok b u q).stay (fun d v _ y => hk d v y) (fun d y => kp d _ y) fun d xs y => kp d _ y
theorem ofH_eq {H : Hp} {a : Addr} {q : Int × Int} (h : H a = some (.tup [.int q.1, .int q.2])) : ofH H (.ref a) = q := by
  show (match H a with | some (.tup [.int x, .int y]) => (x, y) | _ => (0, 0)) = q
  rw [h]
theorem ofH_is {H : Hp} : ∀ {as : List Addr} {kvs : List (Int × Int)}, Paired (fun (t : Addr) (q : Key × V) => H t = some (.tup [kV q.1, q.2])) as (encI kvs) → (as.map Value.ref).map (ofH H) = kvs
  | [], [], _ => rfl
  | [], _ :: _, h => by cases h
  | _ :: _, [], h => by cases h
  | a :: as, q :: kvs, h => by
    cases h with
    | cons h1 h2 =>
      rw [List.map_cons, List.map_cons, ofH_is h2]
      have h1 : H a = some (.tup [.int q.1, .int q.2]) := h1
      show ofH H (.ref a) :: kvs = _
      rw [ofH_eq h1]
theorem ofH_at {H : Hp} : ∀ {as : List Addr} {kvs : List (Int × Int)}, Paired (fun (t : Addr) (q : Key × V) => H t = some (.tup [kV q.1, q.2])) as (encI kvs) → ∀ {a}, a ∈ as → H a = some (.tup [.int (ofH H (.ref a)).1, .int (ofH H (.ref a)).2])
  | [], _, _, a, h => absurd h (by simp)
  | _ :: _, [], h, _, _ => by cases h
  | b :: as, q :: kvs, h, a, ha => by
    cases h with
    | cons h1 h2 =>
      rcases List.mem_cons.mp ha with e | ha
      · subst e
        have h1 : H a = some (.tup [.int q.1, .int q.2]) := h1
        have e : ofH H (.ref a) = q := ofH_eq h1
        rw [e]; exact h1
      · exact ofH_at h2 ha
theorem paired_self {H : Hp} : ∀ {ts : List Addr}, (∀ t ∈ ts, H t = some (.tup [.int (ofH H (.ref t)).1, .int (ofH H (.ref t)).2])) → Paired (fun (t : Addr) (q : Int × Int) => H t = some (.tup [.int q.1, .int q.2])) ts ((ts.map Value.ref).map (ofH H))
  | [], _ => .nil
  | t :: ts, h => .cons (h t List.mem_cons_self) (paired_self fun u hu => h u (List.mem_cons_of_mem _ hu))
theorem refs_of : ∀ {us : List Value}, (∀ u ∈ us, ∃ a, u = Value.ref a) → ∃ ts : List Addr, us = ts.map Value.ref
  | [], _ => ⟨[], rfl⟩
  | u :: us, h => by
    obtain ⟨a, rfl⟩ := h u List.mem_cons_self
    obtain ⟨ts, rfl⟩ := refs_of fun v hv => h v (List.mem_cons_of_mem _ hv)
    exact ⟨a :: ts, rfl⟩
/-- sorted(e.items()) -/
theorem pe_sortI (hc : X.calm = true) (he : PE X e te) (hg : Gl X "sorted") (hm : X.mg "sorted" = none) (hv : bootBuiltins "sorted" = some (.builtin "sorted")) (hbase : attributeBase e "items" X.env (eval e X.env) = eval e X.env := by rfl) (hline : (apos.endLine == cpos.line) = true := by rfl)
    (hs : starEach [.Call (.Attribute e "items" apos) [] [] cpos] X.env = (false, eval (.Call (.Attribute e "items" apos) [] [] cpos) X.env) :: starEach [] X.env := by rfl) :
    PE X (.Call (.Name "sorted" p) [.Call (.Attribute e "items" apos) [] [] cpos] [] pos) (tSortI te) := by
  refine ⟨fun pins s σ H Q I hq => ?_⟩
  refine wpAny_Call_Name_kw (ld_blt I hg hm hv ?_)
  refine PyProof.Rows.callWith_builtin1 ?_ hs (by rfl)
  rw [hs]
  show wpAny _ _ (spliced ((false, eval (.Call (.Attribute e "items" apos) [] [] cpos) X.env) :: backTo pos (starEach [] X.env))) _ _ s
  refine Calls.spliced_cons ?_
  refine wpAny_Call_method (T := "dict") (id := "dict.items") hbase rfl hline F.plainAttrs_dict F.slot_dict_items F.type_dict_items (thn (he.run pins s σ H _ I hq) fun u s1 ⟨x, H1, I1, rx, d, kvs, ex, hd, q⟩ => ?_)
  subst ex
  obtain rfl : u = Value.ref d := rx
  obtain ⟨hz, hs0, vs, kv, hdo⟩ := I1.hok d _ hd
  obtain ⟨ep, hat⟩ := hdo.dictAt
  have lk : (encI kvs).length = vs.length := Paired.length kv
  have I2 : Inv X pins σ H1 { s1 with heap := s1.heap.push { cls := .type "dict_items", data := .fields #[.ref d] } } := I1.kept (t' := s1.toks) fun b ob q => Heap.get?_push_of_some _ q
  refine ⟨hdo.typeIs, hdo.mapOf.noDict, ?_⟩
  show wpAny _ _ (callWith cpos (.builtin "dict.items") [.ref d] [] []) _ X.xe s1
  refine method_meetsIn F.slot_dict_items F.entry_dict_items rfl (PySem.evalArgs_none ⟨rfl, hdo.typeIs, F.args_dict_items_1 _, _, meets_dict_items (mixKind X.prog X.w) d hs0, ⟨vs, hdo⟩, ?_⟩)
  refine Calls.spliced_nil ?_
  refine Calls.call_function_entry kind_sorted plain_sorted entry_sorted (args_sorted1 _) ?_
  unfold Builtin.«sorted»
  refine wpAny_bind (m := checkCount "sorted" 1 1 _) (wpAny_pure ?_)
  have hh : X.A.in1.handled = none := I1.ok.hd hc
  refine wpAny_bind (PySem.W.kdx_collect (A := X.A.in1) (knd := mixKind X.prog X.w) (kvs := vs) (ep := ep) hh ⟨_, Heap.get?_push_size _ rfl, rfl, rfl⟩ (hat.push _) (by omega) fun h' tk as hk hl hG => ?_)
  obtain ⟨H', k1, k3, k6, J⟩ := tups_laid (tk := tk) I2 (Nat.le_refl _) kv hk hl hG
  have hz2 : (as.map Value.ref).length ≤ sizeLine := by rw [List.length_map, hl]; omega
  refine wpAny_bind (wpAny_newList ?_ hz2)
  have hoL : (h'.push (seqObj "list" (as.map Value.ref).toArray 0)).get? h'.objs.size = some (seqObj "list" (as.map Value.ref).toArray 0) := Heap.get?_push_size _ rfl
  have isP : ∀ v ∈ as.map Value.ref, Srt.IsPair h' v (ofH H' v).1 (ofH H' v).2 := fun v hv => by
    obtain ⟨t, ht, rfl⟩ := List.mem_map.mp hv
    have ha := ofH_at k6 ht
    obtain ⟨_, its2, r2, o, ho, hc, n, hd⟩ := J.hok _ _ ha
    obtain ⟨u1, u2, rfl, ri, rj⟩ := vals2 r2
    obtain ⟨t1, rfl⟩ := ri
    obtain ⟨t2, rfl⟩ := rj
    exact ⟨t, o, t1, t2, n, rfl, ho, hc, hd⟩
  refine wpAny_bind (wpAny_holding (wpAny_call_entry slot_list_sort ⟨_, hoL, rfl⟩ entry_list_sort (SrtO.list_sort_ord (n := 0) (SrtO.swo_lex (ofH H')) hoL hz2 (fun h2 => SrtO.pairs_sortableO (by omega) (fun v hm => (isP v hm).keeps fun b o e _ => Heap.get?_push_of_some _ e) fun o e => ?_) fun out hs hb => ⟨_, rfl, ?_⟩) (args_list_sort _)))
  · have e' : some o = some (seqObj "list" (as.map Value.ref).toArray 0) := e.symm.trans hoL
    cases e'
    intro c
    exact absurd (Value.type.inj c) (by decide)
  · refine wpAny_pure ⟨_, rfl, ?_⟩
    obtain ⟨ts, rfl⟩ := refs_of (us := out) fun u hu => by
      obtain ⟨t, _, e⟩ := List.mem_map.mp (hb.perm.mem_iff.mp hu)
      exact ⟨t, e.symm⟩
    have mem : ∀ t ∈ ts, t ∈ as := fun t ht => by
      obtain ⟨t', h1, h2⟩ := List.mem_map.mp (hb.perm.mem_iff.mp (List.mem_map.mpr ⟨t, ht, rfl⟩))
      cases h2
      exact h1
    have hl2 := hb.perm.length_eq
    have e1 := ofH_is k6
    obtain ⟨n, hn⟩ := sortedHeap_at (out := (ts.map Value.ref).toArray) hoL
    have old : ∀ b o, h'.get? b = some o → (sortedHeap (h'.push (seqObj "list" (as.map Value.ref).toArray 0)) h'.objs.size (as.map Value.ref) (ts.map Value.ref).toArray).get? b = some o := fun b o e => by
      have := Heap.lt_size e
      rw [sortedHeap_old (Nat.ne_of_lt this) (by rw [size_push']; exact Nat.lt_succ_of_lt this)]
      exact Heap.get?_push_of_some _ e
    refine ⟨.ref h'.objs.size, _, J.laid (a := h'.objs.size) (o := .lst (ts.map V.ref)) (t' := tk) old (Nat.le_refl _) ?_, rfl, q H' h'.objs.size ts ((ts.map Value.ref).map (ofH H')) k1 (fun t ht => k3 t (mem t ht)) (J.hok.fresh (Nat.le_refl _)) (paired_self fun t ht => ofH_at k6 (mem t ht)) ?_ ?_⟩
    · refine ⟨by rw [List.length_map]; rw [List.length_map] at hl2; rw [hl2]; exact hz2, ts.map Value.ref, n, LiI.vals_refs ts, hn⟩
    · rw [← e1]
      exact hb.perm.map _
    · exact SrtO.srtd_map (lt := SrtO.lexB) hs
end
end L3G
namespace L3
open PySem L2
open Evl (Ex ex_rd ex_l ex_t sq_of st_of fresh_back)

/-! ### dicts of ints by ints -/
def putI : List (Int × Int) → Int → Int → List (Int × Int)
  | [], k, v => [(k, v)]
  | q :: kvs, k, v => if q.1 = k then (q.1, v) :: kvs.map (fun q => if q.1 = k then (q.1, v) else q) else q :: putI kvs k v
def leI (a b : Int × Int) : Bool := !SrtO.lexB b a
def sortI (l : List (Int × Int)) : List (Int × Int) := l.mergeSort leI
def cDk : CRep (List (Int × Int)) := ⟨fun _ _ o a => o = .dK (L3G.encI a), fun _ h => h⟩
theorem putI_cons_ne {q : Int × Int} {kvs : List (Int × Int)} {k v : Int} (h : q.1 ≠ k) : putI (q :: kvs) k v = q :: putI kvs k v := by
  show (if q.1 = k then _ else _) = _
  rw [if_neg h]
theorem enc_map (k v : Int) : ∀ kvs : List (Int × Int), (L3G.encI kvs).map (fun kv => if kv.1 = (Sum.inl k : Key) then (kv.1, V.int v) else kv) = L3G.encI (kvs.map fun q => if q.1 = k then (q.1, v) else q)
  | [] => rfl
  | q :: kvs => by
    have ih := enc_map k v kvs
    by_cases h : q.1 = k
    · show (if (Sum.inl q.1 : Key) = Sum.inl k then _ else _) :: (L3G.encI kvs).map _ = L3G.encI ((if q.1 = k then (q.1, v) else q) :: _)
      rw [ih, if_pos (by rw [h]), if_pos h]; rfl
    · show (if (Sum.inl q.1 : Key) = Sum.inl k then _ else _) :: (L3G.encI kvs).map _ = L3G.encI ((if q.1 = k then (q.1, v) else q) :: _)
      rw [ih, if_neg (fun z => h (Sum.inl.inj z)), if_neg h]; rfl
theorem enc_put (k v : Int) : ∀ kvs : List (Int × Int), putK (L3G.encI kvs) (Sum.inl k) (V.int v) = L3G.encI (putI kvs k v)
  | [] => rfl
  | q :: kvs => by
    by_cases h : q.1 = k
    · have e1 : ((L3G.encI (q :: kvs)).any fun kv => decide (kv.1 = (Sum.inl k : Key))) = true := by
        show (decide ((Sum.inl q.1 : Key) = Sum.inl k) || _) = true
        rw [h, decide_eq_true rfl, Bool.true_or]
      unfold putK
      rw [if_pos e1, enc_map]
      unfold putI
      rw [if_pos h, List.map_cons, if_pos h]
    · have ne : ¬ (Sum.inl q.1 : Key) = Sum.inl k := fun z => h (Sum.inl.inj z)
      have ih := enc_put k v kvs
      rw [putI_cons_ne h]
      unfold putK at ih ⊢
      have e0 : ((L3G.encI (q :: kvs)).any fun kv => decide (kv.1 = (Sum.inl k : Key))) = ((L3G.encI kvs).any fun kv => decide (kv.1 = (Sum.inl k : Key))) := by
        show (decide ((Sum.inl q.1 : Key) = Sum.inl k) || _) = _
        rw [decide_eq_false ne, Bool.false_or]
      rw [e0]
      by_cases ha : ((L3G.encI kvs).any fun kv => decide (kv.1 = (Sum.inl k : Key))) = true
      · rw [if_pos ha] at ih ⊢
        show (if (Sum.inl q.1 : Key) = Sum.inl k then _ else _) :: (L3G.encI kvs).map _ = _
        rw [if_neg ne, ih]
        rfl
      · rw [if_neg ha] at ih ⊢
        show _ :: (L3G.encI kvs ++ _) = _
        rw [ih]
        rfl
theorem sortI_eq {ys l : List (Int × Int)} (hp : ys.Perm l) (hs : ys.Pairwise (fun a b => SrtO.lexB b a = false)) : ys = sortI l := by
  refine List.Perm.eq_of_pairwise (le := fun a b => SrtO.lexB b a = false) (fun a b _ _ h1 h2 => ?_) hs ?_ (hp.trans (List.mergeSort_perm l leI).symm)
  · have a1 := SrtO.lexB_no.mp h1
    have a2 := SrtO.lexB_no.mp h2
    exact Prod.ext (by omega) (by omega)
  · refine (List.pairwise_mergeSort (le := leI) (fun a b c h1 h2 => ?_) (fun a b => ?_) l).imp fun {a b} h => ?_
    · unfold leI at *
      rw [Bool.not_eq_true'] at *
      have a1 := SrtO.lexB_no.mp h1
      have a2 := SrtO.lexB_no.mp h2
      refine SrtO.lexB_no.mpr ?_
      omega
    · unfold leI
      cases e : SrtO.lexB b a with
      | false => rfl
      | true =>
        have a1 := SrtO.lexB_iff.mp e
        have a2 : SrtO.lexB a b = false := SrtO.lexB_no.mpr (by omega)
        rw [a2]; rfl
    · unfold leI at h
      rwa [Bool.not_eq_true'] at h
theorem sortI_perm (l : List (Int × Int)) : (sortI l).Perm l := List.mergeSort_perm l leI
def rSetD : V → V → V → Hp → (Hp → Prop) → Prop := fun o i v H Q => ∃ a H4, o = .ref a ∧ DPut H a i v H4 ∧ Q H4
theorem set_dict {X : Cx} (hu : X.A.units + 1 < cLine) : PSet X rSetD := by
  intro pins s σ H o i v ov iv u Q I ro ri rv h
  obtain ⟨a, H4, rfl, g, q⟩ := h
  cases ro
  exact d_setItem hu I g ri rv fun s4 I4 => ⟨H4, I4, q⟩
section
variable {K : Fg} {M : Fr} {σ : St} {B H H' : Hp} {L L1 L2 L' : List Cell} {α β γ δ : Type} {r : Rep α} {s : Rep β} {ta tb tc te : TE} {tt tu : TT} {tA : TA} {i j k : Int} {D : Ends} {tz : TS}
theorem Own.grow (w : Own K B M L H) (k : ∀ b o, H b = some o → H' b = some o) : Own K B M L H' :=
  ⟨fun b u e => k b u (w.b b u e), fun b u e => k b u (w.m b u e), w.bm, fun x hx => by
    obtain ⟨⟨o, h1, h2⟩, h3⟩ := w.l x hx
    exact ⟨⟨o, k _ _ h1, h2⟩, h3⟩, w.nd, fun P hP => by
    obtain ⟨⟨ps, h1, h2⟩, h3⟩ := w.t P hP
    exact ⟨⟨ps, k _ _ h1, h2⟩, h3⟩⟩
/-- new things that stay -/
theorem Own.join {ts : List Addr} (w : Own K B M L H) (k : ∀ b o, H b = some o → H' b = some o) (new : ∀ t ∈ ts, H t = none) : Ex B (fun a => if a ∈ ts then H' a else B a) ∧ Own K (fun a => if a ∈ ts then H' a else B a) M L H' := by
  have off : ∀ {b u}, B b = some u → b ∉ ts := fun {b u} e z => by
    have := w.b b u e
    rw [new b z] at this
    cases this
  have e0 : Ex B (fun a => if a ∈ ts then H' a else B a) := fun b u e => by
    show (if b ∈ ts then H' b else B b) = some u
    rw [if_neg (off e)]; exact e
  refine ⟨e0, fun b u e => ?_, fun b u e => k b u (w.m b u e), fun b => ?_, fun x hx => ?_, w.nd, fun P hP => ?_⟩
  · have e : (if b ∈ ts then H' b else B b) = some u := e
    by_cases hb : b ∈ ts
    · rw [if_pos hb] at e; exact e
    · rw [if_neg hb] at e; exact k b u (w.b b u e)
  · by_cases hb : b ∈ ts
    · right
      exact fresh_back w.m (new b hb)
    · rcases w.bm b with h | h
      · left
        show (if b ∈ ts then H' b else B b) = none
        rw [if_neg hb]; exact h
      · exact .inr h
  · obtain ⟨⟨o, h1, h2⟩, h3, h4⟩ := w.l x hx
    refine ⟨⟨o, k _ _ h1, x.c.mono e0 h2⟩, ?_, h4⟩
    show (if x.p ∈ ts then H' x.p else B x.p) = none
    rw [if_neg (fun z => by rw [new _ z] at h1; cases h1)]; exact h3
  · obtain ⟨⟨ps, h1, h2⟩, h3, h4⟩ := w.t P hP
    refine ⟨⟨ps, k _ _ h1, h2⟩, ?_, h4⟩
    show (if P ∈ ts then H' P else B P) = none
    rw [if_neg (fun z => by rw [new _ z] at h1; cases h1)]; exact h3
theorem q_asgD {n : Nat} (w : Own K B M L H) (q : ∀ p H', Own K B M (⟨p, cDk, []⟩ :: L) H' → tz D (σ.set n (some (.ref p))) H') : tSeq (tAsg tDNewK (gName n)) tz D σ H :=
  fun p hp => q p _ (w.new hp rfl)
theorem q_setD {n m : Nat} {p : Addr} {as : List (Int × Int)} (w : Own K B M L H) (h : EV K M te σ B L rInt j L1) (hs : σ[m]? = some (some (.ref p))) (hb : EV K M tb σ B L1 rInt i L2) (hc : L2[n]? = some ⟨p, cDk, as⟩) (hr : room as.length = some ())
    (q : ∀ B' H', Ex B B' → Own K B' M (L2.set n ⟨p, cDk, putI as i j⟩) H' → tz D σ H') : tSeq (tAsg te (gSub (tVar m) tb rSetD)) tz D σ H :=
  h B H (Ex.refl _) w _ fun v B1 H1 e1 w1 hv => ⟨_, hs, hb B1 H1 e1 w1 _ fun y B2 H2 e2 w2 hy => by
    obtain ⟨⟨o', g1, g2⟩, _⟩ := w2.at hc
    have g1 : H2 p = some o' := g1
    have g2 : o' = .dK (L3G.encI as) := g2
    have hv : v = .int j := hv
    have hy : y = kV (Sum.inl i) := hy
    subst hv hy
    refine ⟨p, _, rfl, DPut.k (kvs := L3G.encI as) (by rw [g1, g2]) (by rw [List.length_map]; exact room_some hr), q B2 _ (e1.trans e2) (w2.set hc ?_)⟩
    show _ = HO.dK (L3G.encI (putI as i j))
    rw [← enc_put]⟩
theorem el_sortI {n m : Nat} {p : Addr} {as : List (Int × Int)} (hs : σ[m]? = some (some (.ref p))) (hc : L[n]? = some ⟨p, cDk, as⟩) : EVL K M (L3G.tSortI (tVar m)) σ B L (rT2 rInt rInt) (sortI as) L := fun B1 H e w Q q => by
  obtain ⟨⟨o', g1, g2⟩, _⟩ := w.at hc
  have g1 : H p = some o' := g1
  have g2 : o' = .dK (L3G.encI as) := g2
  refine ⟨_, hs, p, as, rfl, by rw [g1, g2], fun H' l ts ys k new hl hp pm st => ?_⟩
  obtain ⟨e2, w2⟩ := w.join k new
  have ey := sortI_eq pm st
  subst ey
  refine q l _ _ e2 (w2.new hl ⟨ts.map V.ref, rfl, ?_⟩)
  have go : ∀ (ts' : List Addr) (ys : List (Int × Int)), (∀ t ∈ ts', t ∈ ts) → Paired (fun (t : Addr) (q : Int × Int) => H' t = some (.tup [.int q.1, .int q.2])) ts' ys → Paired ((rT2 rInt rInt).is K fun a => if a ∈ ts then H' a else B1 a) (ts'.map V.ref) ys := fun ts' => by
    induction ts' with
    | nil => intro ys _ h; cases h; exact .nil
    | cons t ts' ih =>
      intro ys hm h
      cases h with
      | cons h1 h2 =>
        refine .cons ⟨t, _, _, rfl, st_of ?_, rfl, rfl⟩ (ih _ (fun u hu => hm u (List.mem_cons_of_mem _ hu)) h2)
        show (if t ∈ ts then H' t else B1 t) = _
        rw [if_pos (hm t List.mem_cons_self)]
        exact h1
  exact go ts _ (fun _ h => h) hp
theorem ints_of {K : Fg} {B : Hp} : ∀ {vs : List V} {xs : List Int}, Paired (rInt.is K B) vs xs → vs = xs.map V.int
  | _, _, .nil => rfl
  | _, _, .cons h t => by
    have h : _ = V.int _ := h
    rw [h, ints_of t]; rfl
theorem ev_sumL {xs : List Int} (h : EV K M te σ B L (rLst rInt) xs L') : EV K M (tCB (rSum K) (tCons te tNil)) σ B L rInt xs.sum L' := fun B1 H e w Q q =>
  h B1 H e w _ fun v B2 H2 e2 w2 hv => by
    obtain ⟨p, vs, rfl, hs, hp⟩ := hv
    exact ⟨p, xs, rfl, by rw [← ints_of hp]; exact ex_l w2.b hs, q _ B2 H2 e2 w2 rfl⟩
end
end L3

namespace L3
open PySem L2
open Evl (Ex ex_rd ex_l ex_t sq_of st_of fresh_back)
/-! ### [..] * k -/
section
variable {K : Fg} {M : Fr} {σ : St} {B H H' : Hp} {L L1 L2 L' : List Cell} {α β γ δ : Type} {r : Rep α} {s : Rep β} {ta tb tc te : TE} {i j k : Int}
def repL (xs : List α) (k : Int) : Option (List α) := if -(2 ^ 62) ≤ k ∧ k < 2 ^ 62 ∧ xs.length * k.toNat ≤ sizeLine then some (List.replicate k.toNat xs).flatten else none
theorem el_rep {xs zs : List α} (h : EVL K M ta σ B L r xs L1) (h' : ∀ p, EV K M tb σ B (⟨p, cLst r, xs⟩ :: L1) rInt k (⟨p, cLst r, xs⟩ :: L2)) (hc : repL xs k = some zs) : EVL K M (tOp rRep ta tb) σ B L r zs L2 := fun B1 H e w Q q =>
  h B1 H e w _ fun p B2 H2 e2 w2 => h' p B2 H2 (e.trans e2) w2 _ fun u B3 H3 e3 w3 hu => by
    unfold repL at hc
    split at hc
    · rename_i hl
      obtain ⟨l1, l2, l3⟩ := hl
      obtain rfl := Option.some.inj hc
      obtain ⟨⟨o, g1, vs, g2, hp⟩, _⟩ := w3.at (i := 0) rfl
      have g1 : H3 p = some o := g1
      have ll := paired_len hp
      have ll : vs.length = xs.length := ll
      refine ⟨p, k, vs, rfl, hu, by rw [g1, g2], by omega, by omega, by rw [ll]; exact l3, fun l hl => ?_⟩
      exact q l B3 _ (e2.trans e3) (w3.tail.new hl ⟨_, rfl, paired_rep hp _⟩)
    · cases hc
theorem nn_rT2 {B : Hp} (v : V) (x : α × β) (h : (rT2 r s).is K B v x) : v ≠ .non := by
  obtain ⟨p, _, _, rfl, _⟩ := h
  exact fun z => by cases z
theorem nn_rTup {B : Hp} (v : V) (x : List α) (h : (rTup r).is K B v x) : v ≠ .non := by
  obtain ⟨p, _, rfl, _⟩ := h
  exact fun z => by cases z
theorem nn_rLst {B : Hp} (v : V) (x : List α) (h : (rLst r).is K B v x) : v ≠ .non := by
  obtain ⟨p, _, rfl, _⟩ := h
  exact fun z => by cases z
abbrev rTupOf (K : Fg) : List V → Hp → VK → Prop := fun xs H Q => ∃ p ys, xs = [.ref p] ∧ ((SqL K H p ys ∧ ∀ l, H l = none → Q (.ref l) (upd H l (.tup ys))) ∨ (SqT K H p ys ∧ Q (.ref p) H))
abbrev rListOf (K : Fg) : List V → Hp → VK → Prop := fun xs H Q => ∃ p ys, xs = [.ref p] ∧ (SqL K H p ys ∨ SqT K H p ys) ∧ ∀ l, H l = none → Q (.ref l) (upd H l (.lst ys))
/-! ### a def at an address -/
structure ClA (P : Program) (w : World) (K : Fg) (mg : Str → Option Value) (base : Heap) (k : Nat) (f : Addr) (sp : Sp) (dvs : List V) : Prop where
  ex : ∃ (fd : FuncData) (ps : List Str) (ds : List Value), FnOk P w K mg base CX0 k f fd ps sp ∧ PySem.W.keepIn K (.ref f) = true ∧ Binds K fd ps ds ∧ Vals dvs ds
theorem Cl.at {P : Program} {w : World} {mg : Str → Option Value} {base : Heap} {k : Nat} {x : Str} {sp : Sp} {dvs : List V} (c : Cl P w K mg base k x sp dvs) : ∃ f, mg x = some (.ref f) ∧ PySem.W.keepIn K (.ref f) = true ∧ ClA P w K mg base k f sp dvs := by
  obtain ⟨f, fd, ps, ds, F, hm, kp, b, d⟩ := c.ex
  exact ⟨f, hm, kp, fd, ps, ds, F, kp, b, d⟩
theorem pe_cL {X : Cx} {k j i : Nat} {f : Addr} {x : Str} {sp : Sp} {dvs : List V} {p pos : Pos} {e : Expr} {es : List Expr} {t : TA} (c : ClA X.prog X.w X.K X.mg X.base k f sp dvs) (hr : Room j X.A) (hk : k ≤ j) (hN : X.N[i]? = some x) (hv : Vis X.env.scope x) (ha : PA X (e :: es) t)
    (hdb : (x == ("__debug__" : Str)) = false := by decide) (hcd : (x == ("__classdict__" : Str)) = false := by decide) (he : starEach (e :: es) X.env = (false, eval e X.env) :: starEach es X.env := by rfl) (hpl : (backTo pos (starEach es X.env)).any (·.1) = false := by rfl) :
    PE X (.Call (.Name x p) (e :: es) [] pos) (tCallL i f sp dvs E0 t) := by
  obtain ⟨fd, ps, ds, F, kp, b, d⟩ := c.ex
  exact pe_callL F (hr.mono hk) hN hv kp b d pass0 ha hdb hcd he hpl
theorem ev_callL {i : Nat} {f : Addr} {sp : Sp} {dvs : List V} {E : XK} {tA : TA} {a : α} (hs : σ[i]? = some (some (.ref f))) (h : EV K M (tCall sp dvs E tA) σ B L r a L') : EV K M (tCallL i f sp dvs E tA) σ B L r a L' :=
  fun B1 H e w Q q => ⟨hs, h B1 H e w Q q⟩
/-- list(range(..)) -/
def rgO (a b : Int) : Option (List Int) := if -(2 ^ 62) ≤ a ∧ a < 2 ^ 62 ∧ -(2 ^ 62) ≤ b ∧ b < 2 ^ 62 ∧ (b - a).toNat ≤ 2 ^ 24 then some (rng a b) else none
theorem rg_paired {K : Fg} {B : Hp} (a b : Int) : Paired (rInt.is K B) (rgV a b) (rng a b) := by
  unfold rgV rng
  exact paired_map (F := rInt.is K B) (f := fun (i : Nat) => V.int (a + (i : Int))) (g := fun (k : Nat) => a + (k : Int)) (fun _ => rfl) _
theorem el_listRg1 {xs : List Int} (h : EV K M ta σ B L rInt k L') (hc : rgO 0 k = some xs) : EVL K M (tLstRg (tRg1 ta)) σ B L rInt xs L' := fun B1 H e w Q q =>
  h B1 H e w _ fun v B2 H2 e2 w2 hv => by
    unfold rgO at hc
    split at hc
    · rename_i ok
      obtain rfl := Option.some.inj hc
      exact ⟨k, hv, ok, fun l hl => q l B2 _ e2 (w2.new hl ⟨_, rfl, rg_paired 0 k⟩)⟩
    · cases hc
theorem el_listRg2 {xs : List Int} (h : EV K M ta σ B L rInt j L1) (h' : EV K M tb σ B L1 rInt k L') (hc : rgO j k = some xs) : EVL K M (tLstRg (tRg2 ta tb)) σ B L rInt xs L' := fun B1 H e w Q q =>
  h B1 H e w _ fun v B2 H2 e2 w2 hv => h' B2 H2 (e.trans e2) w2 _ fun u B3 H3 e3 w3 hu => by
    unfold rgO at hc
    split at hc
    · rename_i ok
      obtain rfl := Option.some.inj hc
      exact ⟨j, k, hv, hu, ok, fun l hl => q l B3 _ (e2.trans e3) (w3.new hl ⟨_, rfl, rg_paired j k⟩)⟩
    · cases hc
/-- a store as a part of a target -/
theorem g_setC {n m l : Nat} {p : Addr} {as : List α} {a : α} {v : V} {G : St → Hp → Prop} (w : Own K B M L H) (hv : r.is K B v a) (hs : σ[m]? = some (some (.ref p))) (hb : EV K M tb σ B L rInt i L2) (hc : L2[n]? = some ⟨p, cLst r, as⟩) (hi : ixO as.length i = some l)
    (q : ∀ B' H', Ex B B' → Own K B' M (L2.set n ⟨p, cLst r, as.set l a⟩) H' → G σ H') : gSub (tVar m) tb rSetL v σ H G :=
  ⟨_, hs, hb B H (Ex.refl _) w _ fun y B2 H2 e2 w2 hy => by
    obtain ⟨⟨o', g1, xs, g2, g3⟩, _⟩ := w2.at hc
    have g1 : H2 p = some o' := g1
    exact ⟨p, xs, i, l, rfl, hy, by rw [g1, g2], by rw [paired_len g3]; exact hi, q B2 _ e2 (w2.set hc ⟨_, rfl, paired_set (r.mono e2 hv) l g3⟩)⟩⟩
/-! ### k in xs, of ints -/
theorem flat_ints : ∀ xs : List Int, (xs.map V.int).all flatV = true
  | [] => rfl
  | x :: xs => by rw [List.map_cons, List.all_cons, flat_ints xs]; rfl
theorem inV_ints (k : Int) : ∀ xs : List Int, inV (.int k) (xs.map V.int) = decide (k ∈ xs)
  | [] => rfl
  | x :: xs => by
    have ih := inV_ints k xs
    unfold inV at ih ⊢
    rw [List.map_cons, List.any_cons, ih]
    have e : eqV (.int x) (.int k) = decide (x = k) := rfl
    rw [e]
    clear ih e
    by_cases h : x = k
    · subst h
      rw [decide_eq_true rfl, Bool.true_or, decide_eq_true (List.mem_cons_self)]
    · rw [decide_eq_false h, Bool.false_or]
      by_cases h2 : k ∈ xs
      · rw [decide_eq_true h2, decide_eq_true (List.mem_cons_of_mem _ h2)]
      · rw [decide_eq_false h2, decide_eq_false fun z => (List.mem_cons.mp z).elim (fun q => h q.symm) h2]
theorem sq_ints {B H : Hp} {v : V} {xs : List Int} (e : Ex B H) (h : (rSeq rInt).is K B v xs) : ∃ p, v = .ref p ∧ (SqL K H p (xs.map V.int) ∨ SqT K H p (xs.map V.int)) := by
  obtain ⟨p, vs, h1, h2, h3⟩ := h
  have ev := ints_of h3
  subst ev
  exact ⟨p, h1, h2.imp (ex_l e) (ex_t e)⟩
theorem ev_inI {xs : List Int} (h : EV K M ta σ B L rInt k L1) (h' : EV K M tb σ B L1 (rSeq rInt) xs L2) : EV K M (tOp (rIn K false) ta tb) σ B L rBool (decide (k ∈ xs)) L2 := fun B1 H e w Q q =>
  h B1 H e w _ fun v B2 H2 e2 w2 hv => h' B2 H2 (e.trans e2) w2 _ fun u B3 H3 e3 w3 hu => by
    have hv : v = .int k := hv
    subst hv
    obtain ⟨p, rfl, hs⟩ := sq_ints w3.b hu
    refine ⟨p, _, rfl, hs, rfl, flat_ints xs, ?_⟩
    rw [inV_ints]
    exact q _ B3 H3 (e2.trans e3) w3 rfl
theorem ev_niI {xs : List Int} (h : EV K M ta σ B L rInt k L1) (h' : EV K M tb σ B L1 (rSeq rInt) xs L2) : EV K M (tOp (rIn K true) ta tb) σ B L rBool (!decide (k ∈ xs)) L2 := fun B1 H e w Q q =>
  h B1 H e w _ fun v B2 H2 e2 w2 hv => h' B2 H2 (e.trans e2) w2 _ fun u B3 H3 e3 w3 hu => by
    have hv : v = .int k := hv
    subst hv
    obtain ⟨p, rfl, hs⟩ := sq_ints w3.b hu
    refine ⟨p, _, rfl, hs, rfl, flat_ints xs, ?_⟩
    rw [inV_ints]
    exact q _ B3 H3 (e2.trans e3) w3 rfl
theorem cell_ints {n : Nat} {p : Addr} {xs : List Int} (w : Own K B M L H) (hc : L[n]? = some ⟨p, cLst rInt, xs⟩) : SqL K H p (xs.map V.int) := by
  obtain ⟨⟨o, h1, vs, h2, h3⟩, _⟩ := w.at hc
  have h1 : H p = some o := h1
  have ev := ints_of h3
  subst ev
  exact sq_of (by rw [h1, h2])
theorem ev_inC {n : Nat} {p : Addr} {xs : List Int} (h : EV K M ta σ B L rInt k L1) (h' : EV K M tb σ B L1 rRef p L2) (hc : L2[n]? = some ⟨p, cLst rInt, xs⟩) : EV K M (tOp (rIn K false) ta tb) σ B L rBool (decide (k ∈ xs)) L2 := fun B1 H e w Q q =>
  h B1 H e w _ fun v B2 H2 e2 w2 hv => h' B2 H2 (e.trans e2) w2 _ fun u B3 H3 e3 w3 hu => by
    have hv : v = .int k := hv
    have hu : u = .ref p := hu
    subst hv hu
    refine ⟨p, _, rfl, .inl (cell_ints w3 hc), rfl, flat_ints xs, ?_⟩
    rw [inV_ints]
    exact q _ B3 H3 (e2.trans e3) w3 rfl
theorem ev_niC {n : Nat} {p : Addr} {xs : List Int} (h : EV K M ta σ B L rInt k L1) (h' : EV K M tb σ B L1 rRef p L2) (hc : L2[n]? = some ⟨p, cLst rInt, xs⟩) : EV K M (tOp (rIn K true) ta tb) σ B L rBool (!decide (k ∈ xs)) L2 := fun B1 H e w Q q =>
  h B1 H e w _ fun v B2 H2 e2 w2 hv => h' B2 H2 (e.trans e2) w2 _ fun u B3 H3 e3 w3 hu => by
    have hv : v = .int k := hv
    have hu : u = .ref p := hu
    subst hv hu
    refine ⟨p, _, rfl, .inl (cell_ints w3 hc), rfl, flat_ints xs, ?_⟩
    rw [inV_ints]
    exact q _ B3 H3 (e2.trans e3) w3 rfl
/-- a list of ours that stays from now on -/
theorem ev_frzC {te : TE} {n : Nat} {p : Addr} {xs : List α} (h : EV K M te σ B L rRef p L') (hc : L'[n]? = some ⟨p, cLst r, xs⟩) : EV K M te σ B L (rLst r) xs (L'.eraseIdx n) := fun B1 H e w Q q =>
  h B1 H e w _ fun v B2 H2 e2 w2 hv => by
    have hv : v = .ref p := hv
    subst hv
    obtain ⟨o, h1, ⟨vs, h2, hp⟩, hB, w3⟩ := w2.freeze hc
    have h1 : H2 p = some o := h1
    have eN := Ex.new (o := o) hB
    refine q _ _ H2 (e2.trans eN) w3 ⟨p, vs, rfl, sq_of (upd_same.trans (congrArg some h2)), paired_mono eN hp⟩
/-- a value that may be None, where it is none -/
theorem ev_get {te : TE} {o : Option α} {a : α} (h : EV K M te σ B L (rOpt r) o L') (e : o = some a) : EV K M te σ B L r a L' := by
  subst e
  exact h
end
/-! ### a global that is a pair of ints -/
def pairAt (K : Fg) (a : Addr) (i j : Int) : Bool := match K.lookup a with
  | some o => decide (o.cls = .type "tuple") && (match o.data with
    | .seq its _ => (match its.toList with
      | [.int x _, .int y _] => decide (x = i) && decide (y = j)
      | _ => false)
    | _ => false)
  | none => false
theorem pairAt_ok {K : Fg} {a : Addr} {i j : Int} (h : pairAt K a i j = true) (B : Hp) : (rT2 rInt rInt).is K B (.ref a) (i, j) := by
  unfold pairAt at h
  split at h
  · rename_i o ho
    rw [Bool.and_eq_true] at h
    obtain ⟨hc, h⟩ := h
    split at h
    · rename_i its n hd
      split at h
      · rename_i x tx y ty hi
        rw [Bool.and_eq_true] at h
        have e1 := of_decide_eq_true h.1
        have e2 := of_decide_eq_true h.2
        subst e1 e2
        refine ⟨a, .int x, .int y, rfl, .inr ⟨o, its, n, ho, of_decide_eq_true hc, hd, ?_, ?_⟩, rfl, rfl⟩
        · rw [← Array.length_toList, hi]; show 2 ≤ sizeLine; decide
        · rw [hi]; exact .cons ⟨_, rfl⟩ (.cons ⟨_, rfl⟩ .nil)
      · cases h
    · cases h
  · cases h
def pairG (K : Fg) (x : Str) (i j : Int) : Bool := match PySem.W.nsIn K mainGlobals x with
  | some (some (.ref a)) => pairAt K a i j
  | _ => false
theorem pairG_ok {K : Fg} {h : Heap} {mg : Str → Option Value} {x : Str} {i j : Int} (X : K.In h) (G : h.Ns mainGlobals mg) (e : pairG K x i j = true) : GV K mg x (rT2 rInt rInt) (i, j) := by
  unfold pairG at e
  split at e
  · rename_i a ha
    exact ⟨.ref a, .ref a, PySem.W.mg_of X G ha, rfl, pairAt_ok e⟩
  · cases e
end L3

namespace L3
open PySem L2
open Evl (Ex ex_rd ex_l ex_t sq_of st_of fresh_back)
def top (i : Nat) : Stmt := PySem.Challenge.pw_bestodds_k20_chances_within_steps.main.body.getD i (.Pass ⟨0, 0, 0, 0⟩)
abbrev s_ratio : Stmt := top 4
abbrev s_plus : Stmt := top 5
abbrev s_times : Stmt := top 6
abbrev s_over : Stmt := top 7
abbrev s_total_weight : Stmt := top 9
abbrev s_mean : Stmt := top 10
abbrev s_rest_of : Stmt := top 12
abbrev s_better : Stmt := top 14
abbrev s_no_cost : Stmt := top 16
abbrev s_best_choice : Stmt := top 15
abbrev s_bounded_chances : Stmt := top 18
abbrev s__law_tape : Stmt := top 20
abbrev s__law_draw : Stmt := top 21
abbrev s__law_take : Stmt := top 23
abbrev s__law_equal : Stmt := top 22
abbrev s__law_ratio : Stmt := top 24
abbrev s__law_plus : Stmt := top 25
abbrev s__law_times : Stmt := top 26
abbrev s__law_ends : Stmt := top 28
abbrev s__law_choices : Stmt := top 29
abbrev s__law_system : Stmt := top 30
abbrev s__law_some : Stmt := top 31
abbrev s__law_mean : Stmt := top 32
abbrev s__law_less : Stmt := top 33
abbrev s__law_even : Stmt := top 35
abbrev s__law_large : Stmt := top 36
abbrev s__law_step : Stmt := top 34
abbrev s_law : Stmt := top 37
section
variable {P : Program} {w : World} {K : PySem.W.Frag} {mg : Str → Option Value} {base : Heap} {f : Addr} {fd : FuncData} {T : List Addr} {cc : Addr}
noncomputable def m_ratio (a0 : Int) (a1 : Int) : Option (Int × Int) :=
  Option.bind (if (decide (a1 < (0 : Int))) = true then
    some (((-a0), (-a1)))
  else
    some ((a0, a1))
  ) fun (s2 : (Int × Int)) =>
  Option.bind (divI s2.1 ((gcdI s2.1 s2.2))) fun t20 =>
  Option.bind (divI s2.2 ((gcdI s2.1 s2.2))) fun t22 =>
  some (t20, t22)
def C_ratio : List Arg → List Cell → Arg → List Cell → Prop := fun as L r L' => ∃ a0 a1 c, as = [⟨rInt, a0⟩, ⟨rInt, a1⟩] ∧ L = [] ∧ m_ratio a0 a1 = some c ∧ r = ⟨(rT2 rInt rInt), c⟩ ∧ L' = []
theorem sc_ratio : FnScope ["n", "d", "common"] ["n", "d"] (defScope s_ratio) := ⟨rfl, rfl, rfl, by decide +kernel, rfl, by decide +kernel, by decide +kernel⟩
set_option maxHeartbeats 4000000 in
theorem ok_ratio (F : FunC K "ratio" s_ratio f fd cc) (z_gcd : mg "gcd" = some (.builtin "math.gcd")) : FnOk P w K mg base CX0 1 f fd ["n", "d"] (spV K T C_ratio) := by
  refine F.ok sc_ratio (fun vs H Q E h => ?_) (fun A outer s H vs Q E hr h => ?_)
  · obtain ⟨B, M, L, as, r, L', hT, w, ha, ⟨_, _, _, rfl, _⟩, k⟩ := h
    exact args_len ha
  · skip
    obtain ⟨B, M, L, as, r, L', rfl, w, ha, ⟨a0, a1, c, rfl, rfl, hm, rfl, rfl⟩, k⟩ := h
    obtain ⟨u0, u1, rfl, f0, f1⟩ := args2 ha
    replace f0 : (rInt).is K B u0 a0 := f0
    replace f1 : (rInt).is K B u1 a1 := f1
    unfold m_ratio at hm
    refine ⟨_, (Evl.pss_cut (ps_if (pt_cmpR op_lt (pv 1) pe_int (nomark _)) (pss_cons (ps_par (i := 0) (j := 1) rfl sc_ratio.nd rfl rfl (by decide) rfl rfl (pa_cons (pe_un un_neg (pv 0)) (pa_cons (pe_un un_neg (pv 1)) pa_nil)) rfl) pss_nil) pss_nil) (pss_cons (ps_set (i := 2) sc_ratio.nd rfl (by first | exact Or.inl rfl | exact Or.inr rfl) (pe_callBfun cr_gcd rfl z_gcd (pa_cons (pv 0) (pa_cons (pv 1) pa_nil)))) (pss_cons (ps_ret (pe_tup (pa_cons (pe_op op_fdivW (pv 0) (pv 2)) (pa_cons (pe_op op_fdivW (pv 1) (pv 2)) pa_nil)))) pss_nil))), ?_⟩
    rw [show start ["n", "d", "common"] [u0, u1] = ([some u0, some u1, none] : L2.St) from rfl]
    obtain ⟨s2, e3, hm⟩ := bindS hm
    refine q_cut (fun σ16 H11 => ∃ v12 v14 B11, Ex B B11 ∧ Own K B11 M [] H11 ∧ σ16 = [some v12, some v14, none] ∧ (rInt).is K B11 v12 s2.1 ∧ (rInt).is K B11 v14 s2.2) ?_ ?_
    · skip
      refine q_ifc w (et_test (ev_lt (ev_varI rfl f1) (ev_int (i := 0)))) (fun hb1 B4 H4 x4 (w4 : Own K B4 M [] H4) => ?_) (fun hb1 B10 H10 x10 (w10 : Own K B10 M [] H10) => ?_)
      · skip
        rw [if_pos hb1] at e3
        refine q_par (n := 0) (m := 1) w4 (ea_cons (ev_neg (ev_varI rfl f0)) (ea_cons (ev_neg (ev_varI rfl f1)) ea_nil)) fun v6 v8 B5 H5 x5 (w5 : Own K B5 M [] H5) h7 h9 => ?_
        replace e3 : some _ = some _ := e3
        cases e3
        exact ⟨v6, v8, _, (x4.trans x5), w5, rfl, h7, h9⟩
      rw [if_neg (by rw [hb1]; exact Bool.false_ne_true)] at e3
      replace e3 : some _ = some _ := e3
      cases e3
      exact ⟨u0, u1, _, x10, w10, rfl, ((rInt).mono x10 f0), ((rInt).mono x10 f1)⟩
    rintro σ16' H11 ⟨v12, v14, B11, x11, w11, rfl, h13, h15⟩
    refine q_asg (n := 2) w11 (ev_gcd (ev_varI rfl h13) (ev_varI rfl h15)) fun v18 B17 H17 x17 (w17 : Own K B17 M [] H17) h19 => ?_
    obtain ⟨t20, e21, hm⟩ := bindS hm
    obtain ⟨t22, e23, hm⟩ := bindS hm
    replace hm : some _ = some _ := hm
    obtain rfl := Option.some.inj hm
    exact q_ret w17 (ev_T2 (ea_cons (ev_div (ev_varI rfl h13) (ev_varI rfl h19) e21) (ea_cons (ev_div (ev_varI rfl h15) (ev_varI rfl h19) e23) ea_nil))) fun v9 B9 H9 x9 w9 h9 => k _ _ _ ((x11.trans x17).trans x9) w9 h9
noncomputable def m_plus (a0 : (Int × Int)) (a1 : (Int × Int)) : Option (Int × Int) :=
  Option.bind (mulI a0.1 a1.2) fun t1 =>
  Option.bind (mulI a1.1 a0.2) fun t3 =>
  Option.bind (mulI a0.2 a1.2) fun t5 =>
  Option.bind (m_ratio ((t1 + t3)) t5) fun t7 =>
  some t7
def C_plus : List Arg → List Cell → Arg → List Cell → Prop := fun as L r L' => ∃ a0 a1 c, as = [⟨(rT2 rInt rInt), a0⟩, ⟨(rT2 rInt rInt), a1⟩] ∧ L = [] ∧ m_plus a0 a1 = some c ∧ r = ⟨(rT2 rInt rInt), c⟩ ∧ L' = []
theorem sc_plus : FnScope ["a", "b"] ["a", "b"] (defScope s_plus) := ⟨rfl, rfl, rfl, by decide +kernel, rfl, by decide +kernel, by decide +kernel⟩
set_option maxHeartbeats 4000000 in
theorem ok_plus (F : FunC K "plus" s_plus f fd cc) (c_ratio : Cl P w K mg base 1 "ratio" (spV K T C_ratio) []) : FnOk P w K mg base CX0 2 f fd ["a", "b"] (spV K T C_plus) := by
  refine F.ok sc_plus (fun vs H Q E h => ?_) (fun A outer s H vs Q E hr h => ?_)
  · obtain ⟨B, M, L, as, r, L', hT, w, ha, ⟨_, _, _, rfl, _⟩, k⟩ := h
    exact args_len ha
  · skip
    obtain ⟨B, M, L, as, r, L', rfl, w, ha, ⟨a0, a1, c, rfl, rfl, hm, rfl, rfl⟩, k⟩ := h
    obtain ⟨u0, u1, rfl, f0, f1⟩ := args2 ha
    replace f0 : ((rT2 rInt rInt)).is K B u0 a0 := f0
    replace f1 : ((rT2 rInt rInt)).is K B u1 a1 := f1
    unfold m_plus at hm
    refine ⟨_, (pss_cons (ps_ret (pe_c c_ratio hr (by omega) rfl (pa_cons (pe_op op_add (pe_op op_mulX (pe_ix ix_seq (pv 0) pe_int (fun _ _ => rfl)) (pe_ix ix_seq (pv 1) pe_int (fun _ _ => rfl))) (pe_op op_mulX (pe_ix ix_seq (pv 1) pe_int (fun _ _ => rfl)) (pe_ix ix_seq (pv 0) pe_int (fun _ _ => rfl)))) (pa_cons (pe_op op_mulX (pe_ix ix_seq (pv 0) pe_int (fun _ _ => rfl)) (pe_ix ix_seq (pv 1) pe_int (fun _ _ => rfl))) pa_nil)))) pss_nil), ?_⟩
    rw [show start ["a", "b"] [u0, u1] = ([some u0, some u1] : L2.St) from rfl]
    obtain ⟨t1, e2, hm⟩ := bindS hm
    obtain ⟨t3, e4, hm⟩ := bindS hm
    obtain ⟨t5, e6, hm⟩ := bindS hm
    obtain ⟨t7, e8, hm⟩ := bindS hm
    replace hm : some _ = some _ := hm
    obtain rfl := Option.some.inj hm
    exact q_ret w (ev_call (ea_cons (ev_add (ev_mul (ev_fst (ev_var rfl f0)) (ev_snd (ev_var rfl f1)) e2) (ev_mul (ev_fst (ev_var rfl f1)) (ev_snd (ev_var rfl f0)) e4)) (ea_cons (ev_mul (ev_snd (ev_var rfl f0)) (ev_snd (ev_var rfl f1)) e6) ea_nil)) ⟨_, _, _, rfl, rfl, e8, rfl, rfl⟩) fun v9 B9 H9 x9 w9 h9 => k _ _ _ ((Ex.refl _).trans x9) w9 h9
noncomputable def m_times (a0 : (Int × Int)) (a1 : (Int × Int)) : Option (Int × Int) :=
  Option.bind (mulI a0.1 a1.1) fun t1 =>
  Option.bind (mulI a0.2 a1.2) fun t3 =>
  Option.bind (m_ratio t1 t3) fun t5 =>
  some t5
def C_times : List Arg → List Cell → Arg → List Cell → Prop := fun as L r L' => ∃ a0 a1 c, as = [⟨(rT2 rInt rInt), a0⟩, ⟨(rT2 rInt rInt), a1⟩] ∧ L = [] ∧ m_times a0 a1 = some c ∧ r = ⟨(rT2 rInt rInt), c⟩ ∧ L' = []
theorem sc_times : FnScope ["a", "b"] ["a", "b"] (defScope s_times) := ⟨rfl, rfl, rfl, by decide +kernel, rfl, by decide +kernel, by decide +kernel⟩
set_option maxHeartbeats 4000000 in
theorem ok_times (F : FunC K "times" s_times f fd cc) (c_ratio : Cl P w K mg base 1 "ratio" (spV K T C_ratio) []) : FnOk P w K mg base CX0 2 f fd ["a", "b"] (spV K T C_times) := by
  refine F.ok sc_times (fun vs H Q E h => ?_) (fun A outer s H vs Q E hr h => ?_)
  · obtain ⟨B, M, L, as, r, L', hT, w, ha, ⟨_, _, _, rfl, _⟩, k⟩ := h
    exact args_len ha
  · skip
    obtain ⟨B, M, L, as, r, L', rfl, w, ha, ⟨a0, a1, c, rfl, rfl, hm, rfl, rfl⟩, k⟩ := h
    obtain ⟨u0, u1, rfl, f0, f1⟩ := args2 ha
    replace f0 : ((rT2 rInt rInt)).is K B u0 a0 := f0
    replace f1 : ((rT2 rInt rInt)).is K B u1 a1 := f1
    unfold m_times at hm
    refine ⟨_, (pss_cons (ps_ret (pe_c c_ratio hr (by omega) rfl (pa_cons (pe_op op_mulX (pe_ix ix_seq (pv 0) pe_int (fun _ _ => rfl)) (pe_ix ix_seq (pv 1) pe_int (fun _ _ => rfl))) (pa_cons (pe_op op_mulX (pe_ix ix_seq (pv 0) pe_int (fun _ _ => rfl)) (pe_ix ix_seq (pv 1) pe_int (fun _ _ => rfl))) pa_nil)))) pss_nil), ?_⟩
    rw [show start ["a", "b"] [u0, u1] = ([some u0, some u1] : L2.St) from rfl]
    obtain ⟨t1, e2, hm⟩ := bindS hm
    obtain ⟨t3, e4, hm⟩ := bindS hm
    obtain ⟨t5, e6, hm⟩ := bindS hm
    replace hm : some _ = some _ := hm
    obtain rfl := Option.some.inj hm
    exact q_ret w (ev_call (ea_cons (ev_mul (ev_fst (ev_var rfl f0)) (ev_fst (ev_var rfl f1)) e2) (ea_cons (ev_mul (ev_snd (ev_var rfl f0)) (ev_snd (ev_var rfl f1)) e4) ea_nil)) ⟨_, _, _, rfl, rfl, e6, rfl, rfl⟩) fun v9 B9 H9 x9 w9 h9 => k _ _ _ ((Ex.refl _).trans x9) w9 h9
noncomputable def m_over (a0 : (Int × Int)) (a1 : (Int × Int)) : Option (Int × Int) :=
  Option.bind (mulI a0.1 a1.2) fun t1 =>
  Option.bind (mulI a0.2 a1.1) fun t3 =>
  Option.bind (m_ratio t1 t3) fun t5 =>
  some t5
def C_over : List Arg → List Cell → Arg → List Cell → Prop := fun as L r L' => ∃ a0 a1 c, as = [⟨(rT2 rInt rInt), a0⟩, ⟨(rT2 rInt rInt), a1⟩] ∧ L = [] ∧ m_over a0 a1 = some c ∧ r = ⟨(rT2 rInt rInt), c⟩ ∧ L' = []
theorem sc_over : FnScope ["a", "b"] ["a", "b"] (defScope s_over) := ⟨rfl, rfl, rfl, by decide +kernel, rfl, by decide +kernel, by decide +kernel⟩
set_option maxHeartbeats 4000000 in
theorem ok_over (F : FunC K "over" s_over f fd cc) (c_ratio : Cl P w K mg base 1 "ratio" (spV K T C_ratio) []) : FnOk P w K mg base CX0 2 f fd ["a", "b"] (spV K T C_over) := by
  refine F.ok sc_over (fun vs H Q E h => ?_) (fun A outer s H vs Q E hr h => ?_)
  · obtain ⟨B, M, L, as, r, L', hT, w, ha, ⟨_, _, _, rfl, _⟩, k⟩ := h
    exact args_len ha
  · skip
    obtain ⟨B, M, L, as, r, L', rfl, w, ha, ⟨a0, a1, c, rfl, rfl, hm, rfl, rfl⟩, k⟩ := h
    obtain ⟨u0, u1, rfl, f0, f1⟩ := args2 ha
    replace f0 : ((rT2 rInt rInt)).is K B u0 a0 := f0
    replace f1 : ((rT2 rInt rInt)).is K B u1 a1 := f1
    unfold m_over at hm
    refine ⟨_, (pss_cons (ps_ret (pe_c c_ratio hr (by omega) rfl (pa_cons (pe_op op_mulX (pe_ix ix_seq (pv 0) pe_int (fun _ _ => rfl)) (pe_ix ix_seq (pv 1) pe_int (fun _ _ => rfl))) (pa_cons (pe_op op_mulX (pe_ix ix_seq (pv 0) pe_int (fun _ _ => rfl)) (pe_ix ix_seq (pv 1) pe_int (fun _ _ => rfl))) pa_nil)))) pss_nil), ?_⟩
    rw [show start ["a", "b"] [u0, u1] = ([some u0, some u1] : L2.St) from rfl]
    obtain ⟨t1, e2, hm⟩ := bindS hm
    obtain ⟨t3, e4, hm⟩ := bindS hm
    obtain ⟨t5, e6, hm⟩ := bindS hm
    replace hm : some _ = some _ := hm
    obtain rfl := Option.some.inj hm
    exact q_ret w (ev_call (ea_cons (ev_mul (ev_fst (ev_var rfl f0)) (ev_snd (ev_var rfl f1)) e2) (ea_cons (ev_mul (ev_snd (ev_var rfl f0)) (ev_fst (ev_var rfl f1)) e4) ea_nil)) ⟨_, _, _, rfl, rfl, e6, rfl, rfl⟩) fun v9 B9 H9 x9 w9 h9 => k _ _ _ ((Ex.refl _).trans x9) w9 h9
noncomputable def m_total_weight (a0 : (List (Int × Int))) : Option Int :=
  Option.bind (sumM (fun (x9 : (Int × Int)) => ( some x9.2)) a0) fun t19 =>
  some t19
def C_total_weight : List Arg → List Cell → Arg → List Cell → Prop := fun as L r L' => ∃ a0 c, as = [⟨(rTup (rT2 rInt rInt)), a0⟩] ∧ L = [] ∧ m_total_weight a0 = some c ∧ r = ⟨rInt, c⟩ ∧ L' = []
theorem sc_total_weight : FnScope ["ends"] ["ends"] (defScope s_total_weight) := ⟨rfl, rfl, rfl, by decide +kernel, rfl, by decide +kernel, by decide +kernel⟩
set_option maxHeartbeats 4000000 in
theorem ok_total_weight (F : FunC K "total_weight" s_total_weight f fd cc) (z_sum : mg "sum" = none) (tb : ∃ P0, GxR.TabB base mg cc P0 ∧ P0 ∈ T) : FnOk P w K mg base CX0 2 f fd ["ends"] (spV K T C_total_weight) := by
  obtain ⟨P0, tb, hP0⟩ := tb
  refine F.ok sc_total_weight (fun vs H Q E h => ?_) (fun A outer s H vs Q E hr h => ?_)
  · obtain ⟨B, M, L, as, r, L', hT, w, ha, ⟨_, _, rfl, _⟩, k⟩ := h
    exact args_len ha
  · skip
    obtain ⟨B, M, L, as, r, L', rfl, w, ha, ⟨a0, c, rfl, rfl, hm, rfl, rfl⟩, k⟩ := h
    obtain ⟨u0, rfl, f0⟩ := args1 ha
    replace f0 : ((rTup (rT2 rInt rInt))).is K B u0 a0 := f0
    unfold m_total_weight at hm
    refine ⟨_, (pss_cons (ps_ret (L3G.pe_sumG (NG := ["_", "weight"]) (js := [none, none]) (Room.mono hr (j := 1) (by omega)) rfl z_sum bt_sum tb rfl (L3G.gs_by (sc := defScope s_total_weight) (by decide +kernel)) (pi_tup (pv 0)) (show L3G.capB ["ends"] ["_", "weight"] _ _ = true by decide +kernel) (fun _ => (pg_tup rfl (pgs_cons (pg_name (i := 0) (show List.Nodup (["_", "weight"] : List Str) by decide +kernel) rfl (by first | exact Or.inl rfl | exact Or.inr rfl)) (pgs_cons (pg_name (i := 1) (show List.Nodup (["_", "weight"] : List Str) by decide +kernel) rfl (by first | exact Or.inl rfl | exact Or.inr rfl)) pgs_nil)))) (fun _ hr => (pv 1)) (fun _ => rfl))) pss_nil), ?_⟩
    rw [show start ["ends"] [u0] = ([some u0] : L2.St) from rfl]
    obtain ⟨t19, e20, hm⟩ := bindS hm
    replace hm : some _ = some _ := hm
    obtain rfl := Option.some.inj hm
    exact q_ret w (ev_sumG hP0 (ei_tup (ev_var rfl f0)) _ (fun σ14 => ∃ o1 o2, σ14 = [o1, o2]) ⟨none, none, rfl⟩ e20 (by rintro _ x9 c10 v7 B3 H4 σ14 hb11 x5 ⟨o1, o2, rfl⟩ w6 h8 Q12 q13; replace w6 : Own K B3 M [] H4 := w6; refine g_T2 h8 w6 fun v15 v16 h17 h18 => ?_; refine g_cons ?_; refine g_name ?_; refine g_cons ?_; refine g_name ?_; refine g_nil ?_; obtain rfl := Option.some.inj hb11; exact (ev_varI rfl h18) B3 H4 (Ex.refl _) w6 _ fun v21 B22 H23 x24 w25 h26 => by rw [show v21 = V.int _ from h26]; exact q13 _ B22 H23 ⟨_, _, rfl⟩ x24 w25)) fun v9 B9 H9 x9 w9 h9 => k _ _ _ ((Ex.refl _).trans x9) w9 h9
noncomputable def m_mean (a0 : (List (Int × Int))) (a1 : (List (Int × Int))) : Option (Int × Int) :=
  Option.bind (foldO (S := (Int × Int)) (α := (Int × Int)) (fun (s4 : (Int × Int)) (x5 : (Int × Int)) => (
    Option.bind (ixL a1 x5.1) fun t31 =>
    Option.bind (if (!decide (t31 = ((0 : Int), (1 : Int)))) = true then
      Option.bind (ixL a1 x5.1) fun t37 =>
      Option.bind (m_times ((x5.2, (1 : Int))) t37) fun t39 =>
      Option.bind (m_plus s4 t39) fun t41 =>
      some t41
    else
      some s4
    ) fun (s34 : (Int × Int)) =>
    some s34
  )) (((0 : Int), (1 : Int))) a0) fun s51 =>
  Option.bind (m_total_weight a0) fun t61 =>
  Option.bind (m_over s51 ((t61, (1 : Int)))) fun t63 =>
  some t63
def C_mean : List Arg → List Cell → Arg → List Cell → Prop := fun as L r L' => ∃ a0 a1 c, as = [⟨(rTup (rT2 rInt rInt)), a0⟩, ⟨(rLst (rT2 rInt rInt)), a1⟩] ∧ L = [] ∧ m_mean a0 a1 = some c ∧ r = ⟨(rT2 rInt rInt), c⟩ ∧ L' = []
theorem sc_mean : FnScope ["ends", "values", "found", "state", "weight"] ["ends", "values"] (defScope s_mean) := ⟨rfl, rfl, rfl, by decide +kernel, rfl, by decide +kernel, by decide +kernel⟩
set_option maxHeartbeats 4000000 in
theorem ok_mean (F : FunC K "mean" s_mean f fd cc) (c_plus : Cl P w K mg base 2 "plus" (spV K T C_plus) []) (c_times : Cl P w K mg base 2 "times" (spV K T C_times) []) (c_over : Cl P w K mg base 2 "over" (spV K T C_over) []) (c_total_weight : Cl P w K mg base 2 "total_weight" (spV K T C_total_weight) []) (g_ZERO : GV K mg "ZERO" (rT2 rInt rInt) (((0 : Int), (1 : Int)))) : FnOk P w K mg base CX0 3 f fd ["ends", "values"] (spV K T C_mean) := by
  obtain ⟨u_ZERO, v_ZERO, m_ZERO, rv_ZERO, i_ZERO⟩ := g_ZERO
  refine F.ok sc_mean (fun vs H Q E h => ?_) (fun A outer s H vs Q E hr h => ?_)
  · obtain ⟨B, M, L, as, r, L', hT, w, ha, ⟨_, _, _, rfl, _⟩, k⟩ := h
    exact args_len ha
  · skip
    obtain ⟨B, M, L, as, r, L', rfl, w, ha, ⟨a0, a1, c, rfl, rfl, hm, rfl, rfl⟩, k⟩ := h
    obtain ⟨u0, u1, rfl, f0, f1⟩ := args2 ha
    replace f0 : ((rTup (rT2 rInt rInt))).is K B u0 a0 := f0
    replace f1 : ((rLst (rT2 rInt rInt))).is K B u1 a1 := f1
    have hu := room_hu hr
    unfold m_mean at hm
    refine ⟨_, (pss_cons (ps_set (i := 2) sc_mean.nd rfl (by first | exact Or.inl rfl | exact Or.inr rfl) (pe_glob rfl m_ZERO rv_ZERO)) (pss_cons (ps_for PassesOwn.never rfl (pi_tup (pv 0)) (pg_tup rfl (pgs_cons (pg_name (i := 3) sc_mean.nd rfl (by first | exact Or.inl rfl | exact Or.inr rfl)) (pgs_cons (pg_name (i := 4) sc_mean.nd rfl (by first | exact Or.inl rfl | exact Or.inr rfl)) pgs_nil))) (Evl.pss_cut (ps_if (pt_cmpR (op_neD hu) (pe_ix ix_seq (pv 1) (pv 3) (fun _ _ => rfl)) (pe_glob rfl m_ZERO rv_ZERO) (nomark _)) (pss_cons (ps_set (i := 2) sc_mean.nd rfl (by first | exact Or.inl rfl | exact Or.inr rfl) (pe_c c_plus hr (by omega) rfl (pa_cons (pv 2) (pa_cons (pe_c c_times hr (by omega) rfl (pa_cons (pe_tup (pa_cons (pv 4) (pa_cons pe_int pa_nil))) (pa_cons (pe_ix ix_seq (pv 1) (pv 3) (fun _ _ => rfl)) pa_nil))) pa_nil)))) pss_nil) pss_nil) pss_nil)) (pss_cons (ps_ret (pe_c c_over hr (by omega) rfl (pa_cons (pv 2) (pa_cons (pe_tup (pa_cons (pe_c c_total_weight hr (by omega) rfl (pa_cons (pv 0) pa_nil)) (pa_cons pe_int pa_nil))) pa_nil)))) pss_nil))), ?_⟩
    rw [show start ["ends", "values", "found", "state", "weight"] [u0, u1] = ([some u0, some u1, none, none, none] : L2.St) from rfl]
    refine q_asg (n := 2) w (ev_k i_ZERO) fun v2 B1 H1 x1 (w1 : Own K B1 M [] H1) h3 => ?_
    obtain ⟨s51, e8, hm⟩ := bindS hm
    refine q_fold w1 (ei_tup (ev_var rfl (((rTup (rT2 rInt rInt))).mono x1 f0))) _ (fun s4 B9 σ22 => ∃ v23 o25 o26, σ22 = [some u0, some u1, some v23, o25, o26] ∧ ((rT2 rInt rInt)).is K B9 v23 s4) (fun s4 => []) (((0 : Int), (1 : Int))) e8 (fun B9 x9 => ⟨v2, _, _, rfl, (((rT2 rInt rInt)).mono x9 h3)⟩) rfl ?_ ?_
    · skip
      rintro s4 x5 s65 v15 B9 B10 H11 σ22 hb6 x12 ⟨v23, o25, o26, rfl, h24⟩ x13 w14 h16 N17 K18 hN19
      replace w14 : Own K B10 M [] H11 := w14
      refine g_T2 h16 w14 fun v27 v28 h29 h30 => ?_
      refine g_cons ?_
      refine g_name ?_
      refine g_cons ?_
      refine g_name ?_
      refine g_nil ?_
      obtain ⟨t31, e32, hb6⟩ := bindS hb6
      obtain ⟨s34, e35, hb6⟩ := bindS hb6
      refine q_cut (fun σ50 H47 => ∃ v48 B47, Ex B10 B47 ∧ Own K B47 M [] H47 ∧ σ50 = [some u0, some u1, some v48, some v27, some v28] ∧ ((rT2 rInt rInt)).is K B47 v48 s34) ?_ ?_
      · skip
        refine q_ifc w14 (et_test (ev_neT (dr_T2 dr_int dr_int) (by decide) (ev_ix (ev_seqL (ev_var rfl (((rLst (rT2 rInt rInt))).mono ((x1.trans x12).trans x13) f1))) (ev_varI rfl h29) e32) (ev_k i_ZERO))) (fun hb33 B36 H36 x36 (w36 : Own K B36 M [] H36) => ?_) (fun hb33 B46 H46 x46 (w46 : Own K B46 M [] H46) => ?_)
        · skip
          rw [if_pos hb33] at e35
          obtain ⟨t37, e38, e35⟩ := bindS e35
          obtain ⟨t39, e40, e35⟩ := bindS e35
          obtain ⟨t41, e42, e35⟩ := bindS e35
          refine q_asg (n := 2) w36 (ev_call (ea_cons (ev_var rfl (((rT2 rInt rInt)).mono (x13.trans x36) h24)) (ea_cons (ev_call (ea_cons (ev_T2 (ea_cons (ev_varI rfl h30) (ea_cons (ev_int (i := 1)) ea_nil))) (ea_cons (ev_ix (ev_seqL (ev_var rfl (((rLst (rT2 rInt rInt))).mono (((x1.trans x12).trans x13).trans x36) f1))) (ev_varI rfl h29) e38) ea_nil)) ⟨_, _, _, rfl, rfl, e40, rfl, rfl⟩) ea_nil)) ⟨_, _, _, rfl, rfl, e42, rfl, rfl⟩) fun v44 B43 H43 x43 (w43 : Own K B43 M [] H43) h45 => ?_
          replace e35 : some _ = some _ := e35
          cases e35
          exact ⟨v44, _, (x36.trans x43), w43, rfl, h45⟩
        rw [if_neg (by rw [hb33]; exact Bool.false_ne_true)] at e35
        replace e35 : some _ = some _ := e35
        cases e35
        exact ⟨v23, _, x46, w46, rfl, (((rT2 rInt rInt)).mono (x13.trans x46) h24)⟩
      rintro σ50' H47 ⟨v48, B47, x47, w47, rfl, h49⟩
      replace hb6 : some _ = some _ := hb6
      cases hb6
      exact hN19 _ _ _ x47 w47 ⟨v48, _, _, rfl, h49⟩
    rintro B52 H53 σ56 x54 w55 ⟨v57, o59, o60, rfl, h58⟩
    replace w55 : Own K B52 M [] H53 := w55
    obtain ⟨t61, e62, hm⟩ := bindS hm
    obtain ⟨t63, e64, hm⟩ := bindS hm
    replace hm : some _ = some _ := hm
    obtain rfl := Option.some.inj hm
    exact q_ret w55 (ev_call (ea_cons (ev_var rfl h58) (ea_cons (ev_T2 (ea_cons (ev_call (ea_cons (ev_var rfl (((rTup (rT2 rInt rInt))).mono (x1.trans x54) f0)) ea_nil) ⟨_, _, rfl, rfl, e62, rfl, rfl⟩) (ea_cons (ev_int (i := 1)) ea_nil))) ea_nil)) ⟨_, _, _, rfl, rfl, e64, rfl, rfl⟩) fun v9 B9 H9 x9 w9 h9 => k _ _ _ ((x1.trans x54).trans x9) w9 h9
noncomputable def m_rest_of (a0 : (List (List (Int × (List (Int × Int)))))) (a1 : (List Int)) (a2 : (List Int)) : Option (List Int) :=
  Option.bind (small62 ((a0.length : Int))) fun t1 =>
  Option.bind (room ((rng 0 ((a0.length : Int)))).length) fun t32 =>
  Option.bind (compM (S := Unit) (β := Int) (fun (s3 : Unit) (x10 : Int) => ( if ((decide (x10 ∈ a1)) && (!decide (x10 ∈ a2))) = true then ( some (some x10, ())) else some (none, ()))) (()) ((rng 0 ((a0.length : Int))))) fun t34 =>
  some t34.1
def C_rest_of : List Arg → List Cell → Arg → List Cell → Prop := fun as L r L' => ∃ a0 a1 a2 c, as = [⟨(rTup (rTup (rT2 rInt (rTup (rT2 rInt rInt))))), a0⟩, ⟨(rLst rInt), a1⟩, ⟨(rLst rInt), a2⟩] ∧ L = [] ∧ m_rest_of a0 a1 a2 = some c ∧ r = ⟨(rLst rInt), c⟩ ∧ L' = []
theorem sc_rest_of : FnScope ["system", "allowed", "targets", "state"] ["system", "allowed", "targets"] (defScope s_rest_of) := ⟨rfl, rfl, rfl, by decide +kernel, rfl, by decide +kernel, by decide +kernel⟩
set_option maxHeartbeats 4000000 in
theorem ok_rest_of (F : FunC K "rest_of" s_rest_of f fd cc) (z_range : mg "range" = none) (z_len : mg "len" = none) : FnOk P w K mg base CX0 1 f fd ["system", "allowed", "targets"] (spV K T C_rest_of) := by
  refine F.ok sc_rest_of (fun vs H Q E h => ?_) (fun A outer s H vs Q E hr h => ?_)
  · obtain ⟨B, M, L, as, r, L', hT, w, ha, ⟨_, _, _, _, rfl, _⟩, k⟩ := h
    exact args_len ha
  · skip
    obtain ⟨B, M, L, as, r, L', rfl, w, ha, ⟨a0, a1, a2, c, rfl, rfl, hm, rfl, rfl⟩, k⟩ := h
    obtain ⟨u0, u1, u2, rfl, f0, f1, f2⟩ := args3 ha
    replace f0 : ((rTup (rTup (rT2 rInt (rTup (rT2 rInt rInt)))))).is K B u0 a0 := f0
    replace f1 : ((rLst rInt)).is K B u1 a1 := f1
    replace f2 : ((rLst rInt)).is K B u2 a2 := f2
    unfold m_rest_of at hm
    refine ⟨_, (pss_cons (ps_ret (pe_lc rfl sc_rest_of.nd (pi_range1 rfl z_range (pa_cons (pe_callB call_len_seq rfl z_len bt_len (pa_cons (pv 0) pa_nil)) pa_nil)) (blkOk_by (own := [("state", 3)]) (show blkC ["system", "allowed", "targets", "state"] (defScope s_rest_of) _ _ = true by decide +kernel)) (fun _ _ _ _ _ => (pg_name (i := 3) sc_rest_of.nd rfl (by first | exact Or.inl rfl | exact Or.inr rfl))) (fun _ _ _ _ _ => (pts_one (PW.pt (pw_and (pt_cmpR (show OpR _ _ (rIn K false) from op_in_seq) (pv 3) (pv 1) rfl) (pw_and1 (pt_cmpR (show OpR _ _ (rIn K true) from op_notIn_seq) (pv 3) (pv 2) rfl)))))) (fun _ _ _ _ _ => (pv 3)))) pss_nil), ?_⟩
    rw [show start ["system", "allowed", "targets", "state"] [u0, u1, u2] = ([some u0, some u1, some u2, none] : L2.St) from rfl]
    obtain ⟨t1, e2, hm⟩ := bindS hm
    obtain ⟨t32, e33, hm⟩ := bindS hm
    obtain ⟨t34, e35, hm⟩ := bindS hm
    replace hm : some _ = some _ := hm
    obtain rfl := Option.some.inj hm
    exact q_ret w (ev_frz (el_lc (S := Unit) (ys := t34.1) (s1 := t34.2) (s0 := ()) (σ' := [some u0, some u1, some u2, none]) rInt (ei_rng1 (ea_cons (ev_len (ev_seqT (ev_var rfl f0))) ea_nil) e2) _ (fun (s3 : Unit) => []) rfl e35 e33 rfl (by rintro s3 x10 o15 s16 v8 D13 a14 B4 H5 hb12 x6 w7 h9 PY17 PN18 qY19 qN20; replace w7 : Own K B4 M [⟨D13, (cLst rInt), a14⟩] H5 := w7; refine g_name ?_; refine ⟨rfl, ?_⟩; exact (et_and (et_test (ev_inI (ev_varI rfl h9) (ev_seqL (ev_var rfl (((rLst rInt)).mono x6 f1))))) fun _ => (et_test (ev_niI (ev_varI rfl h9) (ev_seqL (ev_var rfl (((rLst rInt)).mono x6 f2)))))) B4 H5 (Ex.refl _) w7 _ fun B27 H28 x29 (w30 : Own K B27 M [⟨D13, (cLst rInt), a14⟩] H28) => lc_if (fun hq31 => by rw [if_pos hq31] at hb12; obtain ⟨rfl, rfl⟩ := Prod.mk.inj (Option.some.inj hb12); exact (ev_varI rfl h9) B27 H28 (Ex.refl _) w30 _ fun v21 B22 H23 x24 w25 h26 => qY19 v21 B22 H23 _ rfl (x29.trans x24) w25 h26) (fun hq31 => by rw [if_neg (by rw [hq31]; exact Bool.false_ne_true)] at hb12; obtain ⟨rfl, rfl⟩ := Prod.mk.inj (Option.some.inj hb12); exact qN20 B27 H28 rfl x29 w30)))) fun v9 B9 H9 x9 w9 h9 => k _ _ _ ((Ex.refl _).trans x9) w9 h9
noncomputable def m_better (a0 : (Int × Int)) (a1 : (Int × Int)) (a2 : Bool) : Option Bool :=
  Option.bind ((if a2 = true then (Option.bind (mulI a1.1 a0.2) fun t1 => Option.bind (mulI a0.1 a1.2) fun t3 => some ((decide (t1 < t3)))) else (Option.bind (mulI a0.1 a1.2) fun t5 => Option.bind (mulI a1.1 a0.2) fun t7 => some ((decide (t5 < t7)))))) fun t9 =>
  some t9
def C_better : List Arg → List Cell → Arg → List Cell → Prop := fun as L r L' => ∃ a0 a1 a2 c, as = [⟨(rT2 rInt rInt), a0⟩, ⟨(rT2 rInt rInt), a1⟩, ⟨rBool, a2⟩] ∧ L = [] ∧ m_better a0 a1 a2 = some c ∧ r = ⟨rBool, c⟩ ∧ L' = []
theorem sc_better : FnScope ["one", "two", "most"] ["one", "two", "most"] (defScope s_better) := ⟨rfl, rfl, rfl, by decide +kernel, rfl, by decide +kernel, by decide +kernel⟩
set_option maxHeartbeats 4000000 in
theorem ok_better (F : FunC K "better" s_better f fd cc)  : FnOk P w K mg base CX0 1 f fd ["one", "two", "most"] (spV K T C_better) := by
  refine F.ok sc_better (fun vs H Q E h => ?_) (fun A outer s H vs Q E hr h => ?_)
  · obtain ⟨B, M, L, as, r, L', hT, w, ha, ⟨_, _, _, _, rfl, _⟩, k⟩ := h
    exact args_len ha
  · skip
    obtain ⟨B, M, L, as, r, L', rfl, w, ha, ⟨a0, a1, a2, c, rfl, rfl, hm, rfl, rfl⟩, k⟩ := h
    obtain ⟨u0, u1, u2, rfl, f0, f1, f2⟩ := args3 ha
    replace f0 : ((rT2 rInt rInt)).is K B u0 a0 := f0
    replace f1 : ((rT2 rInt rInt)).is K B u1 a1 := f1
    replace f2 : (rBool).is K B u2 a2 := f2
    unfold m_better at hm
    refine ⟨_, (pss_cons (ps_ret (pe_ifExp (pt_val (pv 2)) (pe_cmpR op_lt (pe_op op_mulX (pe_ix ix_seq (pv 1) pe_int (fun _ _ => rfl)) (pe_ix ix_seq (pv 0) pe_int (fun _ _ => rfl))) (pe_op op_mulX (pe_ix ix_seq (pv 0) pe_int (fun _ _ => rfl)) (pe_ix ix_seq (pv 1) pe_int (fun _ _ => rfl))) (nomark _)) (pe_cmpR op_lt (pe_op op_mulX (pe_ix ix_seq (pv 0) pe_int (fun _ _ => rfl)) (pe_ix ix_seq (pv 1) pe_int (fun _ _ => rfl))) (pe_op op_mulX (pe_ix ix_seq (pv 1) pe_int (fun _ _ => rfl)) (pe_ix ix_seq (pv 0) pe_int (fun _ _ => rfl))) (nomark _)))) pss_nil), ?_⟩
    rw [show start ["one", "two", "most"] [u0, u1, u2] = ([some u0, some u1, some u2] : L2.St) from rfl]
    obtain ⟨t9, e10, hm⟩ := bindS hm
    replace hm : some _ = some _ := hm
    obtain rfl := Option.some.inj hm
    exact q_ret w (ev_if (r := rBool) (a := t9) (L2 := []) (et_B (ev_varB rfl f2)) (fun hb11 => by rw [if_pos hb11] at e10; obtain ⟨t1, e2, e10⟩ := bindS e10; obtain ⟨t3, e4, e10⟩ := bindS e10; obtain rfl := Option.some.inj e10; exact (ev_lt (ev_mul (ev_fst (ev_var rfl f1)) (ev_snd (ev_var rfl f0)) e2) (ev_mul (ev_fst (ev_var rfl f0)) (ev_snd (ev_var rfl f1)) e4))) (fun hb11 => by rw [if_neg (by rw [hb11]; exact Bool.false_ne_true)] at e10; obtain ⟨t5, e6, e10⟩ := bindS e10; obtain ⟨t7, e8, e10⟩ := bindS e10; obtain rfl := Option.some.inj e10; exact (ev_lt (ev_mul (ev_fst (ev_var rfl f0)) (ev_snd (ev_var rfl f1)) e6) (ev_mul (ev_fst (ev_var rfl f1)) (ev_snd (ev_var rfl f0)) e8)))) fun v9 B9 H9 x9 w9 h9 => k _ _ _ ((Ex.refl _).trans x9) w9 h9
noncomputable def m_no_cost (a0 : (Int × (List (Int × Int)))) : Option (Int × Int) :=
  Option.bind (mulI ((0 : Int)) a0.1) fun t1 =>
  some (t1, (1 : Int))
def C_no_cost : List Arg → List Cell → Arg → List Cell → Prop := fun as L r L' => ∃ a0 c, as = [⟨(rT2 rInt (rTup (rT2 rInt rInt))), a0⟩] ∧ L = [] ∧ m_no_cost a0 = some c ∧ r = ⟨(rT2 rInt rInt), c⟩ ∧ L' = []
theorem sc_no_cost : FnScope ["choice"] ["choice"] (defScope s_no_cost) := ⟨rfl, rfl, rfl, by decide +kernel, rfl, by decide +kernel, by decide +kernel⟩
set_option maxHeartbeats 4000000 in
theorem ok_no_cost (F : FunC K "no_cost" s_no_cost f fd cc)  : FnOk P w K mg base CX0 1 f fd ["choice"] (spV K T C_no_cost) := by
  refine F.ok sc_no_cost (fun vs H Q E h => ?_) (fun A outer s H vs Q E hr h => ?_)
  · obtain ⟨B, M, L, as, r, L', hT, w, ha, ⟨_, _, rfl, _⟩, k⟩ := h
    exact args_len ha
  · skip
    obtain ⟨B, M, L, as, r, L', rfl, w, ha, ⟨a0, c, rfl, rfl, hm, rfl, rfl⟩, k⟩ := h
    obtain ⟨u0, rfl, f0⟩ := args1 ha
    replace f0 : ((rT2 rInt (rTup (rT2 rInt rInt)))).is K B u0 a0 := f0
    unfold m_no_cost at hm
    refine ⟨_, (pss_cons (ps_ret (pe_tup (pa_cons (pe_op op_mulX pe_int (pe_ix ix_seq (pv 0) pe_int (fun _ _ => rfl))) (pa_cons pe_int pa_nil)))) pss_nil), ?_⟩
    rw [show start ["choice"] [u0] = ([some u0] : L2.St) from rfl]
    obtain ⟨t1, e2, hm⟩ := bindS hm
    replace hm : some _ = some _ := hm
    obtain rfl := Option.some.inj hm
    exact q_ret w (ev_T2 (ea_cons (ev_mul (ev_int (i := 0)) (ev_fst (ev_var rfl f0)) e2) (ea_cons (ev_int (i := 1)) ea_nil))) fun v9 B9 H9 x9 w9 h9 => k _ _ _ ((Ex.refl _).trans x9) w9 h9
noncomputable def m_best_choice (a0 : (List (Int × (List (Int × Int))))) (a1 : (List (Int × Int))) (a2 : (List Int)) (a4 : Bool) : Option (Option (Int × (Int × Int))) :=
  Option.bind (foldO (S := (Option (Int × (Int × Int)))) (α := Int) (fun (s4 : (Option (Int × (Int × Int)))) (x5 : Int) => (
    Option.bind (ixL a0 x5) fun t27 =>
    Option.bind (m_no_cost t27) fun t29 =>
    Option.bind (ixL a0 x5) fun t31 =>
    Option.bind (m_mean t31.2 a1) fun t33 =>
    Option.bind (m_plus t29 t33) fun t35 =>
    Option.bind ((if s4.isNone = true then (some (true)) else (Option.bind (s4) fun t40 => Option.bind (m_better t35 t40.2 a4) fun t42 => some (t42)))) fun t44 =>
    Option.bind (if t44 = true then
      some ((some (x5, t35)))
    else
      some s4
    ) fun (s48 : (Option (Int × (Int × Int)))) =>
    some s48
  )) none a2) fun s59 =>
  some s59
def C_best_choice (q_no_cost : Addr) : List Arg → List Cell → Arg → List Cell → Prop := fun as L r L' => ∃ a0 a1 a2 a4 c, as = [⟨(rTup (rT2 rInt (rTup (rT2 rInt rInt)))), a0⟩, ⟨(rLst (rT2 rInt rInt)), a1⟩, ⟨(rLst rInt), a2⟩, ⟨rRef, q_no_cost⟩, ⟨rBool, a4⟩] ∧ L = [] ∧ m_best_choice a0 a1 a2 a4 = some c ∧ r = ⟨(rOpt (rT2 rInt (rT2 rInt rInt))), c⟩ ∧ L' = []
theorem sc_best_choice : FnScope ["choices", "values", "numbers", "base", "most", "found", "number", "value"] ["choices", "values", "numbers", "base", "most"] (defScope s_best_choice) := ⟨rfl, rfl, rfl, by decide +kernel, rfl, by decide +kernel, by decide +kernel⟩
set_option maxHeartbeats 4000000 in
theorem ok_best_choice (F : FunC K "best_choice" s_best_choice f fd cc) (c_plus : Cl P w K mg base 2 "plus" (spV K T C_plus) []) (c_mean : Cl P w K mg base 3 "mean" (spV K T C_mean) []) (c_better : Cl P w K mg base 1 "better" (spV K T C_better) []) (cq_no_cost : ClA P w K mg base 1 q_no_cost (spV K T C_no_cost) []) : FnOk P w K mg base CX0 4 f fd ["choices", "values", "numbers", "base", "most"] (spV K T (C_best_choice q_no_cost)) := by
  refine F.ok sc_best_choice (fun vs H Q E h => ?_) (fun A outer s H vs Q E hr h => ?_)
  · obtain ⟨B, M, L, as, r, L', hT, w, ha, ⟨_, _, _, _, _, rfl, _⟩, k⟩ := h
    exact args_len ha
  · skip
    obtain ⟨B, M, L, as, r, L', rfl, w, ha, ⟨a0, a1, a2, a4, c, rfl, rfl, hm, rfl, rfl⟩, k⟩ := h
    obtain ⟨u0, u1, u2, u3, u4, rfl, f0, f1, f2, f3, f4⟩ := args5 ha
    replace f0 : ((rTup (rT2 rInt (rTup (rT2 rInt rInt))))).is K B u0 a0 := f0
    replace f1 : ((rLst (rT2 rInt rInt))).is K B u1 a1 := f1
    replace f2 : ((rLst rInt)).is K B u2 a2 := f2
    replace f3 : u3 = V.ref q_no_cost := f3
    subst f3
    replace f4 : (rBool).is K B u4 a4 := f4
    unfold m_best_choice at hm
    refine ⟨_, (pss_cons (ps_set (i := 5) sc_best_choice.nd rfl (by first | exact Or.inl rfl | exact Or.inr rfl) pe_non) (pss_cons (ps_for PassesOwn.never rfl (pi_list (pv 2)) (pg_name (i := 6) sc_best_choice.nd rfl (by first | exact Or.inl rfl | exact Or.inr rfl)) (pss_cons (ps_set (i := 7) sc_best_choice.nd rfl (by first | exact Or.inl rfl | exact Or.inr rfl) (pe_c c_plus hr (by omega) rfl (pa_cons (pe_cL cq_no_cost hr (by omega) (i := 3) rfl (by first | exact Or.inl rfl | exact Or.inr rfl) (pa_cons (pe_ix ix_seq (pv 0) (pv 6) (fun _ _ => rfl)) pa_nil)) (pa_cons (pe_c c_mean hr (by omega) rfl (pa_cons (pe_ix ix_seq (pe_ix ix_seq (pv 0) (pv 6) (fun _ _ => rfl)) pe_int (fun _ _ => rfl)) (pa_cons (pv 1) pa_nil))) pa_nil)))) (Evl.pss_cut (ps_if (PW.pt (pw_or (pt_cmp (pc_isN (pv 5))) (pw_or1 (pt_val (pe_c c_better hr (by omega) rfl (pa_cons (pv 7) (pa_cons (pe_ix ix_seq (pv 5) pe_int (fun _ _ => rfl)) (pa_cons (pv 4) pa_nil)))))))) (pss_cons (ps_set (i := 5) sc_best_choice.nd rfl (by first | exact Or.inl rfl | exact Or.inr rfl) (pe_tup (pa_cons (pv 6) (pa_cons (pv 7) pa_nil)))) pss_nil) pss_nil) pss_nil))) (pss_cons (ps_ret (pv 5)) pss_nil))), ?_⟩
    rw [show start ["choices", "values", "numbers", "base", "most", "found", "number", "value"] [u0, u1, u2, .ref q_no_cost, u4] = ([some u0, some u1, some u2, some (.ref q_no_cost), some u4, none, none, none] : L2.St) from rfl]
    refine q_asg (n := 5) w (ev_non (r := (rT2 rInt (rT2 rInt rInt)))) fun v2 B1 H1 x1 (w1 : Own K B1 M [] H1) h3 => ?_
    obtain ⟨s59, e8, hm⟩ := bindS hm
    refine q_fold w1 (ei_lst (ev_var rfl (((rLst rInt)).mono x1 f2))) _ (fun s4 B9 σ22 => ∃ v23 o25 o26, σ22 = [some u0, some u1, some u2, some (.ref q_no_cost), some u4, some v23, o25, o26] ∧ ((rOpt (rT2 rInt (rT2 rInt rInt)))).is K B9 v23 s4) (fun s4 => []) none e8 (fun B9 x9 => ⟨v2, _, _, rfl, (((rOpt (rT2 rInt (rT2 rInt rInt)))).mono x9 h3)⟩) rfl ?_ ?_
    · skip
      rintro s4 x5 s69 v15 B9 B10 H11 σ22 hb6 x12 ⟨v23, o25, o26, rfl, h24⟩ x13 w14 h16 N17 K18 hN19
      replace w14 : Own K B10 M [] H11 := w14
      refine g_name ?_
      obtain ⟨t27, e28, hb6⟩ := bindS hb6
      obtain ⟨t29, e30, hb6⟩ := bindS hb6
      obtain ⟨t31, e32, hb6⟩ := bindS hb6
      obtain ⟨t33, e34, hb6⟩ := bindS hb6
      obtain ⟨t35, e36, hb6⟩ := bindS hb6
      refine q_asg (n := 7) w14 (ev_call (ea_cons (ev_callL rfl (ev_call (ea_cons (ev_ix (ev_seqT (ev_var rfl (((rTup (rT2 rInt (rTup (rT2 rInt rInt))))).mono ((x1.trans x12).trans x13) f0))) (ev_varI rfl h16) e28) ea_nil) ⟨_, _, rfl, rfl, e30, rfl, rfl⟩)) (ea_cons (ev_call (ea_cons (ev_snd (ev_ix (ev_seqT (ev_var rfl (((rTup (rT2 rInt (rTup (rT2 rInt rInt))))).mono ((x1.trans x12).trans x13) f0))) (ev_varI rfl h16) e32)) (ea_cons (ev_var rfl (((rLst (rT2 rInt rInt))).mono ((x1.trans x12).trans x13) f1)) ea_nil)) ⟨_, _, _, rfl, rfl, e34, rfl, rfl⟩) ea_nil)) ⟨_, _, _, rfl, rfl, e36, rfl, rfl⟩) fun v38 B37 H37 x37 (w37 : Own K B37 M [] H37) h39 => ?_
      obtain ⟨t44, e45, hb6⟩ := bindS hb6
      obtain ⟨s48, e49, hb6⟩ := bindS hb6
      refine q_cut (fun σ58 H55 => ∃ v56 B55, Ex B37 B55 ∧ Own K B55 M [] H55 ∧ σ58 = [some u0, some u1, some u2, some (.ref q_no_cost), some u4, some v56, some v15, some v38] ∧ ((rOpt (rT2 rInt (rT2 rInt rInt)))).is K B55 v56 s48) ?_ ?_
      · skip
        refine q_ifc w37 (et_or' (d := t44) (et_B (ev_isN (ev_var rfl (((rOpt (rT2 rInt (rT2 rInt rInt)))).mono (x13.trans x37) h24)) (fun _ => nn_rT2))) (fun hb46 => by rw [if_neg (by rw [hb46]; exact Bool.false_ne_true)] at e45; obtain ⟨t40, e41, e45⟩ := bindS e45; obtain ⟨t42, e43, e45⟩ := bindS e45; obtain rfl := Option.some.inj e45; exact (et_B (ev_call (ea_cons (ev_var rfl h39) (ea_cons (ev_snd (ev_get (ev_var rfl (((rOpt (rT2 rInt (rT2 rInt rInt)))).mono (x13.trans x37) h24)) e41)) (ea_cons (ev_varB rfl f4) ea_nil))) ⟨_, _, _, _, rfl, rfl, e43, rfl, rfl⟩))) (fun hb46 => by rw [if_pos hb46] at e45; obtain rfl := Option.some.inj e45; exact ⟨rfl, rfl⟩)) (fun hb47 B50 H50 x50 (w50 : Own K B50 M [] H50) => ?_) (fun hb47 B54 H54 x54 (w54 : Own K B54 M [] H54) => ?_)
        · skip
          rw [if_pos hb47] at e49
          refine q_asg (n := 5) w50 (ev_sm (ev_T2 (ea_cons (ev_varI rfl h16) (ea_cons (ev_var rfl (((rT2 rInt rInt)).mono x50 h39)) ea_nil)))) fun v52 B51 H51 x51 (w51 : Own K B51 M [] H51) h53 => ?_
          replace e49 : some _ = some _ := e49
          cases e49
          exact ⟨v52, _, (x50.trans x51), w51, rfl, h53⟩
        rw [if_neg (by rw [hb47]; exact Bool.false_ne_true)] at e49
        replace e49 : some _ = some _ := e49
        cases e49
        exact ⟨v23, _, x54, w54, rfl, (((rOpt (rT2 rInt (rT2 rInt rInt)))).mono ((x13.trans x37).trans x54) h24)⟩
      rintro σ58' H55 ⟨v56, B55, x55, w55, rfl, h57⟩
      replace hb6 : some _ = some _ := hb6
      cases hb6
      exact hN19 _ _ _ (x37.trans x55) w55 ⟨v56, _, _, rfl, h57⟩
    rintro B60 H61 σ64 x62 w63 ⟨v65, o67, o68, rfl, h66⟩
    replace w63 : Own K B60 M [] H61 := w63
    replace hm : some _ = some _ := hm
    obtain rfl := Option.some.inj hm
    exact q_ret w63 (ev_var rfl h66) fun v9 B9 H9 x9 w9 h9 => k _ _ _ ((x1.trans x62).trans x9) w9 h9
noncomputable def m_bounded_chances (a0 : (List (List (Int × (List (Int × Int)))))) (a1 : (List Int)) (a2 : (List Int)) (a3 : Int) (a4 : Bool) : Option ((List (Int × Int)) × (List (List Int))) :=
  Option.bind (m_rest_of a0 a1 a2) fun t1 =>
  Option.bind (small62 ((a0.length : Int))) fun t6 =>
  Option.bind (room ((rng 0 ((a0.length : Int)))).length) fun t35 =>
  Option.bind (compM (S := Unit) (β := (Int × Int)) (fun (s8 : Unit) (x15 : Int) => (Option.bind ((if (decide (x15 ∈ a2)) = true then (some (((1 : Int), (1 : Int)))) else (some (((0 : Int), (1 : Int)))))) fun t32 => some (some t32, ()))) (()) ((rng 0 ((a0.length : Int))))) fun t37 =>
  Option.bind (small62 a3) fun t44 =>
  Option.bind (foldO (S := ((List (Int × Int)) × (List (List Int)))) (α := Int) (fun (s46 : ((List (Int × Int)) × (List (List Int)))) (x47 : Int) => (
    Option.bind (repL ([(0 : Int)]) ((a0.length : Int))) fun t75 =>
    Option.bind (foldO (S := ((List Int) × (List (Int × Int)))) (α := Int) (fun (s79 : ((List Int) × (List (Int × Int)))) (x80 : Int) => (
      Option.bind (ixL a0 x80) fun t100 =>
      Option.bind (rgO 0 ((t100.length : Int))) fun t102 =>
      Option.bind (ixL a0 x80) fun t107 =>
      Option.bind (m_best_choice t107 s46.1 t102 a4) fun t109 =>
      Option.bind (t109) fun t111 =>
      Option.bind (ixO s79.1.length x80) fun t120 =>
      Option.bind (ixO s79.2.length x80) fun t123 =>
      some (((s79.1.set t120 t111.1), (s79.2.set t123 t111.2)))
    )) ((t75, s46.1)) t1) fun s126 =>
    Option.bind (room s46.2.length) fun t137 =>
    some ((s126.2, (s46.2 ++ [s126.1])))
  )) ((t37.1, ([] : List (List Int)))) ((rng 0 a3))) fun s141 =>
  some (s141.1, s141.2)
def C_bounded_chances : List Arg → List Cell → Arg → List Cell → Prop := fun as L r L' => ∃ a0 a1 a2 a3 a4 c, as = [⟨(rTup (rTup (rT2 rInt (rTup (rT2 rInt rInt))))), a0⟩, ⟨(rLst rInt), a1⟩, ⟨(rLst rInt), a2⟩, ⟨rInt, a3⟩, ⟨rBool, a4⟩] ∧ L = [] ∧ m_bounded_chances a0 a1 a2 a3 a4 = some c ∧ r = ⟨(rT2 (rLst (rT2 rInt rInt)) (rLst (rTup rInt))), c⟩ ∧ L' = []
theorem sc_bounded_chances : FnScope ["system", "allowed", "targets", "steps", "most", "rest", "values", "policies", "_", "new", "policy", "state", "numbers"] ["system", "allowed", "targets", "steps", "most"] (defScope s_bounded_chances) := ⟨rfl, rfl, rfl, by decide +kernel, rfl, by decide +kernel, by decide +kernel⟩
set_option maxHeartbeats 4000000 in
theorem ok_bounded_chances (F : FunC K "bounded_chances" s_bounded_chances f fd cc) (c_rest_of : Cl P w K mg base 1 "rest_of" (spV K T C_rest_of) []) (c_best_choice : Cl P w K mg base 4 "best_choice" (spV K T (C_best_choice q_no_cost)) []) (g_ONE : GV K mg "ONE" (rT2 rInt rInt) (((1 : Int), (1 : Int)))) (g_ZERO : GV K mg "ZERO" (rT2 rInt rInt) (((0 : Int), (1 : Int)))) (g_no_cost : GV K mg "no_cost" rRef q_no_cost) (z_range : mg "range" = none) (z_len : mg "len" = none) (z_list : mg "list" = none) (z_tuple : mg "tuple" = none) : FnOk P w K mg base CX0 5 f fd ["system", "allowed", "targets", "steps", "most"] (spV K T C_bounded_chances) := by
  obtain ⟨u_ONE, v_ONE, m_ONE, rv_ONE, i_ONE⟩ := g_ONE
  obtain ⟨u_ZERO, v_ZERO, m_ZERO, rv_ZERO, i_ZERO⟩ := g_ZERO
  obtain ⟨u_no_cost, v_no_cost, m_no_cost, rv_no_cost, i_no_cost⟩ := g_no_cost
  refine F.ok sc_bounded_chances (fun vs H Q E h => ?_) (fun A outer s H vs Q E hr h => ?_)
  · obtain ⟨B, M, L, as, r, L', hT, w, ha, ⟨_, _, _, _, _, _, rfl, _⟩, k⟩ := h
    exact args_len ha
  · skip
    obtain ⟨B, M, L, as, r, L', rfl, w, ha, ⟨a0, a1, a2, a3, a4, c, rfl, rfl, hm, rfl, rfl⟩, k⟩ := h
    obtain ⟨u0, u1, u2, u3, u4, rfl, f0, f1, f2, f3, f4⟩ := args5 ha
    replace f0 : ((rTup (rTup (rT2 rInt (rTup (rT2 rInt rInt)))))).is K B u0 a0 := f0
    replace f1 : ((rLst rInt)).is K B u1 a1 := f1
    replace f2 : ((rLst rInt)).is K B u2 a2 := f2
    replace f3 : (rInt).is K B u3 a3 := f3
    replace f4 : (rBool).is K B u4 a4 := f4
    unfold m_bounded_chances at hm
    refine ⟨_, (pss_cons (ps_set (i := 5) sc_bounded_chances.nd rfl (by first | exact Or.inl rfl | exact Or.inr rfl) (pe_c c_rest_of hr (by omega) rfl (pa_cons (pv 0) (pa_cons (pv 1) (pa_cons (pv 2) pa_nil))))) (pss_cons (ps_setLc (i := 6) rfl sc_bounded_chances.nd rfl rfl rfl (pi_range1 rfl z_range (pa_cons (pe_callB call_len_seq rfl z_len bt_len (pa_cons (pv 0) pa_nil)) pa_nil)) (blkOk_by (own := [("state", 11)]) (show blkC ["system", "allowed", "targets", "steps", "most", "rest", "values", "policies", "_", "new", "policy", "state", "numbers"] (defScope s_bounded_chances) _ _ = true by decide +kernel)) (fun _ _ _ _ _ => (pg_name (i := 11) sc_bounded_chances.nd rfl (by first | exact Or.inl rfl | exact Or.inr rfl))) (fun _ _ _ _ _ => pts_nil) (fun _ _ _ _ _ => (pe_ifExp (pt_cmpR (show OpR _ _ (rIn K false) from op_in_seq) (pv 11) (pv 2) rfl) (pe_glob rfl m_ONE rv_ONE) (pe_glob rfl m_ZERO rv_ZERO)))) (pss_cons (ps_set (i := 7) sc_bounded_chances.nd rfl (by first | exact Or.inl rfl | exact Or.inr rfl) (pe_lst pa_nil)) (pss_cons (ps_for PassesOwn.never rfl (pi_range1 rfl z_range (pa_cons (pv 3) pa_nil)) (pg_name (i := 8) sc_bounded_chances.nd rfl (by first | exact Or.inl rfl | exact Or.inr rfl)) (pss_cons (ps_set (i := 9) sc_bounded_chances.nd rfl (by first | exact Or.inl rfl | exact Or.inr rfl) (pe_callTy call_list_of rfl z_list bt_list (pa_cons (pv 6) pa_nil))) (pss_cons (ps_set (i := 10) sc_bounded_chances.nd rfl (by first | exact Or.inl rfl | exact Or.inr rfl) (pe_op op_rep (pe_lst (pa_cons pe_int pa_nil)) (pe_callB call_len_seq rfl z_len bt_len (pa_cons (pv 0) pa_nil)))) (pss_cons (ps_for PassesOwn.never rfl (pi_list (pv 5)) (pg_name (i := 11) sc_bounded_chances.nd rfl (by first | exact Or.inl rfl | exact Or.inr rfl)) (pss_cons (ps_set (i := 12) sc_bounded_chances.nd rfl (by first | exact Or.inl rfl | exact Or.inr rfl) (pe_listRg rfl rfl z_list (prg_1 rfl z_range (pe_callB call_len_seq rfl z_len bt_len (pa_cons (pe_ix ix_seq (pv 0) (pv 11) (fun _ _ => rfl)) pa_nil))))) (pss_cons (ps_asg (pe_c c_best_choice hr (by omega) rfl (pa_cons (pe_ix ix_seq (pv 0) (pv 11) (fun _ _ => rfl)) (pa_cons (pv 6) (pa_cons (pv 12) (pa_cons (pe_glob rfl m_no_cost rv_no_cost) (pa_cons (pv 4) pa_nil)))))) (pg_tup rfl (pgs_cons (pg_sub (pv 10) (pv 11) set_list) (pgs_cons (pg_sub (pv 9) (pv 11) set_list) pgs_nil)))) pss_nil))) (pss_cons (ps_set (i := 6) sc_bounded_chances.nd rfl (by first | exact Or.inl rfl | exact Or.inr rfl) (pv 9)) (pss_cons (ps_expr (pe_bm PySem.F.plainAttrs_list PySem.F.slot_list_append PySem.F.type_list_append mt_append (pv 7) (pa_cons (pe_callTy call_tuple_of rfl z_tuple bt_tuple (pa_cons (pv 10) pa_nil)) pa_nil))) pss_nil)))))) (pss_cons (ps_ret (pe_tup (pa_cons (pv 6) (pa_cons (pv 7) pa_nil)))) pss_nil))))), ?_⟩
    rw [show start ["system", "allowed", "targets", "steps", "most", "rest", "values", "policies", "_", "new", "policy", "state", "numbers"] [u0, u1, u2, u3, u4] = ([some u0, some u1, some u2, some u3, some u4, none, none, none, none, none, none, none, none] : L2.St) from rfl]
    obtain ⟨t1, e2, hm⟩ := bindS hm
    refine q_asg (n := 5) w (ev_call (ea_cons (ev_var rfl f0) (ea_cons (ev_var rfl f1) (ea_cons (ev_var rfl f2) ea_nil))) ⟨_, _, _, _, rfl, rfl, e2, rfl, rfl⟩) fun v4 B3 H3 x3 (w3 : Own K B3 M [] H3) h5 => ?_
    obtain ⟨t6, e7, hm⟩ := bindS hm
    obtain ⟨t35, e36, hm⟩ := bindS hm
    obtain ⟨t37, e38, hm⟩ := bindS hm
    refine q_asg (n := 6) w3 (ev_frz (el_lc (S := Unit) (ys := t37.1) (s1 := t37.2) (s0 := ()) (σ' := [some u0, some u1, some u2, some u3, some u4, some v4, none, none, none, none, none, none, none]) (rT2 rInt rInt) (ei_rng1 (ea_cons (ev_len (ev_seqT (ev_var rfl (((rTup (rTup (rT2 rInt (rTup (rT2 rInt rInt)))))).mono x3 f0)))) ea_nil) e7) _ (fun (s8 : Unit) => []) rfl e38 e36 rfl (by rintro s8 x15 o20 s21 v13 D18 a19 B9 H10 hb17 x11 w12 h14 PY22 PN23 qY24 qN25; replace w12 : Own K B9 M [⟨D18, (cLst (rT2 rInt rInt)), a19⟩] H10 := w12; refine g_name ?_; refine ⟨rfl, ?_⟩; obtain ⟨t32, e33, hb17⟩ := bindS hb17; obtain ⟨rfl, rfl⟩ := Prod.mk.inj (Option.some.inj hb17); refine lc_yes ?_; exact (ev_if (r := (rT2 rInt rInt)) (a := t32) (L2 := [⟨D18, (cLst (rT2 rInt rInt)), a19⟩]) (et_test (ev_inI (ev_varI rfl h14) (ev_seqL (ev_var rfl (((rLst rInt)).mono (x3.trans x11) f2))))) (fun hb34 => by rw [if_pos hb34] at e33; obtain rfl := Option.some.inj e33; exact (ev_k i_ONE)) (fun hb34 => by rw [if_neg (by rw [hb34]; exact Bool.false_ne_true)] at e33; obtain rfl := Option.some.inj e33; exact (ev_k i_ZERO))) B9 H10 (Ex.refl _) w12 _ fun v26 B27 H28 x29 w30 h31 => qY24 v26 B27 H28 _ rfl x29 w30 h31))) fun v40 B39 H39 x39 (w39 : Own K B39 M [] H39) h41 => ?_
    refine q_asgL (n := 7) w39 (el_lst (r := (rTup rInt)) ([] : List (List Int)) ea_nil) fun p43 B42 H42 x42 (w42 : Own K B42 M [⟨p43, (cLst (rTup rInt)), ([] : List (List Int))⟩] H42) => ?_
    obtain ⟨t44, e45, hm⟩ := bindS hm
    obtain ⟨s141, e50, hm⟩ := bindS hm
    refine q_fold w42 (ei_rng1 (ea_cons (ev_varI rfl f3) ea_nil) e45) _ (fun s46 B51 σ64 => ∃ v65 o67 o68 o69 o70 o71, σ64 = [some u0, some u1, some u2, some u3, some u4, some v4, some v65, some (.ref p43), o67, o68, o69, o70, o71] ∧ ((rLst (rT2 rInt rInt))).is K B51 v65 s46.1) (fun s46 => [⟨p43, (cLst (rTup rInt)), s46.2⟩]) ((t37.1, ([] : List (List Int)))) e50 (fun B9 x9 => ⟨v40, _, _, _, _, _, rfl, (((rLst (rT2 rInt rInt))).mono x9 (((rLst (rT2 rInt rInt))).mono x42 h41))⟩) rfl ?_ ?_
    · skip
      rintro s46 x47 s154 v57 B51 B52 H53 σ64 hb48 x54 ⟨v65, o67, o68, o69, o70, o71, rfl, h66⟩ x55 w56 h58 N59 K60 hN61
      replace w56 : Own K B52 M [⟨p43, (cLst (rTup rInt)), s46.2⟩] H53 := w56
      refine g_name ?_
      refine q_asgL (n := 9) w56 (el_listOf (ev_seqL (ev_var rfl (((rLst (rT2 rInt rInt))).mono x55 h66)))) fun p73 B72 H72 x72 (w72 : Own K B72 M [⟨p73, (cLst (rT2 rInt rInt)), s46.1⟩, ⟨p43, (cLst (rTup rInt)), s46.2⟩] H72) => ?_
      obtain ⟨t75, e76, hb48⟩ := bindS hb48
      refine q_asgL (n := 10) w72 (el_rep (el_lst (r := rInt) [(0 : Int)] (ea_cons (ev_int (i := 0)) ea_nil)) (fun p74 => (ev_len (ev_seqT (ev_var rfl (((rTup (rTup (rT2 rInt (rTup (rT2 rInt rInt)))))).mono (((((x3.trans x39).trans x42).trans x54).trans x55).trans x72) f0))))) e76) fun p78 B77 H77 x77 (w77 : Own K B77 M [⟨p78, (cLst rInt), t75⟩, ⟨p73, (cLst (rT2 rInt rInt)), s46.1⟩, ⟨p43, (cLst (rTup rInt)), s46.2⟩] H77) => ?_
      obtain ⟨s126, e83, hb48⟩ := bindS hb48
      refine q_fold w77 (ei_lst (ev_var rfl (((rLst rInt)).mono (((((x39.trans x42).trans x54).trans x55).trans x72).trans x77) h5))) _ (fun s79 B84 σ97 => ∃ o98 o99, σ97 = [some u0, some u1, some u2, some u3, some u4, some v4, some v65, some (.ref p43), some v57, some (.ref p73), some (.ref p78), o98, o99]) (fun s79 => [⟨p78, (cLst rInt), s79.1⟩, ⟨p73, (cLst (rT2 rInt rInt)), s79.2⟩, ⟨p43, (cLst (rTup rInt)), s46.2⟩]) ((t75, s46.1)) e83 (fun B9 x9 => ⟨_, _, rfl⟩) rfl ?_ ?_
      · skip
        rintro s79 x80 s140 v90 B84 B85 H86 σ97 hb81 x87 ⟨o98, o99, rfl⟩ x88 w89 h91 N92 K93 hN94
        replace w89 : Own K B85 M [⟨p78, (cLst rInt), s79.1⟩, ⟨p73, (cLst (rT2 rInt rInt)), s79.2⟩, ⟨p43, (cLst (rTup rInt)), s46.2⟩] H86 := w89
        refine g_name ?_
        obtain ⟨t100, e101, hb81⟩ := bindS hb81
        obtain ⟨t102, e103, hb81⟩ := bindS hb81
        refine q_asg (n := 12) w89 (ev_frz (el_listRg1 (ev_len (ev_seqT (ev_ix (ev_seqT (ev_var rfl (((rTup (rTup (rT2 rInt (rTup (rT2 rInt rInt)))))).mono ((((((((x3.trans x39).trans x42).trans x54).trans x55).trans x72).trans x77).trans x87).trans x88) f0))) (ev_varI rfl h91) e101))) e103)) fun v105 B104 H104 x104 (w104 : Own K B104 M [⟨p78, (cLst rInt), s79.1⟩, ⟨p73, (cLst (rT2 rInt rInt)), s79.2⟩, ⟨p43, (cLst (rTup rInt)), s46.2⟩] H104) h106 => ?_
        obtain ⟨t107, e108, hb81⟩ := bindS hb81
        obtain ⟨t109, e110, hb81⟩ := bindS hb81
        obtain ⟨t111, e112, hb81⟩ := bindS hb81
        refine q_unp w104 (ev_get (ev_call (ea_cons (ev_ix (ev_seqT (ev_var rfl (((rTup (rTup (rT2 rInt (rTup (rT2 rInt rInt)))))).mono (((((((((x3.trans x39).trans x42).trans x54).trans x55).trans x72).trans x77).trans x87).trans x88).trans x104) f0))) (ev_varI rfl h91) e108) (ea_cons (ev_var rfl (((rLst (rT2 rInt rInt))).mono (((((x55.trans x72).trans x77).trans x87).trans x88).trans x104) h66)) (ea_cons (ev_var rfl h106) (ea_cons (ev_k i_no_cost) (ea_cons (ev_varB rfl f4) ea_nil))))) ⟨_, _, _, _, _, rfl, rfl, e110, rfl, rfl⟩) e112) fun v114 B113 H113 x113 (w113 : Own K B113 M [⟨p78, (cLst rInt), s79.1⟩, ⟨p73, (cLst (rT2 rInt rInt)), s79.2⟩, ⟨p43, (cLst (rTup rInt)), s46.2⟩] H113) h115 => ?_
        refine g_T2 h115 w113 fun v116 v117 h118 h119 => ?_
        refine g_cons ?_
        obtain ⟨t120, e121, hb81⟩ := bindS hb81
        refine g_setC (n := 0) (r := rInt) w113 h118 rfl (ev_varI rfl h91) rfl e121 fun B122 H122 x122 (w122 : Own K B122 M [⟨p78, (cLst rInt), (s79.1.set t120 t111.1)⟩, ⟨p73, (cLst (rT2 rInt rInt)), s79.2⟩, ⟨p43, (cLst (rTup rInt)), s46.2⟩] H122) => ?_
        refine g_cons ?_
        obtain ⟨t123, e124, hb81⟩ := bindS hb81
        refine g_setC (n := 1) (r := (rT2 rInt rInt)) w122 (((rT2 rInt rInt)).mono x122 h119) rfl (ev_varI rfl h91) rfl e124 fun B125 H125 x125 (w125 : Own K B125 M [⟨p78, (cLst rInt), (s79.1.set t120 t111.1)⟩, ⟨p73, (cLst (rT2 rInt rInt)), (s79.2.set t123 t111.2)⟩, ⟨p43, (cLst (rTup rInt)), s46.2⟩] H125) => ?_
        refine g_nil ?_
        replace hb81 : some _ = some _ := hb81
        cases hb81
        exact hN94 _ _ _ (((x104.trans x113).trans x122).trans x125) w125 ⟨_, _, rfl⟩
      rintro B127 H128 σ131 x129 w130 ⟨o132, o133, rfl⟩
      replace w130 : Own K B127 M [⟨p78, (cLst rInt), s126.1⟩, ⟨p73, (cLst (rT2 rInt rInt)), s126.2⟩, ⟨p43, (cLst (rTup rInt)), s46.2⟩] H128 := w130
      refine q_asg (n := 6) w130 (ev_frzC (n := 1) (ev_varR rfl) rfl) fun v135 B134 H134 x134 (w134 : Own K B134 M [⟨p78, (cLst rInt), s126.1⟩, ⟨p43, (cLst (rTup rInt)), s46.2⟩] H134) h136 => ?_
      obtain ⟨t137, e138, hb48⟩ := bindS hb48
      refine q_app (n := 1) (m := 7) w134 rfl (ev_tupOfC (n := 0) (ev_varR rfl) rfl) rfl ⟨1, _, rfl⟩ e138 fun B139 H139 x139 (w139 : Own K B139 M [⟨p78, (cLst rInt), s126.1⟩, ⟨p43, (cLst (rTup rInt)), (s46.2 ++ [s126.1])⟩] H139) => ?_
      replace hb48 : some _ = some _ := hb48
      cases hb48
      exact hN61 _ _ _ ((((x72.trans x77).trans x129).trans x134).trans x139) w139.tail ⟨v135, _, _, _, _, _, rfl, (((rLst (rT2 rInt rInt))).mono x139 h136)⟩
    rintro B142 H143 σ146 x144 w145 ⟨v147, o149, o150, o151, o152, o153, rfl, h148⟩
    replace w145 : Own K B142 M [⟨p43, (cLst (rTup rInt)), s141.2⟩] H143 := w145
    replace hm : some _ = some _ := hm
    obtain rfl := Option.some.inj hm
    exact q_ret w145 (ev_T2 (ea_cons (ev_var rfl h148) (ea_cons (ev_frzC (n := 0) (ev_varR rfl) rfl) ea_nil))) fun v9 B9 H9 x9 w9 h9 => k _ _ _ ((((x3.trans x39).trans x42).trans x144).trans x9) w9 h9
noncomputable def m_l_tape (a0 : (List Int)) : Option (List Int) :=
  Option.bind (foldO (S := (List Int)) (α := Int) (fun (s3 : (List Int)) (x4 : Int) => (
    Option.bind (mulI ((2 : Int)) x4) fun t26 =>
    Option.bind (if (decide (t26 < (0 : Int))) = true then
      some (((-(1 : Int)) - t26))
    else
      some t26
    ) fun (s32 : Int) =>
    Option.bind (powI ((10 : Int)) ((18 : Int))) fun t43 =>
    Option.bind (if (decide (s32 ≥ t43)) = true then
      Option.bind (foldO (S := (Int × (List Int))) (α := Int) (fun (s49 : (Int × (List Int))) (x50 : Int) => (
        Option.bind (if (decide (s49.1 > (0 : Int))) = true then
          Option.bind (modI s49.1 ((1000 : Int))) fun t75 =>
          Option.bind (room s49.2.length) fun t77 =>
          Option.bind (divI s49.1 ((1000 : Int))) fun t80 =>
          some ((t80, (s49.2 ++ [t75])))
        else
          some ((s49.1, s49.2))
        ) fun (s72 : (Int × (List Int))) =>
        some ((s72.1, s72.2))
      )) ((s32, s3)) ((rng 0 ((40 : Int))))) fun s90 =>
      some ((s90.1, s90.2))
    else
      Option.bind (foldO (S := (List Int)) (α := Int) (fun (s101 : (List Int)) (x102 : Int) => (
        Option.bind (mulI s32 ((48271 : Int))) fun t122 =>
        Option.bind (mulI x102 ((40503 : Int))) fun t124 =>
        Option.bind (modI (((t122 + t124) + (11 : Int))) ((2147483629 : Int))) fun t126 =>
        Option.bind (mulI t126 ((69621 : Int))) fun t131 =>
        Option.bind (divI t126 ((65536 : Int))) fun t133 =>
        Option.bind (modI ((t131 + t133)) ((2147483629 : Int))) fun t135 =>
        Option.bind (room s101.length) fun t137 =>
        some ((s101 ++ [t135]))
      )) s3 ((rng 0 ((3 : Int))))) fun s140 =>
      some ((s32, s140))
    ) fun (s46 : (Int × (List Int))) =>
    some s46.2
  )) (([] : List Int)) a0) fun s155 =>
  some s155
def C__law_tape : List Arg → List Cell → Arg → List Cell → Prop := fun as L r L' => ∃ a0 c, as = [⟨(rLst rInt), a0⟩] ∧ L = [] ∧ m_l_tape a0 = some c ∧ r = ⟨(rLst rInt), c⟩ ∧ L' = []
theorem sc__law_tape : FnScope ["_law_script", "_law_tape_here", "_law_cell", "_law_number", "_law_k", "_law_first"] ["_law_script"] (defScope s__law_tape) := ⟨rfl, rfl, rfl, by decide +kernel, rfl, by decide +kernel, by decide +kernel⟩
set_option maxHeartbeats 4000000 in
theorem ok__law_tape (F : FunC K "_law_tape" s__law_tape f fd cc) (z_int : mg "int" = none) (z_range : mg "range" = none) : FnOk P w K mg base CX0 1 f fd ["_law_script"] (spV K T C__law_tape) := by
  refine F.ok sc__law_tape (fun vs H Q E h => ?_) (fun A outer s H vs Q E hr h => ?_)
  · obtain ⟨B, M, L, as, r, L', hT, w, ha, ⟨_, _, rfl, _⟩, k⟩ := h
    exact args_len ha
  · skip
    obtain ⟨B, M, L, as, r, L', rfl, w, ha, ⟨a0, c, rfl, rfl, hm, rfl, rfl⟩, k⟩ := h
    obtain ⟨u0, rfl, f0⟩ := args1 ha
    replace f0 : ((rLst rInt)).is K B u0 a0 := f0
    unfold m_l_tape at hm
    refine ⟨_, (pss_cons (ps_set (i := 1) sc__law_tape.nd rfl (by first | exact Or.inl rfl | exact Or.inr rfl) (pe_lst pa_nil)) (pss_cons (ps_for PassesOwn.never rfl (pi_list (pv 0)) (pg_name (i := 2) sc__law_tape.nd rfl (by first | exact Or.inl rfl | exact Or.inr rfl)) (pss_cons (ps_set (i := 3) sc__law_tape.nd rfl (by first | exact Or.inl rfl | exact Or.inr rfl) (pe_op op_mulX pe_int (pe_callTy call_int1 rfl z_int bt_int (pa_cons (pv 2) pa_nil)))) (Evl.pss_cut (ps_if (pt_cmpR op_lt (pv 3) pe_int (nomark _)) (pss_cons (ps_set (i := 3) sc__law_tape.nd rfl (by first | exact Or.inl rfl | exact Or.inr rfl) (pe_op op_sub (pe_un un_neg pe_int) (pv 3))) pss_nil) pss_nil) (Evl.pss_cut (ps_if (pt_cmpR op_ge (pv 3) (pe_op op_pow pe_int pe_int) (nomark _)) (pss_cons (ps_for PassesOwn.never rfl (pi_range1 rfl z_range (pa_cons pe_int pa_nil)) (pg_name (i := 4) sc__law_tape.nd rfl (by first | exact Or.inl rfl | exact Or.inr rfl)) (Evl.pss_cut (ps_if (pt_cmpR op_gt (pv 3) pe_int (nomark _)) (pss_cons (ps_expr (pe_bm PySem.F.plainAttrs_list PySem.F.slot_list_append PySem.F.type_list_append mt_append (pv 1) (pa_cons (pe_op op_mod (pe_callTy call_int1 rfl z_int bt_int (pa_cons (pv 3) pa_nil)) pe_int) pa_nil))) (pss_cons (ps_set (i := 3) sc__law_tape.nd rfl (by first | exact Or.inl rfl | exact Or.inr rfl) (pe_op op_fdivW (pv 3) pe_int)) pss_nil)) pss_nil) pss_nil)) pss_nil) (pss_cons (ps_for PassesOwn.never rfl (pi_range1 rfl z_range (pa_cons pe_int pa_nil)) (pg_name (i := 4) sc__law_tape.nd rfl (by first | exact Or.inl rfl | exact Or.inr rfl)) (pss_cons (ps_set (i := 5) sc__law_tape.nd rfl (by first | exact Or.inl rfl | exact Or.inr rfl) (pe_op op_mod (pe_callTy call_int1 rfl z_int bt_int (pa_cons (pe_op op_add (pe_op op_add (pe_op op_mulX (pv 3) pe_int) (pe_op op_mulX (pv 4) pe_int)) pe_int) pa_nil)) pe_int)) (pss_cons (ps_expr (pe_bm PySem.F.plainAttrs_list PySem.F.slot_list_append PySem.F.type_list_append mt_append (pv 1) (pa_cons (pe_op op_mod (pe_callTy call_int1 rfl z_int bt_int (pa_cons (pe_op op_add (pe_op op_mulX (pv 5) pe_int) (pe_op op_fdivW (pv 5) pe_int)) pa_nil)) pe_int) pa_nil))) pss_nil))) pss_nil)) pss_nil)))) (pss_cons (ps_ret (pv 1)) pss_nil))), ?_⟩
    rw [show start ["_law_script", "_law_tape_here", "_law_cell", "_law_number", "_law_k", "_law_first"] [u0] = ([some u0, none, none, none, none, none] : L2.St) from rfl]
    refine q_asgL (n := 1) w (el_lst (r := rInt) ([] : List Int) ea_nil) fun p2 B1 H1 x1 (w1 : Own K B1 M [⟨p2, (cLst rInt), ([] : List Int)⟩] H1) => ?_
    obtain ⟨s155, e7, hm⟩ := bindS hm
    refine q_fold w1 (ei_lst (ev_var rfl (((rLst rInt)).mono x1 f0))) _ (fun s3 B8 σ21 => ∃ o22 o23 o24 o25, σ21 = [some u0, some (.ref p2), o22, o23, o24, o25]) (fun s3 => [⟨p2, (cLst rInt), s3⟩]) (([] : List Int)) e7 (fun B9 x9 => ⟨_, _, _, _, rfl⟩) rfl ?_ ?_
    · skip
      rintro s3 x4 s165 v14 B8 B9 H10 σ21 hb5 x11 ⟨o22, o23, o24, o25, rfl⟩ x12 w13 h15 N16 K17 hN18
      replace w13 : Own K B9 M [⟨p2, (cLst rInt), s3⟩] H10 := w13
      refine g_name ?_
      obtain ⟨t26, e27, hb5⟩ := bindS hb5
      refine q_asg (n := 3) w13 (ev_mul (ev_int (i := 2)) (ev_intI (ev_varI rfl h15)) e27) fun v29 B28 H28 x28 (w28 : Own K B28 M [⟨p2, (cLst rInt), s3⟩] H28) h30 => ?_
      obtain ⟨s32, e33, hb5⟩ := bindS hb5
      refine q_cut (fun σ42 H39 => ∃ v40 B39, Ex B28 B39 ∧ Own K B39 M [⟨p2, (cLst rInt), s3⟩] H39 ∧ σ42 = [some u0, some (.ref p2), some v14, some v40, o24, o25] ∧ (rInt).is K B39 v40 s32) ?_ ?_
      · skip
        refine q_ifc w28 (et_test (ev_lt (ev_varI rfl h30) (ev_int (i := 0)))) (fun hb31 B34 H34 x34 (w34 : Own K B34 M [⟨p2, (cLst rInt), s3⟩] H34) => ?_) (fun hb31 B38 H38 x38 (w38 : Own K B38 M [⟨p2, (cLst rInt), s3⟩] H38) => ?_)
        · skip
          rw [if_pos hb31] at e33
          refine q_asg (n := 3) w34 (ev_sub (ev_neg (ev_int (i := 1))) (ev_varI rfl h30)) fun v36 B35 H35 x35 (w35 : Own K B35 M [⟨p2, (cLst rInt), s3⟩] H35) h37 => ?_
          replace e33 : some _ = some _ := e33
          cases e33
          exact ⟨v36, _, (x34.trans x35), w35, rfl, h37⟩
        rw [if_neg (by rw [hb31]; exact Bool.false_ne_true)] at e33
        replace e33 : some _ = some _ := e33
        cases e33
        exact ⟨v29, _, x38, w38, rfl, ((rInt).mono x38 h30)⟩
      rintro σ42' H39 ⟨v40, B39, x39, w39, rfl, h41⟩
      obtain ⟨t43, e44, hb5⟩ := bindS hb5
      obtain ⟨s46, e47, hb5⟩ := bindS hb5
      refine q_cut (fun σ154 H149 => ∃ v150 o152 o153 B149, Ex B39 B149 ∧ Own K B149 M [⟨p2, (cLst rInt), s46.2⟩] H149 ∧ σ154 = [some u0, some (.ref p2), some v14, some v150, o152, o153] ∧ (rInt).is K B149 v150 s46.1) ?_ ?_
      · skip
        refine q_ifc w39 (et_test (ev_ge (ev_varI rfl h41) (ev_pow (ev_int (i := 10)) (ev_int (i := 18)) e44))) (fun hb45 B48 H48 x48 (w48 : Own K B48 M [⟨p2, (cLst rInt), s3⟩] H48) => ?_) (fun hb45 B100 H100 x100 (w100 : Own K B100 M [⟨p2, (cLst rInt), s3⟩] H100) => ?_)
        · skip
          rw [if_pos hb45] at e47
          obtain ⟨s90, e53, e47⟩ := bindS e47
          refine q_fold w48 (ei_rng1 (ea_cons (ev_int (i := 40)) ea_nil) (by decide)) _ (fun s49 B54 σ67 => ∃ v68 o70, σ67 = [some u0, some (.ref p2), some v14, some v68, o70, o25] ∧ (rInt).is K B54 v68 s49.1) (fun s49 => [⟨p2, (cLst rInt), s49.2⟩]) ((s32, s3)) e53 (fun B9 x9 => ⟨v40, _, rfl, ((rInt).mono x9 ((rInt).mono x48 h41))⟩) rfl ?_ ?_
          · skip
            rintro s49 x50 s99 v60 B54 B55 H56 σ67 hb51 x57 ⟨v68, o70, rfl, h69⟩ x58 w59 h61 N62 K63 hN64
            replace w59 : Own K B55 M [⟨p2, (cLst rInt), s49.2⟩] H56 := w59
            refine g_name ?_
            obtain ⟨s72, e73, hb51⟩ := bindS hb51
            refine q_cut (fun σ89 H86 => ∃ v87 B86, Ex B55 B86 ∧ Own K B86 M [⟨p2, (cLst rInt), s72.2⟩] H86 ∧ σ89 = [some u0, some (.ref p2), some v14, some v87, some v60, o25] ∧ (rInt).is K B86 v87 s72.1) ?_ ?_
            · skip
              refine q_ifc w59 (et_test (ev_gt (ev_varI rfl h69) (ev_int (i := 0)))) (fun hb71 B74 H74 x74 (w74 : Own K B74 M [⟨p2, (cLst rInt), s49.2⟩] H74) => ?_) (fun hb71 B85 H85 x85 (w85 : Own K B85 M [⟨p2, (cLst rInt), s49.2⟩] H85) => ?_)
              · skip
                rw [if_pos hb71] at e73
                obtain ⟨t75, e76, e73⟩ := bindS e73
                obtain ⟨t77, e78, e73⟩ := bindS e73
                refine q_app (n := 0) (m := 1) w74 rfl (ev_mod (ev_intI (ev_varI rfl h69)) (ev_int (i := 1000)) e76) rfl ⟨0, _, rfl⟩ e78 fun B79 H79 x79 (w79 : Own K B79 M [⟨p2, (cLst rInt), (s49.2 ++ [t75])⟩] H79) => ?_
                obtain ⟨t80, e81, e73⟩ := bindS e73
                refine q_asg (n := 3) w79 (ev_div (ev_varI rfl h69) (ev_int (i := 1000)) e81) fun v83 B82 H82 x82 (w82 : Own K B82 M [⟨p2, (cLst rInt), (s49.2 ++ [t75])⟩] H82) h84 => ?_
                replace e73 : some _ = some _ := e73
                cases e73
                exact ⟨v83, _, ((x74.trans x79).trans x82), w82, rfl, h84⟩
              rw [if_neg (by rw [hb71]; exact Bool.false_ne_true)] at e73
              replace e73 : some _ = some _ := e73
              cases e73
              exact ⟨v68, _, x85, w85, rfl, ((rInt).mono (x58.trans x85) h69)⟩
            rintro σ89' H86 ⟨v87, B86, x86, w86, rfl, h88⟩
            replace hb51 : some _ = some _ := hb51
            cases hb51
            exact hN64 _ _ _ x86 w86 ⟨v87, _, rfl, h88⟩
          rintro B91 H92 σ95 x93 w94 ⟨v96, o98, rfl, h97⟩
          replace w94 : Own K B91 M [⟨p2, (cLst rInt), s90.2⟩] H92 := w94
          replace e47 : some _ = some _ := e47
          cases e47
          exact ⟨v96, _, _, _, (x48.trans x93), w94, rfl, h97⟩
        rw [if_neg (by rw [hb45]; exact Bool.false_ne_true)] at e47
        obtain ⟨s140, e105, e47⟩ := bindS e47
        refine q_fold w100 (ei_rng1 (ea_cons (ev_int (i := 3)) ea_nil) (by decide)) _ (fun s101 B106 σ119 => ∃ o120 o121, σ119 = [some u0, some (.ref p2), some v14, some v40, o120, o121]) (fun s101 => [⟨p2, (cLst rInt), s101⟩]) s3 e105 (fun B9 x9 => ⟨_, _, rfl⟩) rfl ?_ ?_
        · skip
          rintro s101 x102 s148 v112 B106 B107 H108 σ119 hb103 x109 ⟨o120, o121, rfl⟩ x110 w111 h113 N114 K115 hN116
          replace w111 : Own K B107 M [⟨p2, (cLst rInt), s101⟩] H108 := w111
          refine g_name ?_
          obtain ⟨t122, e123, hb103⟩ := bindS hb103
          obtain ⟨t124, e125, hb103⟩ := bindS hb103
          obtain ⟨t126, e127, hb103⟩ := bindS hb103
          refine q_asg (n := 5) w111 (ev_mod (ev_intI (ev_add (ev_add (ev_mul (ev_varI rfl h41) (ev_int (i := 48271)) e123) (ev_mul (ev_varI rfl h113) (ev_int (i := 40503)) e125)) (ev_int (i := 11)))) (ev_int (i := 2147483629)) e127) fun v129 B128 H128 x128 (w128 : Own K B128 M [⟨p2, (cLst rInt), s101⟩] H128) h130 => ?_
          obtain ⟨t131, e132, hb103⟩ := bindS hb103
          obtain ⟨t133, e134, hb103⟩ := bindS hb103
          obtain ⟨t135, e136, hb103⟩ := bindS hb103
          obtain ⟨t137, e138, hb103⟩ := bindS hb103
          refine q_app (n := 0) (m := 1) w128 rfl (ev_mod (ev_intI (ev_add (ev_mul (ev_varI rfl h130) (ev_int (i := 69621)) e132) (ev_div (ev_varI rfl h130) (ev_int (i := 65536)) e134))) (ev_int (i := 2147483629)) e136) rfl ⟨0, _, rfl⟩ e138 fun B139 H139 x139 (w139 : Own K B139 M [⟨p2, (cLst rInt), (s101 ++ [t135])⟩] H139) => ?_
          replace hb103 : some _ = some _ := hb103
          cases hb103
          exact hN116 _ _ _ (x128.trans x139) w139 ⟨_, _, rfl⟩
        rintro B141 H142 σ145 x143 w144 ⟨o146, o147, rfl⟩
        replace w144 : Own K B141 M [⟨p2, (cLst rInt), s140⟩] H142 := w144
        replace e47 : some _ = some _ := e47
        cases e47
        exact ⟨v40, _, _, _, (x100.trans x143), w144, rfl, ((rInt).mono (x100.trans x143) h41)⟩
      rintro σ154' H149 ⟨v150, o152, o153, B149, x149, w149, rfl, h151⟩
      replace hb5 : some _ = some _ := hb5
      cases hb5
      exact hN18 _ _ _ ((x28.trans x39).trans x149) w149 ⟨_, _, _, _, rfl⟩
    rintro B156 H157 σ160 x158 w159 ⟨o161, o162, o163, o164, rfl⟩
    replace w159 : Own K B156 M [⟨p2, (cLst rInt), s155⟩] H157 := w159
    replace hm : some _ = some _ := hm
    obtain rfl := Option.some.inj hm
    exact q_retC (n := 0) (m := 1) w159 rfl rfl fun v9 B9 x9 w9 h9 => k _ _ _ ((x1.trans x158).trans x9) w9 h9
noncomputable def m_l_draw (a0 : (List Int)) (a1 : Int) (a2 : Int) : Option Int :=
  if (decide (a1 < (a0.length : Int))) = true then
    Option.bind (ixL a0 a1) fun t3 =>
    Option.bind (modI t3 a2) fun t5 =>
    some t5
  else
    Option.bind (if (decide ((a0.length : Int) > (0 : Int))) = true then
      Option.bind (modI a1 ((a0.length : Int))) fun t15 =>
      Option.bind (ixL a0 t15) fun t17 =>
      some t17
    else
      some ((1 : Int))
    ) fun (s12 : Int) =>
    Option.bind (mulI ((s12 + a1)) ((a1 + (3 : Int)))) fun t27 =>
    Option.bind (mulI t27 ((7919 : Int))) fun t29 =>
    Option.bind (mulI a1 ((104729 : Int))) fun t31 =>
    Option.bind (modI ((t29 + t31)) ((65521 : Int))) fun t33 =>
    Option.bind (modI t33 a2) fun t35 =>
    some t35
def C__law_draw : List Arg → List Cell → Arg → List Cell → Prop := fun as L r L' => ∃ a0 a1 a2 c, as = [⟨(rLst rInt), a0⟩, ⟨rInt, a1⟩, ⟨rInt, a2⟩] ∧ L = [] ∧ m_l_draw a0 a1 a2 = some c ∧ r = ⟨rInt, c⟩ ∧ L' = []
theorem sc__law_draw : FnScope ["_law_tape_here", "_law_at", "_law_many", "_law_number"] ["_law_tape_here", "_law_at", "_law_many"] (defScope s__law_draw) := ⟨rfl, rfl, rfl, by decide +kernel, rfl, by decide +kernel, by decide +kernel⟩
set_option maxHeartbeats 4000000 in
theorem ok__law_draw (F : FunC K "_law_draw" s__law_draw f fd cc) (z_len : mg "len" = none) (z_int : mg "int" = none) : FnOk P w K mg base CX0 1 f fd ["_law_tape_here", "_law_at", "_law_many"] (spV K T C__law_draw) := by
  refine F.ok sc__law_draw (fun vs H Q E h => ?_) (fun A outer s H vs Q E hr h => ?_)
  · obtain ⟨B, M, L, as, r, L', hT, w, ha, ⟨_, _, _, _, rfl, _⟩, k⟩ := h
    exact args_len ha
  · skip
    obtain ⟨B, M, L, as, r, L', rfl, w, ha, ⟨a0, a1, a2, c, rfl, rfl, hm, rfl, rfl⟩, k⟩ := h
    obtain ⟨u0, u1, u2, rfl, f0, f1, f2⟩ := args3 ha
    replace f0 : ((rLst rInt)).is K B u0 a0 := f0
    replace f1 : (rInt).is K B u1 a1 := f1
    replace f2 : (rInt).is K B u2 a2 := f2
    unfold m_l_draw at hm
    refine ⟨_, (pss_cons (ps_if (pt_cmpR op_lt (pv 1) (pe_callB call_len_seq rfl z_len bt_len (pa_cons (pv 0) pa_nil)) (nomark _)) (pss_cons (ps_ret (pe_op op_mod (pe_callTy call_int1 rfl z_int bt_int (pa_cons (pe_ix ix_seq (pv 0) (pv 1) (fun _ _ => rfl)) pa_nil)) (pv 2))) pss_nil) pss_nil) (pss_cons (ps_set (i := 3) sc__law_draw.nd rfl (by first | exact Or.inl rfl | exact Or.inr rfl) pe_int) (Evl.pss_cut (ps_if (pt_cmpR op_gt (pe_callB call_len_seq rfl z_len bt_len (pa_cons (pv 0) pa_nil)) pe_int (nomark _)) (pss_cons (ps_set (i := 3) sc__law_draw.nd rfl (by first | exact Or.inl rfl | exact Or.inr rfl) (pe_ix ix_seq (pv 0) (pe_op op_mod (pe_callTy call_int1 rfl z_int bt_int (pa_cons (pv 1) pa_nil)) (pe_callB call_len_seq rfl z_len bt_len (pa_cons (pv 0) pa_nil))) (fun _ _ => rfl))) pss_nil) pss_nil) (pss_cons (ps_ret (pe_op op_mod (pe_op op_mod (pe_callTy call_int1 rfl z_int bt_int (pa_cons (pe_op op_add (pe_op op_mulX (pe_op op_mulX (pe_op op_add (pv 3) (pv 1)) (pe_op op_add (pv 1) pe_int)) pe_int) (pe_op op_mulX (pv 1) pe_int)) pa_nil)) pe_int) (pv 2))) pss_nil)))), ?_⟩
    rw [show start ["_law_tape_here", "_law_at", "_law_many", "_law_number"] [u0, u1, u2] = ([some u0, some u1, some u2, none] : L2.St) from rfl]
    refine q_if w (et_test (ev_lt (ev_varI rfl f1) (ev_len (ev_seqL (ev_var rfl f0))))) (fun hb1 B2 H2 x2 (w2 : Own K B2 M [] H2) => ?_) (fun hb1 B7 H7 x7 (w7 : Own K B7 M [] H7) => ?_)
    · skip
      rw [if_pos hb1] at hm
      obtain ⟨t3, e4, hm⟩ := bindS hm
      obtain ⟨t5, e6, hm⟩ := bindS hm
      replace hm : some _ = some _ := hm
      obtain rfl := Option.some.inj hm
      exact q_ret w2 (ev_mod (ev_intI (ev_ix (ev_seqL (ev_var rfl (((rLst rInt)).mono x2 f0))) (ev_varI rfl f1) e4)) (ev_varI rfl f2) e6) fun v9 B9 H9 x9 w9 h9 => k _ _ _ (x2.trans x9) w9 h9
    rw [if_neg (by rw [hb1]; exact Bool.false_ne_true)] at hm
    refine q_asg (n := 3) w7 (ev_int (i := 1)) fun v9 B8 H8 x8 (w8 : Own K B8 M [] H8) h10 => ?_
    obtain ⟨s12, e13, hm⟩ := bindS hm
    refine q_cut (fun σ26 H23 => ∃ v24 B23, Ex B8 B23 ∧ Own K B23 M [] H23 ∧ σ26 = [some u0, some u1, some u2, some v24] ∧ (rInt).is K B23 v24 s12) ?_ ?_
    · skip
      refine q_ifc w8 (et_test (ev_gt (ev_len (ev_seqL (ev_var rfl (((rLst rInt)).mono (x7.trans x8) f0)))) (ev_int (i := 0)))) (fun hb11 B14 H14 x14 (w14 : Own K B14 M [] H14) => ?_) (fun hb11 B22 H22 x22 (w22 : Own K B22 M [] H22) => ?_)
      · skip
        rw [if_pos hb11] at e13
        obtain ⟨t15, e16, e13⟩ := bindS e13
        obtain ⟨t17, e18, e13⟩ := bindS e13
        refine q_asg (n := 3) w14 (ev_ix (ev_seqL (ev_var rfl (((rLst rInt)).mono ((x7.trans x8).trans x14) f0))) (ev_mod (ev_intI (ev_varI rfl f1)) (ev_len (ev_seqL (ev_var rfl (((rLst rInt)).mono ((x7.trans x8).trans x14) f0)))) e16) e18) fun v20 B19 H19 x19 (w19 : Own K B19 M [] H19) h21 => ?_
        replace e13 : some _ = some _ := e13
        cases e13
        exact ⟨v20, _, (x14.trans x19), w19, rfl, h21⟩
      rw [if_neg (by rw [hb11]; exact Bool.false_ne_true)] at e13
      replace e13 : some _ = some _ := e13
      cases e13
      exact ⟨v9, _, x22, w22, rfl, ((rInt).mono x22 h10)⟩
    rintro σ26' H23 ⟨v24, B23, x23, w23, rfl, h25⟩
    obtain ⟨t27, e28, hm⟩ := bindS hm
    obtain ⟨t29, e30, hm⟩ := bindS hm
    obtain ⟨t31, e32, hm⟩ := bindS hm
    obtain ⟨t33, e34, hm⟩ := bindS hm
    obtain ⟨t35, e36, hm⟩ := bindS hm
    replace hm : some _ = some _ := hm
    obtain rfl := Option.some.inj hm
    exact q_ret w23 (ev_mod (ev_mod (ev_intI (ev_add (ev_mul (ev_mul (ev_add (ev_varI rfl h25) (ev_varI rfl f1)) (ev_add (ev_varI rfl f1) (ev_int (i := 3))) e28) (ev_int (i := 7919)) e30) (ev_mul (ev_varI rfl f1) (ev_int (i := 104729)) e32))) (ev_int (i := 65521)) e34) (ev_varI rfl f2) e36) fun v9 B9 H9 x9 w9 h9 => k _ _ _ (((x7.trans x8).trans x23).trans x9) w9 h9
noncomputable def m_l_take (a0 : ((List Int) × Int)) (a1 : Int) : Option (Int × ((List Int) × Int)) :=
  Option.bind (m_l_draw (((a0.1, (a0.2 + (1 : Int)))).1) (((a0.1, (a0.2 + (1 : Int)))).2) a1) fun t2 =>
  some (t2, (a0.1, (a0.2 + (1 : Int))))
def C__law_take : List Arg → List Cell → Arg → List Cell → Prop := fun as L r L' => ∃ a0 a1 p0 c, as = [⟨rRef, p0⟩, ⟨rInt, a1⟩] ∧ L = [⟨p0, (cL2 (rLst rInt) rInt), a0⟩] ∧ m_l_take a0 a1 = some c ∧ r = ⟨rInt, c.1⟩ ∧ L' = [⟨p0, (cL2 (rLst rInt) rInt), c.2⟩]
theorem sc__law_take : FnScope ["_law_state", "_law_many"] ["_law_state", "_law_many"] (defScope s__law_take) := ⟨rfl, rfl, rfl, by decide +kernel, rfl, by decide +kernel, by decide +kernel⟩
set_option maxHeartbeats 4000000 in
theorem ok__law_take (F : FunC K "_law_take" s__law_take f fd cc) (c__law_draw : Cl P w K mg base 1 "_law_draw" (spV K T C__law_draw) []) : FnOk P w K mg base CX0 2 f fd ["_law_state", "_law_many"] (spV K T C__law_take) := by
  refine F.ok sc__law_take (fun vs H Q E h => ?_) (fun A outer s H vs Q E hr h => ?_)
  · obtain ⟨B, M, L, as, r, L', hT, w, ha, ⟨_, _, _, _, rfl, _⟩, k⟩ := h
    exact args_len ha
  · skip
    obtain ⟨B, M, L, as, r, L', rfl, w, ha, ⟨a0, a1, p0, c, rfl, rfl, hm, rfl, rfl⟩, k⟩ := h
    obtain ⟨u0, u1, rfl, f0, f1⟩ := args2 ha
    replace f0 : u0 = V.ref p0 := f0
    subst f0
    replace f1 : (rInt).is K B u1 a1 := f1
    unfold m_l_take at hm
    refine ⟨_, (pss_cons (ps_asg (pe_op op_add (pe_ix ix_seq (pv 0) pe_int (fun _ _ => rfl)) pe_int) (pg_sub (pv 0) pe_int set_list)) (pss_cons (ps_ret (pe_c c__law_draw hr (by omega) rfl (pa_cons (pe_ix ix_seq (pv 0) pe_int (fun _ _ => rfl)) (pa_cons (pe_ix ix_seq (pv 0) pe_int (fun _ _ => rfl)) (pa_cons (pv 1) pa_nil))))) pss_nil)), ?_⟩
    rw [show start ["_law_state", "_law_many"] [.ref p0, u1] = ([some (.ref p0), some u1] : L2.St) from rfl]
    refine q_set1 (n := 0) w (ev_add (ev_l2snd (n := 0) rfl rfl) (ev_int (i := 1))) rfl rfl fun B1 H1 x1 (w1 : Own K B1 M [⟨p0, (cL2 (rLst rInt) rInt), (a0.1, (a0.2 + (1 : Int)))⟩] H1) => ?_
    obtain ⟨t2, e3, hm⟩ := bindS hm
    replace hm : some _ = some _ := hm
    obtain rfl := Option.some.inj hm
    exact q_ret w1 (ev_call (ea_cons (ev_l2fst (n := 0) rfl rfl) (ea_cons (ev_l2snd (n := 0) rfl rfl) (ea_cons (ev_varI rfl f1) ea_nil))) ⟨_, _, _, _, rfl, rfl, e3, rfl, rfl⟩) fun v9 B9 H9 x9 w9 h9 => k _ _ _ (x1.trans x9) w9 h9
noncomputable def F_m_l_equal (rec : PyData → PyData → Option Bool) (a0 : PyData) (a1 : PyData) : Option Bool :=
  if (isNoneD a1) = true then
    some (isNoneD a0)
  else
    if (isBoolD a1) = true then
      Option.bind ((if (isBoolD a0) = true then (Option.bind (eqvD a0 a1) fun t6 => some (t6)) else (some (false)))) fun t8 =>
      some t8
    else
      if (isIntD a1) = true then
        Option.bind ((if (isIntD a0) = true then (Option.bind ((if (!(isBoolD a0)) = true then (Option.bind (eqvD a0 a1) fun t14 => some (t14)) else (some (false)))) fun t16 => some (t16)) else (some (false)))) fun t19 =>
        some t19
      else
        if (isStrD a1) = true then
          Option.bind ((if (isStrD a0) = true then (Option.bind (eqvD a0 a1) fun t25 => some (t25)) else (some (false)))) fun t27 =>
          some t27
        else
          if ((isTupD a1) && (!(isTupD a0))) = true then
            some false
          else
            if ((isLstD a1) && (!(isLstD a0))) = true then
              some false
            else
              Option.bind (lenD a0) fun t37 =>
              Option.bind (lenD a1) fun t39 =>
              if (!decide (t37 = t39)) = true then
                some false
              else
                Option.bind (lenD a1) fun t44 =>
                Option.bind (small62 t44) fun t46 =>
                Option.bind (loopR (S := Unit) (R := Bool) (α := Int) (fun (s48 : Unit) (x49 : Int) => (
                  Option.bind (ixD a0 x49) fun t68 =>
                  Option.bind (ixD a1 x49) fun t70 =>
                  Option.bind (rec t68 t70) fun t72 =>
                  if (!t72) = true then
                    some (Stp.rt false)
                  else
                    some (Stp.nx (()))
                )) (()) ((rng 0 t44))) fun o51 =>
                match o51 with
                | .inl s77 =>
                  some true
                | .inr q9 => some q9
noncomputable def m_l_equal : Nat → PyData → PyData → Option Bool
  | 0 => fun _ _ => none
  | n + 1 => F_m_l_equal (m_l_equal n)
def C__law_equal (n : Nat) : List Arg → List Cell → Arg → List Cell → Prop := fun as L r L' => ∃ a0 a1 c, as = [⟨rDat, a0⟩, ⟨rDat, a1⟩] ∧ L = [] ∧ m_l_equal n a0 a1 = some c ∧ r = ⟨rBool, c⟩ ∧ L' = []
theorem sc__law_equal : FnScope ["_law_actual", "_law_due", "_law_k"] ["_law_actual", "_law_due"] (defScope s__law_equal) := ⟨rfl, rfl, rfl, by decide +kernel, rfl, by decide +kernel, by decide +kernel⟩
set_option maxHeartbeats 4000000 in
theorem ok__law_equal (F : FunC K "_law_equal" s__law_equal f fd cc) (z_isinstance : mg "isinstance" = none) (z_bool : mg "bool" = none) (z_int : mg "int" = none) (z_str : mg "str" = none) (z_tuple : mg "tuple" = none) (z_list : mg "list" = none) (z_len : mg "len" = none) (z_range : mg "range" = none) (n : Nat) (c__law_equal : Cl P w K mg base (0 + n) "_law_equal" (spV K T (C__law_equal n)) []) : FnOk P w K mg base CX0 (0 + n + 1) f fd ["_law_actual", "_law_due"] (spV K T (C__law_equal (n + 1))) := by
  refine F.ok sc__law_equal (fun vs H Q E h => ?_) (fun A outer s H vs Q E hr h => ?_)
  · obtain ⟨B, M, L, as, r, L', hT, w, ha, ⟨_, _, _, rfl, _⟩, k⟩ := h
    exact args_len ha
  · skip
    obtain ⟨B, M, L, as, r, L', rfl, w, ha, ⟨a0, a1, c, rfl, rfl, hm, rfl, rfl⟩, k⟩ := h
    obtain ⟨u0, u1, rfl, f0, f1⟩ := args2 ha
    replace f0 : (rDat).is K B u0 a0 := f0
    replace f1 : (rDat).is K B u1 a1 := f1
    have hu := room_hu hr
    replace hm : F_m_l_equal (m_l_equal n) a0 a1 = some c := hm
    unfold F_m_l_equal at hm
    refine ⟨_, (pss_cons (ps_if (pt_cmp (pc_isN (pv 1))) (pss_cons (ps_ret (pe_cmp (pc_isN (pv 0)))) pss_nil) pss_nil) (pss_cons (ps_if (pt_val (pe_callB call_isi rfl z_isinstance bt_isinstance (pa_cons (pv 1) (pa_cons (pe_bltn (v := .ty "bool") rfl z_bool bt_bool rfl) pa_nil)))) (pss_cons (ps_ret (pe_and (pe_callB call_isi rfl z_isinstance bt_isinstance (pa_cons (pv 0) (pa_cons (pe_bltn (v := .ty "bool") rfl z_bool bt_bool rfl) pa_nil))) (pe_one (pe_cmpR (op_eqD hu) (pv 0) (pv 1) (nomark _))))) pss_nil) pss_nil) (pss_cons (ps_if (pt_val (pe_callB call_isi rfl z_isinstance bt_isinstance (pa_cons (pv 1) (pa_cons (pe_bltn (v := .ty "int") rfl z_int bt_int rfl) pa_nil)))) (pss_cons (ps_ret (pe_and (pe_callB call_isi rfl z_isinstance bt_isinstance (pa_cons (pv 0) (pa_cons (pe_bltn (v := .ty "int") rfl z_int bt_int rfl) pa_nil))) (pe_and (pe_not (pe_callB call_isi rfl z_isinstance bt_isinstance (pa_cons (pv 0) (pa_cons (pe_bltn (v := .ty "bool") rfl z_bool bt_bool rfl) pa_nil)))) (pe_one (pe_cmpR (op_eqD hu) (pv 0) (pv 1) (nomark _)))))) pss_nil) pss_nil) (pss_cons (ps_if (pt_val (pe_callB call_isi rfl z_isinstance bt_isinstance (pa_cons (pv 1) (pa_cons (pe_bltn (v := .ty "str") rfl z_str bt_str rfl) pa_nil)))) (pss_cons (ps_ret (pe_and (pe_callB call_isi rfl z_isinstance bt_isinstance (pa_cons (pv 0) (pa_cons (pe_bltn (v := .ty "str") rfl z_str bt_str rfl) pa_nil))) (pe_one (pe_cmpR (op_eqD hu) (pv 0) (pv 1) (nomark _))))) pss_nil) pss_nil) (pss_cons (ps_if (PW.pt (pw_and (pt_val (pe_callB call_isi rfl z_isinstance bt_isinstance (pa_cons (pv 1) (pa_cons (pe_bltn (v := .ty "tuple") rfl z_tuple bt_tuple rfl) pa_nil)))) (pw_and1 (pt_not (pt_val (pe_callB call_isi rfl z_isinstance bt_isinstance (pa_cons (pv 0) (pa_cons (pe_bltn (v := .ty "tuple") rfl z_tuple bt_tuple rfl) pa_nil)))))))) (pss_cons (ps_ret pe_bl) pss_nil) pss_nil) (pss_cons (ps_if (PW.pt (pw_and (pt_val (pe_callB call_isi rfl z_isinstance bt_isinstance (pa_cons (pv 1) (pa_cons (pe_bltn (v := .ty "list") rfl z_list bt_list rfl) pa_nil)))) (pw_and1 (pt_not (pt_val (pe_callB call_isi rfl z_isinstance bt_isinstance (pa_cons (pv 0) (pa_cons (pe_bltn (v := .ty "list") rfl z_list bt_list rfl) pa_nil)))))))) (pss_cons (ps_ret pe_bl) pss_nil) pss_nil) (pss_cons (ps_if (pt_cmpR op_ne (pe_callB call_len_seq rfl z_len bt_len (pa_cons (pv 0) pa_nil)) (pe_callB call_len_seq rfl z_len bt_len (pa_cons (pv 1) pa_nil)) (nomark _)) (pss_cons (ps_ret pe_bl) pss_nil) pss_nil) (pss_cons (ps_for PassesOwn.never rfl (pi_range1 rfl z_range (pa_cons (pe_callB call_len_seq rfl z_len bt_len (pa_cons (pv 1) pa_nil)) pa_nil)) (pg_name (i := 2) sc__law_equal.nd rfl (by first | exact Or.inl rfl | exact Or.inr rfl)) (pss_cons (ps_if (pt_not (pt_val (pe_c c__law_equal hr (by omega) rfl (pa_cons (pe_ix ix_seq (pv 0) (pv 2) (fun _ _ => rfl)) (pa_cons (pe_ix ix_seq (pv 1) (pv 2) (fun _ _ => rfl)) pa_nil))))) (pss_cons (ps_ret pe_bl) pss_nil) pss_nil) pss_nil)) (pss_cons (ps_ret pe_bl) pss_nil))))))))), ?_⟩
    rw [show start ["_law_actual", "_law_due", "_law_k"] [u0, u1] = ([some u0, some u1, none] : L2.St) from rfl]
    refine q_if w (et_B (ev_isND (ev_var rfl f1))) (fun hb1 B2 H2 x2 (w2 : Own K B2 M [] H2) => ?_) (fun hb1 B3 H3 x3 (w3 : Own K B3 M [] H3) => ?_)
    · skip
      rw [if_pos hb1] at hm
      replace hm : some _ = some _ := hm
      obtain rfl := Option.some.inj hm
      exact q_ret w2 (ev_isND (ev_var rfl ((rDat).mono x2 f0))) fun v9 B9 H9 x9 w9 h9 => k _ _ _ (x2.trans x9) w9 h9
    rw [if_neg (by rw [hb1]; exact Bool.false_ne_true)] at hm
    refine q_if w3 (et_B (ev_isi "bool" isBoolD isi_bool (ev_var rfl ((rDat).mono x3 f1)))) (fun hb4 B5 H5 x5 (w5 : Own K B5 M [] H5) => ?_) (fun hb4 B11 H11 x11 (w11 : Own K B11 M [] H11) => ?_)
    · skip
      rw [if_pos hb4] at hm
      obtain ⟨t8, e9, hm⟩ := bindS hm
      replace hm : some _ = some _ := hm
      obtain rfl := Option.some.inj hm
      exact q_ret w5 (ev_andV (d := t8) (ev_isi "bool" isBoolD isi_bool (ev_var rfl ((rDat).mono (x3.trans x5) f0))) (fun hb10 => by rw [if_pos hb10] at e9; obtain ⟨t6, e7, e9⟩ := bindS e9; obtain rfl := Option.some.inj e9; exact (ev_eqvD (ev_var rfl ((rDat).mono (x3.trans x5) f0)) (ev_var rfl ((rDat).mono (x3.trans x5) f1)) e7)) (fun hb10 => by rw [if_neg (by rw [hb10]; exact Bool.false_ne_true)] at e9; obtain rfl := Option.some.inj e9; exact ⟨rfl, rfl⟩)) fun v9 B9 H9 x9 w9 h9 => k _ _ _ ((x3.trans x5).trans x9) w9 h9
    rw [if_neg (by rw [hb4]; exact Bool.false_ne_true)] at hm
    refine q_if w11 (et_B (ev_isi "int" isIntD isi_int (ev_var rfl ((rDat).mono (x3.trans x11) f1)))) (fun hb12 B13 H13 x13 (w13 : Own K B13 M [] H13) => ?_) (fun hb12 B22 H22 x22 (w22 : Own K B22 M [] H22) => ?_)
    · skip
      rw [if_pos hb12] at hm
      obtain ⟨t19, e20, hm⟩ := bindS hm
      replace hm : some _ = some _ := hm
      obtain rfl := Option.some.inj hm
      exact q_ret w13 (ev_andV (d := t19) (ev_isi "int" isIntD isi_int (ev_var rfl ((rDat).mono ((x3.trans x11).trans x13) f0))) (fun hb21 => by rw [if_pos hb21] at e20; obtain ⟨t16, e17, e20⟩ := bindS e20; obtain rfl := Option.some.inj e20; exact (ev_andV (d := t16) (ev_notV (ev_isi "bool" isBoolD isi_bool (ev_var rfl ((rDat).mono ((x3.trans x11).trans x13) f0)))) (fun hb18 => by rw [if_pos hb18] at e17; obtain ⟨t14, e15, e17⟩ := bindS e17; obtain rfl := Option.some.inj e17; exact (ev_eqvD (ev_var rfl ((rDat).mono ((x3.trans x11).trans x13) f0)) (ev_var rfl ((rDat).mono ((x3.trans x11).trans x13) f1)) e15)) (fun hb18 => by rw [if_neg (by rw [hb18]; exact Bool.false_ne_true)] at e17; obtain rfl := Option.some.inj e17; exact ⟨rfl, rfl⟩))) (fun hb21 => by rw [if_neg (by rw [hb21]; exact Bool.false_ne_true)] at e20; obtain rfl := Option.some.inj e20; exact ⟨rfl, rfl⟩)) fun v9 B9 H9 x9 w9 h9 => k _ _ _ (((x3.trans x11).trans x13).trans x9) w9 h9
    rw [if_neg (by rw [hb12]; exact Bool.false_ne_true)] at hm
    refine q_if w22 (et_B (ev_isi "str" isStrD isi_str (ev_var rfl ((rDat).mono ((x3.trans x11).trans x22) f1)))) (fun hb23 B24 H24 x24 (w24 : Own K B24 M [] H24) => ?_) (fun hb23 B30 H30 x30 (w30 : Own K B30 M [] H30) => ?_)
    · skip
      rw [if_pos hb23] at hm
      obtain ⟨t27, e28, hm⟩ := bindS hm
      replace hm : some _ = some _ := hm
      obtain rfl := Option.some.inj hm
      exact q_ret w24 (ev_andV (d := t27) (ev_isi "str" isStrD isi_str (ev_var rfl ((rDat).mono (((x3.trans x11).trans x22).trans x24) f0))) (fun hb29 => by rw [if_pos hb29] at e28; obtain ⟨t25, e26, e28⟩ := bindS e28; obtain rfl := Option.some.inj e28; exact (ev_eqvD (ev_var rfl ((rDat).mono (((x3.trans x11).trans x22).trans x24) f0)) (ev_var rfl ((rDat).mono (((x3.trans x11).trans x22).trans x24) f1)) e26)) (fun hb29 => by rw [if_neg (by rw [hb29]; exact Bool.false_ne_true)] at e28; obtain rfl := Option.some.inj e28; exact ⟨rfl, rfl⟩)) fun v9 B9 H9 x9 w9 h9 => k _ _ _ ((((x3.trans x11).trans x22).trans x24).trans x9) w9 h9
    rw [if_neg (by rw [hb23]; exact Bool.false_ne_true)] at hm
    refine q_if w30 (et_and (et_B (ev_isi "tuple" isTupD isi_tuple (ev_var rfl ((rDat).mono (((x3.trans x11).trans x22).trans x30) f1)))) fun _ => (et_not (et_B (ev_isi "tuple" isTupD isi_tuple (ev_var rfl ((rDat).mono (((x3.trans x11).trans x22).trans x30) f0)))))) (fun hb31 B32 H32 x32 (w32 : Own K B32 M [] H32) => ?_) (fun hb31 B33 H33 x33 (w33 : Own K B33 M [] H33) => ?_)
    · skip
      rw [if_pos hb31] at hm
      replace hm : some _ = some _ := hm
      obtain rfl := Option.some.inj hm
      exact q_ret w32 (ev_bl (b := false)) fun v9 B9 H9 x9 w9 h9 => k _ _ _ (((((x3.trans x11).trans x22).trans x30).trans x32).trans x9) w9 h9
    rw [if_neg (by rw [hb31]; exact Bool.false_ne_true)] at hm
    refine q_if w33 (et_and (et_B (ev_isi "list" isLstD isi_list (ev_var rfl ((rDat).mono ((((x3.trans x11).trans x22).trans x30).trans x33) f1)))) fun _ => (et_not (et_B (ev_isi "list" isLstD isi_list (ev_var rfl ((rDat).mono ((((x3.trans x11).trans x22).trans x30).trans x33) f0)))))) (fun hb34 B35 H35 x35 (w35 : Own K B35 M [] H35) => ?_) (fun hb34 B36 H36 x36 (w36 : Own K B36 M [] H36) => ?_)
    · skip
      rw [if_pos hb34] at hm
      replace hm : some _ = some _ := hm
      obtain rfl := Option.some.inj hm
      exact q_ret w35 (ev_bl (b := false)) fun v9 B9 H9 x9 w9 h9 => k _ _ _ ((((((x3.trans x11).trans x22).trans x30).trans x33).trans x35).trans x9) w9 h9
    rw [if_neg (by rw [hb34]; exact Bool.false_ne_true)] at hm
    obtain ⟨t37, e38, hm⟩ := bindS hm
    obtain ⟨t39, e40, hm⟩ := bindS hm
    refine q_if w36 (et_test (ev_neI (ev_lenD (ev_var rfl ((rDat).mono (((((x3.trans x11).trans x22).trans x30).trans x33).trans x36) f0)) e38) (ev_lenD (ev_var rfl ((rDat).mono (((((x3.trans x11).trans x22).trans x30).trans x33).trans x36) f1)) e40))) (fun hb41 B42 H42 x42 (w42 : Own K B42 M [] H42) => ?_) (fun hb41 B43 H43 x43 (w43 : Own K B43 M [] H43) => ?_)
    · skip
      rw [if_pos hb41] at hm
      replace hm : some _ = some _ := hm
      obtain rfl := Option.some.inj hm
      exact q_ret w42 (ev_bl (b := false)) fun v9 B9 H9 x9 w9 h9 => k _ _ _ (((((((x3.trans x11).trans x22).trans x30).trans x33).trans x36).trans x42).trans x9) w9 h9
    rw [if_neg (by rw [hb41]; exact Bool.false_ne_true)] at hm
    obtain ⟨t44, e45, hm⟩ := bindS hm
    obtain ⟨t46, e47, hm⟩ := bindS hm
    obtain ⟨o51, e52, hm⟩ := bindS hm
    refine q_forR w43 (ei_rng1 (ea_cons (ev_lenD (ev_var rfl ((rDat).mono ((((((x3.trans x11).trans x22).trans x30).trans x33).trans x36).trans x43) f1)) e45) ea_nil) e47) _ (fun s48 B53 σ66 => ∃ o67, σ66 = [some u0, some u1, o67]) (fun s48 => []) (()) e52 (fun B9 x9 => ⟨_, rfl⟩) rfl ?_ ?_
    · skip
      rintro s48 x49 s84 v59 B53 B54 H55 σ66 hb50 x56 ⟨o67, rfl⟩ x57 w58 h60 ho65 N61 K62 hN63 hB64
      replace w58 : Own K B54 M [] H55 := w58
      refine g_name ?_
      obtain ⟨t68, e69, hb50⟩ := bindS hb50
      obtain ⟨t70, e71, hb50⟩ := bindS hb50
      obtain ⟨t72, e73, hb50⟩ := bindS hb50
      refine q_if w58 (et_not (et_B (ev_call (ea_cons (ev_ixD (ev_var rfl ((rDat).mono ((((((((x3.trans x11).trans x22).trans x30).trans x33).trans x36).trans x43).trans x56).trans x57) f0)) (ev_varI rfl h60) e69) (ea_cons (ev_ixD (ev_var rfl ((rDat).mono ((((((((x3.trans x11).trans x22).trans x30).trans x33).trans x36).trans x43).trans x56).trans x57) f1)) (ev_varI rfl h60) e71) ea_nil)) ⟨_, _, _, rfl, rfl, e73, rfl, rfl⟩))) (fun hb74 B75 H75 x75 (w75 : Own K B75 M [] H75) => ?_) (fun hb74 B76 H76 x76 (w76 : Own K B76 M [] H76) => ?_)
      · skip
        rw [if_pos hb74] at hb50
        replace hb50 : some _ = some _ := hb50
        obtain rfl := Option.some.inj hb50
        obtain rfl := ho65 _ rfl
        replace hm : some _ = some _ := hm
        obtain rfl := Option.some.inj hm
        exact q_ret w75 (ev_bl (b := false)) fun v9 B9 H9 x9 w9 h9 => k _ _ _ ((((((((((x3.trans x11).trans x22).trans x30).trans x33).trans x36).trans x43).trans x56).trans x57).trans x75).trans x9) w9 h9
      rw [if_neg (by rw [hb74]; exact Bool.false_ne_true)] at hb50
      replace hb50 : some _ = some _ := hb50
      cases hb50
      exact hN63 _ _ _ _ rfl x76 w76 ⟨_, rfl⟩
    rintro s77 B78 H79 σ82 rfl x80 w81 ⟨o83, rfl⟩
    dsimp only at hm
    replace w81 : Own K B78 M [] H79 := w81
    replace hm : some _ = some _ := hm
    obtain rfl := Option.some.inj hm
    exact q_ret w81 (ev_bl (b := true)) fun v9 B9 H9 x9 w9 h9 => k _ _ _ ((((((((x3.trans x11).trans x22).trans x30).trans x33).trans x36).trans x43).trans x80).trans x9) w9 h9
theorem all__law_equal (F : FunC K "_law_equal" s__law_equal f fd cc) (z_isinstance : mg "isinstance" = none) (z_bool : mg "bool" = none) (z_int : mg "int" = none) (z_str : mg "str" = none) (z_tuple : mg "tuple" = none) (z_list : mg "list" = none) (z_len : mg "len" = none) (z_range : mg "range" = none) (mf : mg "_law_equal" = some (.ref f)) (kp : PySem.W.keepIn K (.ref f) = true) (bf : Binds K fd ["_law_actual", "_law_due"] []) : ∀ n, FnOk P w K mg base CX0 (0 + n) f fd ["_law_actual", "_law_due"] (spV K T (C__law_equal n))
  | 0 => fn_none fun _ _ _ _ ⟨_, _, _, _, _, h, _⟩ => (by cases h)
  | n + 1 => ok__law_equal F z_isinstance z_bool z_int z_str z_tuple z_list z_len z_range n ⟨f, fd, ["_law_actual", "_law_due"], [], all__law_equal F z_isinstance z_bool z_int z_str z_tuple z_list z_len z_range mf kp bf n, mf, kp, bf, .nil⟩
noncomputable def m_l_ratio (a0 : Int) (a1 : Int) : Option (Int × Int) :=
  Option.bind (if (decide (a1 < (0 : Int))) = true then
    some ((((0 : Int) - a0), ((0 : Int) - a1)))
  else
    some ((a0, a1))
  ) fun (s2 : (Int × Int)) =>
  Option.bind (loopB (S := (Int × Int)) (α := Int) (fun (s24 : (Int × Int)) (x25 : Int) => (
    if (decide (s24.2 = (0 : Int))) = true then
      some (Stp.bk ((s24.1, s24.2)))
    else
      Option.bind (modI s24.1 s24.2) fun t52 =>
      some (Stp.nx ((s24.2, t52)))
  )) ((s2.2, (absI s2.1))) ((rng 0 ((2000 : Int))))) fun s63 =>
  Option.bind (divI s2.1 s63.1) fun t75 =>
  Option.bind (divI s2.2 s63.1) fun t77 =>
  some (t75, t77)
def C__law_ratio : List Arg → List Cell → Arg → List Cell → Prop := fun as L r L' => ∃ a0 a1 c, as = [⟨rInt, a0⟩, ⟨rInt, a1⟩] ∧ L = [] ∧ m_l_ratio a0 a1 = some c ∧ r = ⟨(rT2 rInt rInt), c⟩ ∧ L' = []
theorem sc__law_ratio : FnScope ["_law_n", "_law_d", "_law_a", "_law_b", "_law_k", "_law_rest"] ["_law_n", "_law_d"] (defScope s__law_ratio) := ⟨rfl, rfl, rfl, by decide +kernel, rfl, by decide +kernel, by decide +kernel⟩
set_option maxHeartbeats 4000000 in
theorem ok__law_ratio (F : FunC K "_law_ratio" s__law_ratio f fd cc) (z_abs : mg "abs" = none) (z_range : mg "range" = none) (z_int : mg "int" = none) : FnOk P w K mg base CX0 1 f fd ["_law_n", "_law_d"] (spV K T C__law_ratio) := by
  refine F.ok sc__law_ratio (fun vs H Q E h => ?_) (fun A outer s H vs Q E hr h => ?_)
  · obtain ⟨B, M, L, as, r, L', hT, w, ha, ⟨_, _, _, rfl, _⟩, k⟩ := h
    exact args_len ha
  · skip
    obtain ⟨B, M, L, as, r, L', rfl, w, ha, ⟨a0, a1, c, rfl, rfl, hm, rfl, rfl⟩, k⟩ := h
    obtain ⟨u0, u1, rfl, f0, f1⟩ := args2 ha
    replace f0 : (rInt).is K B u0 a0 := f0
    replace f1 : (rInt).is K B u1 a1 := f1
    unfold m_l_ratio at hm
    refine ⟨_, (Evl.pss_cut (ps_if (pt_cmpR op_lt (pv 1) pe_int (nomark _)) (pss_cons (ps_set (i := 0) sc__law_ratio.nd rfl (by first | exact Or.inl rfl | exact Or.inr rfl) (pe_op op_sub pe_int (pv 0))) (pss_cons (ps_set (i := 1) sc__law_ratio.nd rfl (by first | exact Or.inl rfl | exact Or.inr rfl) (pe_op op_sub pe_int (pv 1))) pss_nil)) pss_nil) (pss_cons (ps_set (i := 2) sc__law_ratio.nd rfl (by first | exact Or.inl rfl | exact Or.inr rfl) (pe_callB call_abs rfl z_abs bt_abs (pa_cons (pv 0) pa_nil))) (pss_cons (ps_set (i := 3) sc__law_ratio.nd rfl (by first | exact Or.inl rfl | exact Or.inr rfl) (pv 1)) (pss_cons (ps_for PassesOwn.never rfl (pi_range1 rfl z_range (pa_cons pe_int pa_nil)) (pg_name (i := 4) sc__law_ratio.nd rfl (by first | exact Or.inl rfl | exact Or.inr rfl)) (pss_cons (ps_if (pt_cmpR op_eq (pv 2) pe_int (nomark _)) (pss_cons ps_break pss_nil) pss_nil) (pss_cons (ps_set (i := 5) sc__law_ratio.nd rfl (by first | exact Or.inl rfl | exact Or.inr rfl) (pe_op op_mod (pe_callTy call_int1 rfl z_int bt_int (pa_cons (pv 3) pa_nil)) (pv 2))) (pss_cons (ps_set (i := 3) sc__law_ratio.nd rfl (by first | exact Or.inl rfl | exact Or.inr rfl) (pv 2)) (pss_cons (ps_set (i := 2) sc__law_ratio.nd rfl (by first | exact Or.inl rfl | exact Or.inr rfl) (pv 5)) pss_nil))))) (pss_cons (ps_ret (pe_tup (pa_cons (pe_op op_fdivW (pv 0) (pv 3)) (pa_cons (pe_op op_fdivW (pv 1) (pv 3)) pa_nil)))) pss_nil))))), ?_⟩
    rw [show start ["_law_n", "_law_d", "_law_a", "_law_b", "_law_k", "_law_rest"] [u0, u1] = ([some u0, some u1, none, none, none, none] : L2.St) from rfl]
    obtain ⟨s2, e3, hm⟩ := bindS hm
    refine q_cut (fun σ17 H12 => ∃ v13 v15 B12, Ex B B12 ∧ Own K B12 M [] H12 ∧ σ17 = [some v13, some v15, none, none, none, none] ∧ (rInt).is K B12 v13 s2.1 ∧ (rInt).is K B12 v15 s2.2) ?_ ?_
    · skip
      refine q_ifc w (et_test (ev_lt (ev_varI rfl f1) (ev_int (i := 0)))) (fun hb1 B4 H4 x4 (w4 : Own K B4 M [] H4) => ?_) (fun hb1 B11 H11 x11 (w11 : Own K B11 M [] H11) => ?_)
      · skip
        rw [if_pos hb1] at e3
        refine q_asg (n := 0) w4 (ev_sub (ev_int (i := 0)) (ev_varI rfl f0)) fun v6 B5 H5 x5 (w5 : Own K B5 M [] H5) h7 => ?_
        refine q_asg (n := 1) w5 (ev_sub (ev_int (i := 0)) (ev_varI rfl f1)) fun v9 B8 H8 x8 (w8 : Own K B8 M [] H8) h10 => ?_
        replace e3 : some _ = some _ := e3
        cases e3
        exact ⟨v6, v9, _, ((x4.trans x5).trans x8), w8, rfl, ((rInt).mono x8 h7), h10⟩
      rw [if_neg (by rw [hb1]; exact Bool.false_ne_true)] at e3
      replace e3 : some _ = some _ := e3
      cases e3
      exact ⟨u0, u1, _, x11, w11, rfl, ((rInt).mono x11 f0), ((rInt).mono x11 f1)⟩
    rintro σ17' H12 ⟨v13, v15, B12, x12, w12, rfl, h14, h16⟩
    refine q_asg (n := 2) w12 (ev_abs (ev_varI rfl h14)) fun v19 B18 H18 x18 (w18 : Own K B18 M [] H18) h20 => ?_
    refine q_asg (n := 3) w18 (ev_varI rfl h16) fun v22 B21 H21 x21 (w21 : Own K B21 M [] H21) h23 => ?_
    obtain ⟨s63, e28, hm⟩ := bindS hm
    refine q_forB w21 (ei_rng1 (ea_cons (ev_int (i := 2000)) ea_nil) (by decide)) _ (fun s24 B29 σ42 => ∃ v43 v45 o47 o48, σ42 = [some v13, some v15, some v45, some v43, o47, o48] ∧ (rInt).is K B29 v43 s24.1 ∧ (rInt).is K B29 v45 s24.2) (fun s24 => []) ((s2.2, (absI s2.1))) e28 (fun B9 x9 => ⟨v22, v19, _, _, rfl, ((rInt).mono x9 h23), ((rInt).mono x9 ((rInt).mono x21 h20))⟩) rfl ?_ ?_
    · skip
      rintro s24 x25 s79 v35 B29 B30 H31 σ42 hb26 x32 ⟨v43, v45, o47, o48, rfl, h44, h46⟩ x33 w34 h36 N37 K38 hN39 hB40
      replace w34 : Own K B30 M [] H31 := w34
      refine g_name ?_
      refine q_if w34 (et_test (ev_eqI (ev_varI rfl h46) (ev_int (i := 0)))) (fun hb49 B50 H50 x50 (w50 : Own K B50 M [] H50) => ?_) (fun hb49 B51 H51 x51 (w51 : Own K B51 M [] H51) => ?_)
      · skip
        rw [if_pos hb49] at hb26
        replace hb26 : some _ = some _ := hb26
        cases hb26
        exact hB40 _ _ _ _ rfl x50 w50 ⟨v43, v45, _, _, rfl, ((rInt).mono (x33.trans x50) h44), ((rInt).mono (x33.trans x50) h46)⟩
      rw [if_neg (by rw [hb49]; exact Bool.false_ne_true)] at hb26
      obtain ⟨t52, e53, hb26⟩ := bindS hb26
      refine q_asg (n := 5) w51 (ev_mod (ev_intI (ev_varI rfl h44)) (ev_varI rfl h46) e53) fun v55 B54 H54 x54 (w54 : Own K B54 M [] H54) h56 => ?_
      refine q_asg (n := 3) w54 (ev_varI rfl h46) fun v58 B57 H57 x57 (w57 : Own K B57 M [] H57) h59 => ?_
      refine q_asg (n := 2) w57 (ev_varI rfl h56) fun v61 B60 H60 x60 (w60 : Own K B60 M [] H60) h62 => ?_
      replace hb26 : some _ = some _ := hb26
      cases hb26
      exact hN39 _ _ _ _ rfl (((x51.trans x54).trans x57).trans x60) w60 ⟨v58, v61, _, _, rfl, ((rInt).mono x60 h59), h62⟩
    rintro B64 H65 σ68 x66 w67 ⟨v69, v71, o73, o74, rfl, h70, h72⟩
    replace w67 : Own K B64 M [] H65 := w67
    obtain ⟨t75, e76, hm⟩ := bindS hm
    obtain ⟨t77, e78, hm⟩ := bindS hm
    replace hm : some _ = some _ := hm
    obtain rfl := Option.some.inj hm
    exact q_ret w67 (ev_T2 (ea_cons (ev_div (ev_varI rfl h14) (ev_varI rfl h70) e76) (ea_cons (ev_div (ev_varI rfl h16) (ev_varI rfl h70) e78) ea_nil))) fun v9 B9 H9 x9 w9 h9 => k _ _ _ ((((x12.trans x18).trans x21).trans x66).trans x9) w9 h9
noncomputable def m_l_plus (a0 : (Int × Int)) (a1 : (Int × Int)) : Option (Int × Int) :=
  Option.bind (mulI a0.1 a1.2) fun t1 =>
  Option.bind (mulI a1.1 a0.2) fun t3 =>
  Option.bind (mulI a0.2 a1.2) fun t5 =>
  Option.bind (m_l_ratio ((t1 + t3)) t5) fun t7 =>
  some t7
def C__law_plus : List Arg → List Cell → Arg → List Cell → Prop := fun as L r L' => ∃ a0 a1 c, as = [⟨(rT2 rInt rInt), a0⟩, ⟨(rT2 rInt rInt), a1⟩] ∧ L = [] ∧ m_l_plus a0 a1 = some c ∧ r = ⟨(rT2 rInt rInt), c⟩ ∧ L' = []
theorem sc__law_plus : FnScope ["_law_a", "_law_b"] ["_law_a", "_law_b"] (defScope s__law_plus) := ⟨rfl, rfl, rfl, by decide +kernel, rfl, by decide +kernel, by decide +kernel⟩
set_option maxHeartbeats 4000000 in
theorem ok__law_plus (F : FunC K "_law_plus" s__law_plus f fd cc) (c__law_ratio : Cl P w K mg base 1 "_law_ratio" (spV K T C__law_ratio) []) : FnOk P w K mg base CX0 2 f fd ["_law_a", "_law_b"] (spV K T C__law_plus) := by
  refine F.ok sc__law_plus (fun vs H Q E h => ?_) (fun A outer s H vs Q E hr h => ?_)
  · obtain ⟨B, M, L, as, r, L', hT, w, ha, ⟨_, _, _, rfl, _⟩, k⟩ := h
    exact args_len ha
  · skip
    obtain ⟨B, M, L, as, r, L', rfl, w, ha, ⟨a0, a1, c, rfl, rfl, hm, rfl, rfl⟩, k⟩ := h
    obtain ⟨u0, u1, rfl, f0, f1⟩ := args2 ha
    replace f0 : ((rT2 rInt rInt)).is K B u0 a0 := f0
    replace f1 : ((rT2 rInt rInt)).is K B u1 a1 := f1
    unfold m_l_plus at hm
    refine ⟨_, (pss_cons (ps_ret (pe_c c__law_ratio hr (by omega) rfl (pa_cons (pe_op op_add (pe_op op_mulX (pe_ix ix_seq (pv 0) pe_int (fun _ _ => rfl)) (pe_ix ix_seq (pv 1) pe_int (fun _ _ => rfl))) (pe_op op_mulX (pe_ix ix_seq (pv 1) pe_int (fun _ _ => rfl)) (pe_ix ix_seq (pv 0) pe_int (fun _ _ => rfl)))) (pa_cons (pe_op op_mulX (pe_ix ix_seq (pv 0) pe_int (fun _ _ => rfl)) (pe_ix ix_seq (pv 1) pe_int (fun _ _ => rfl))) pa_nil)))) pss_nil), ?_⟩
    rw [show start ["_law_a", "_law_b"] [u0, u1] = ([some u0, some u1] : L2.St) from rfl]
    obtain ⟨t1, e2, hm⟩ := bindS hm
    obtain ⟨t3, e4, hm⟩ := bindS hm
    obtain ⟨t5, e6, hm⟩ := bindS hm
    obtain ⟨t7, e8, hm⟩ := bindS hm
    replace hm : some _ = some _ := hm
    obtain rfl := Option.some.inj hm
    exact q_ret w (ev_call (ea_cons (ev_add (ev_mul (ev_fst (ev_var rfl f0)) (ev_snd (ev_var rfl f1)) e2) (ev_mul (ev_fst (ev_var rfl f1)) (ev_snd (ev_var rfl f0)) e4)) (ea_cons (ev_mul (ev_snd (ev_var rfl f0)) (ev_snd (ev_var rfl f1)) e6) ea_nil)) ⟨_, _, _, rfl, rfl, e8, rfl, rfl⟩) fun v9 B9 H9 x9 w9 h9 => k _ _ _ ((Ex.refl _).trans x9) w9 h9
noncomputable def m_l_times (a0 : (Int × Int)) (a1 : (Int × Int)) : Option (Int × Int) :=
  Option.bind (mulI a0.1 a1.1) fun t1 =>
  Option.bind (mulI a0.2 a1.2) fun t3 =>
  Option.bind (m_l_ratio t1 t3) fun t5 =>
  some t5
def C__law_times : List Arg → List Cell → Arg → List Cell → Prop := fun as L r L' => ∃ a0 a1 c, as = [⟨(rT2 rInt rInt), a0⟩, ⟨(rT2 rInt rInt), a1⟩] ∧ L = [] ∧ m_l_times a0 a1 = some c ∧ r = ⟨(rT2 rInt rInt), c⟩ ∧ L' = []
theorem sc__law_times : FnScope ["_law_a", "_law_b"] ["_law_a", "_law_b"] (defScope s__law_times) := ⟨rfl, rfl, rfl, by decide +kernel, rfl, by decide +kernel, by decide +kernel⟩
set_option maxHeartbeats 4000000 in
theorem ok__law_times (F : FunC K "_law_times" s__law_times f fd cc) (c__law_ratio : Cl P w K mg base 1 "_law_ratio" (spV K T C__law_ratio) []) : FnOk P w K mg base CX0 2 f fd ["_law_a", "_law_b"] (spV K T C__law_times) := by
  refine F.ok sc__law_times (fun vs H Q E h => ?_) (fun A outer s H vs Q E hr h => ?_)
  · obtain ⟨B, M, L, as, r, L', hT, w, ha, ⟨_, _, _, rfl, _⟩, k⟩ := h
    exact args_len ha
  · skip
    obtain ⟨B, M, L, as, r, L', rfl, w, ha, ⟨a0, a1, c, rfl, rfl, hm, rfl, rfl⟩, k⟩ := h
    obtain ⟨u0, u1, rfl, f0, f1⟩ := args2 ha
    replace f0 : ((rT2 rInt rInt)).is K B u0 a0 := f0
    replace f1 : ((rT2 rInt rInt)).is K B u1 a1 := f1
    unfold m_l_times at hm
    refine ⟨_, (pss_cons (ps_ret (pe_c c__law_ratio hr (by omega) rfl (pa_cons (pe_op op_mulX (pe_ix ix_seq (pv 0) pe_int (fun _ _ => rfl)) (pe_ix ix_seq (pv 1) pe_int (fun _ _ => rfl))) (pa_cons (pe_op op_mulX (pe_ix ix_seq (pv 0) pe_int (fun _ _ => rfl)) (pe_ix ix_seq (pv 1) pe_int (fun _ _ => rfl))) pa_nil)))) pss_nil), ?_⟩
    rw [show start ["_law_a", "_law_b"] [u0, u1] = ([some u0, some u1] : L2.St) from rfl]
    obtain ⟨t1, e2, hm⟩ := bindS hm
    obtain ⟨t3, e4, hm⟩ := bindS hm
    obtain ⟨t5, e6, hm⟩ := bindS hm
    replace hm : some _ = some _ := hm
    obtain rfl := Option.some.inj hm
    exact q_ret w (ev_call (ea_cons (ev_mul (ev_fst (ev_var rfl f0)) (ev_fst (ev_var rfl f1)) e2) (ea_cons (ev_mul (ev_snd (ev_var rfl f0)) (ev_snd (ev_var rfl f1)) e4) ea_nil)) ⟨_, _, _, rfl, rfl, e6, rfl, rfl⟩) fun v9 B9 H9 x9 w9 h9 => k _ _ _ ((Ex.refl _).trans x9) w9 h9
noncomputable def m_l_ends (a0 : ((List Int) × Int)) (a1 : Int) : Option ((List (Int × Int)) × ((List Int) × Int)) :=
  Option.bind (m_l_take a0 a1) fun t3 =>
  Option.bind (small62 a1) fun t8 =>
  Option.bind (foldO (S := ((List (Int × Int)) × ((List Int) × Int))) (α := Int) (fun (s10 : ((List (Int × Int)) × ((List Int) × Int))) (x11 : Int) => (
    Option.bind ((if (decide (x11 = t3.1)) = true then (some (true, s10.2)) else (Option.bind (m_l_take s10.2 ((3 : Int))) fun t30 => some ((decide (t30.1 = (0 : Int))), t30.2)))) fun t32 =>
    Option.bind (if t32.1 = true then
      Option.bind (m_l_take t32.2 ((6 : Int))) fun t39 =>
      Option.bind (ixL ([(1 : Int), (1 : Int), (2 : Int), (3 : Int), (10 : Int), (1000 : Int)]) t39.1) fun t41 =>
      Option.bind (room s10.1.length) fun t43 =>
      some (((s10.1 ++ [(x11, t41)]), t39.2))
    else
      some ((s10.1, t32.2))
    ) fun (s36 : ((List (Int × Int)) × ((List Int) × Int))) =>
    some ((s36.1, s36.2))
  )) ((([] : List (Int × Int)), t3.2)) ((rng 0 a1))) fun s49 =>
  some (s49.1, s49.2)
def C__law_ends : List Arg → List Cell → Arg → List Cell → Prop := fun as L r L' => ∃ a0 a1 p0 c, as = [⟨rRef, p0⟩, ⟨rInt, a1⟩] ∧ L = [⟨p0, (cL2 (rLst rInt) rInt), a0⟩] ∧ m_l_ends a0 a1 = some c ∧ r = ⟨(rTup (rT2 rInt rInt)), c.1⟩ ∧ L' = [⟨p0, (cL2 (rLst rInt) rInt), c.2⟩]
theorem sc__law_ends : FnScope ["_law_state", "_law_many", "_law_ends_here", "_law_first", "_law_goal"] ["_law_state", "_law_many"] (defScope s__law_ends) := ⟨rfl, rfl, rfl, by decide +kernel, rfl, by decide +kernel, by decide +kernel⟩
set_option maxHeartbeats 4000000 in
theorem ok__law_ends (F : FunC K "_law_ends" s__law_ends f fd cc) (c__law_take : Cl P w K mg base 2 "_law_take" (spV K T C__law_take) []) (z_range : mg "range" = none) (z_tuple : mg "tuple" = none) : FnOk P w K mg base CX0 3 f fd ["_law_state", "_law_many"] (spV K T C__law_ends) := by
  refine F.ok sc__law_ends (fun vs H Q E h => ?_) (fun A outer s H vs Q E hr h => ?_)
  · obtain ⟨B, M, L, as, r, L', hT, w, ha, ⟨_, _, _, _, rfl, _⟩, k⟩ := h
    exact args_len ha
  · skip
    obtain ⟨B, M, L, as, r, L', rfl, w, ha, ⟨a0, a1, p0, c, rfl, rfl, hm, rfl, rfl⟩, k⟩ := h
    obtain ⟨u0, u1, rfl, f0, f1⟩ := args2 ha
    replace f0 : u0 = V.ref p0 := f0
    subst f0
    replace f1 : (rInt).is K B u1 a1 := f1
    unfold m_l_ends at hm
    refine ⟨_, (pss_cons (ps_set (i := 2) sc__law_ends.nd rfl (by first | exact Or.inl rfl | exact Or.inr rfl) (pe_lst pa_nil)) (pss_cons (ps_set (i := 3) sc__law_ends.nd rfl (by first | exact Or.inl rfl | exact Or.inr rfl) (pe_c c__law_take hr (by omega) rfl (pa_cons (pv 0) (pa_cons (pv 1) pa_nil)))) (pss_cons (ps_for PassesOwn.never rfl (pi_range1 rfl z_range (pa_cons (pv 1) pa_nil)) (pg_name (i := 4) sc__law_ends.nd rfl (by first | exact Or.inl rfl | exact Or.inr rfl)) (Evl.pss_cut (ps_if (PW.pt (pw_or (pt_cmpR op_eq (pv 4) (pv 3) (nomark _)) (pw_or1 (pt_cmpR op_eq (pe_c c__law_take hr (by omega) rfl (pa_cons (pv 0) (pa_cons pe_int pa_nil))) pe_int (nomark _))))) (pss_cons (ps_expr (pe_bm PySem.F.plainAttrs_list PySem.F.slot_list_append PySem.F.type_list_append mt_append (pv 2) (pa_cons (pe_tup (pa_cons (pv 4) (pa_cons (pe_ix ix_seq (pe_lst (pa_cons pe_int (pa_cons pe_int (pa_cons pe_int (pa_cons pe_int (pa_cons pe_int (pa_cons pe_int pa_nil))))))) (pe_c c__law_take hr (by omega) rfl (pa_cons (pv 0) (pa_cons pe_int pa_nil))) (fun _ _ => rfl)) pa_nil))) pa_nil))) pss_nil) pss_nil) pss_nil)) (pss_cons (ps_ret (pe_callTy call_tuple_of rfl z_tuple bt_tuple (pa_cons (pv 2) pa_nil))) pss_nil)))), ?_⟩
    rw [show start ["_law_state", "_law_many", "_law_ends_here", "_law_first", "_law_goal"] [.ref p0, u1] = ([some (.ref p0), some u1, none, none, none] : L2.St) from rfl]
    refine q_asgL (n := 2) w (el_lst (r := (rT2 rInt rInt)) ([] : List (Int × Int)) ea_nil) fun p2 B1 H1 x1 (w1 : Own K B1 M [⟨p2, (cLst (rT2 rInt rInt)), ([] : List (Int × Int))⟩, ⟨p0, (cL2 (rLst rInt) rInt), a0⟩] H1) => ?_
    obtain ⟨t3, e4, hm⟩ := bindS hm
    refine q_asg (n := 3) w1 (ev_callC 1 (x := ⟨p0, (cL2 (rLst rInt) rInt), a0⟩) (x' := ⟨p0, (cL2 (rLst rInt) rInt), t3.2⟩) (ea_cons (ev_varR rfl) (ea_cons (ev_varI rfl f1) ea_nil)) rfl ⟨_, _, _, _, rfl, rfl, e4, rfl, rfl⟩ rfl) fun v6 B5 H5 x5 (w5 : Own K B5 M [⟨p2, (cLst (rT2 rInt rInt)), ([] : List (Int × Int))⟩, ⟨p0, (cL2 (rLst rInt) rInt), t3.2⟩] H5) h7 => ?_
    obtain ⟨t8, e9, hm⟩ := bindS hm
    obtain ⟨s49, e14, hm⟩ := bindS hm
    refine q_fold w5 (ei_rng1 (ea_cons (ev_varI rfl f1) ea_nil) e9) _ (fun s10 B15 σ28 => ∃ o29, σ28 = [some (.ref p0), some u1, some (.ref p2), some v6, o29]) (fun s10 => [⟨p2, (cLst (rT2 rInt rInt)), s10.1⟩, ⟨p0, (cL2 (rLst rInt) rInt), s10.2⟩]) ((([] : List (Int × Int)), t3.2)) e14 (fun B9 x9 => ⟨_, rfl⟩) rfl ?_ ?_
    · skip
      rintro s10 x11 s56 v21 B15 B16 H17 σ28 hb12 x18 ⟨o29, rfl⟩ x19 w20 h22 N23 K24 hN25
      replace w20 : Own K B16 M [⟨p2, (cLst (rT2 rInt rInt)), s10.1⟩, ⟨p0, (cL2 (rLst rInt) rInt), s10.2⟩] H17 := w20
      refine g_name ?_
      obtain ⟨t32, e33, hb12⟩ := bindS hb12
      obtain ⟨s36, e37, hb12⟩ := bindS hb12
      refine q_cut (fun σ48 H47 => ∃ B47, Ex B16 B47 ∧ Own K B47 M [⟨p2, (cLst (rT2 rInt rInt)), s36.1⟩, ⟨p0, (cL2 (rLst rInt) rInt), s36.2⟩] H47 ∧ σ48 = [some (.ref p0), some u1, some (.ref p2), some v6, some v21]) ?_ ?_
      · skip
        refine q_ifc w20 (et_or' (d := t32.1) (et_test (ev_eqI (ev_varI rfl h22) (ev_varI rfl h7))) (fun hb34 => by rw [if_neg (by rw [hb34]; exact Bool.false_ne_true)] at e33; obtain ⟨t30, e31, e33⟩ := bindS e33; obtain rfl := Option.some.inj e33; exact (et_test (ev_eqI (ev_callC 1 (x := ⟨p0, (cL2 (rLst rInt) rInt), s10.2⟩) (x' := ⟨p0, (cL2 (rLst rInt) rInt), t30.2⟩) (ea_cons (ev_varR rfl) (ea_cons (ev_int (i := 3)) ea_nil)) rfl ⟨_, _, _, _, rfl, rfl, e31, rfl, rfl⟩ rfl) (ev_int (i := 0))))) (fun hb34 => by rw [if_pos hb34] at e33; obtain rfl := Option.some.inj e33; exact ⟨rfl, rfl⟩)) (fun hb35 B38 H38 x38 (w38 : Own K B38 M [⟨p2, (cLst (rT2 rInt rInt)), s10.1⟩, ⟨p0, (cL2 (rLst rInt) rInt), t32.2⟩] H38) => ?_) (fun hb35 B46 H46 x46 (w46 : Own K B46 M [⟨p2, (cLst (rT2 rInt rInt)), s10.1⟩, ⟨p0, (cL2 (rLst rInt) rInt), t32.2⟩] H46) => ?_)
        · skip
          rw [if_pos hb35] at e37
          obtain ⟨t39, e40, e37⟩ := bindS e37
          obtain ⟨t41, e42, e37⟩ := bindS e37
          obtain ⟨t43, e44, e37⟩ := bindS e37
          refine q_app (n := 0) (m := 2) w38 rfl (ev_T2 (ea_cons (ev_varI rfl h22) (ea_cons (ev_ix (ev_seqL (ev_frz (el_lst (r := rInt) [(1 : Int), (1 : Int), (2 : Int), (3 : Int), (10 : Int), (1000 : Int)] (ea_cons (ev_int (i := 1)) (ea_cons (ev_int (i := 1)) (ea_cons (ev_int (i := 2)) (ea_cons (ev_int (i := 3)) (ea_cons (ev_int (i := 10)) (ea_cons (ev_int (i := 1000)) ea_nil))))))))) (ev_callC 1 (x := ⟨p0, (cL2 (rLst rInt) rInt), t32.2⟩) (x' := ⟨p0, (cL2 (rLst rInt) rInt), t39.2⟩) (ea_cons (ev_varR rfl) (ea_cons (ev_int (i := 6)) ea_nil)) rfl ⟨_, _, _, _, rfl, rfl, e40, rfl, rfl⟩ rfl) e42) ea_nil))) rfl ⟨0, _, rfl⟩ e44 fun B45 H45 x45 (w45 : Own K B45 M [⟨p2, (cLst (rT2 rInt rInt)), (s10.1 ++ [(x11, t41)])⟩, ⟨p0, (cL2 (rLst rInt) rInt), t39.2⟩] H45) => ?_
          replace e37 : some _ = some _ := e37
          cases e37
          exact ⟨_, (x38.trans x45), w45, rfl⟩
        rw [if_neg (by rw [hb35]; exact Bool.false_ne_true)] at e37
        replace e37 : some _ = some _ := e37
        cases e37
        exact ⟨_, x46, w46, rfl⟩
      rintro σ48' H47 ⟨B47, x47, w47, rfl⟩
      replace hb12 : some _ = some _ := hb12
      cases hb12
      exact hN25 _ _ _ x47 w47 ⟨_, rfl⟩
    rintro B50 H51 σ54 x52 w53 ⟨o55, rfl⟩
    replace w53 : Own K B50 M [⟨p2, (cLst (rT2 rInt rInt)), s49.1⟩, ⟨p0, (cL2 (rLst rInt) rInt), s49.2⟩] H51 := w53
    replace hm : some _ = some _ := hm
    obtain rfl := Option.some.inj hm
    exact q_ret w53 (ev_tupOfC (n := 0) (ev_varR rfl) rfl) fun v9 B9 H9 x9 w9 h9 => k _ _ _ (((x1.trans x5).trans x52).trans x9) w9.tail h9
noncomputable def m_l_choices (a0 : ((List Int) × Int)) (a1 : Int) (a2 : Int) : Option ((List (Int × (List (Int × Int)))) × ((List Int) × Int)) :=
  Option.bind (m_l_take a0 a2) fun t3 =>
  Option.bind (small62 (((1 : Int) + t3.1))) fun t5 =>
  Option.bind (foldO (S := ((List (Int × (List (Int × Int)))) × ((List Int) × Int))) (α := Int) (fun (s7 : ((List (Int × (List (Int × Int)))) × ((List Int) × Int))) (x8 : Int) => (
    Option.bind (m_l_take s7.2 ((5 : Int))) fun t27 =>
    Option.bind (ixL ([(0 : Int), (1 : Int), (2 : Int), (5 : Int), (1000 : Int)]) t27.1) fun t29 =>
    Option.bind (m_l_ends t27.2 a1) fun t31 =>
    Option.bind (room s7.1.length) fun t33 =>
    some (((s7.1 ++ [(t29, t31.1)]), t31.2))
  )) ((([] : List (Int × (List (Int × Int)))), t3.2)) ((rng 0 (((1 : Int) + t3.1))))) fun s36 =>
  some (s36.1, s36.2)
def C__law_choices : List Arg → List Cell → Arg → List Cell → Prop := fun as L r L' => ∃ a0 a1 a2 p0 c, as = [⟨rRef, p0⟩, ⟨rInt, a1⟩, ⟨rInt, a2⟩] ∧ L = [⟨p0, (cL2 (rLst rInt) rInt), a0⟩] ∧ m_l_choices a0 a1 a2 = some c ∧ r = ⟨(rTup (rT2 rInt (rTup (rT2 rInt rInt)))), c.1⟩ ∧ L' = [⟨p0, (cL2 (rLst rInt) rInt), c.2⟩]
theorem sc__law_choices : FnScope ["_law_state", "_law_many", "_law_most", "_law_choices_here", "_law_k"] ["_law_state", "_law_many", "_law_most"] (defScope s__law_choices) := ⟨rfl, rfl, rfl, by decide +kernel, rfl, by decide +kernel, by decide +kernel⟩
set_option maxHeartbeats 4000000 in
theorem ok__law_choices (F : FunC K "_law_choices" s__law_choices f fd cc) (c__law_take : Cl P w K mg base 2 "_law_take" (spV K T C__law_take) []) (c__law_ends : Cl P w K mg base 3 "_law_ends" (spV K T C__law_ends) []) (z_range : mg "range" = none) (z_tuple : mg "tuple" = none) : FnOk P w K mg base CX0 4 f fd ["_law_state", "_law_many", "_law_most"] (spV K T C__law_choices) := by
  refine F.ok sc__law_choices (fun vs H Q E h => ?_) (fun A outer s H vs Q E hr h => ?_)
  · obtain ⟨B, M, L, as, r, L', hT, w, ha, ⟨_, _, _, _, _, rfl, _⟩, k⟩ := h
    exact args_len ha
  · skip
    obtain ⟨B, M, L, as, r, L', rfl, w, ha, ⟨a0, a1, a2, p0, c, rfl, rfl, hm, rfl, rfl⟩, k⟩ := h
    obtain ⟨u0, u1, u2, rfl, f0, f1, f2⟩ := args3 ha
    replace f0 : u0 = V.ref p0 := f0
    subst f0
    replace f1 : (rInt).is K B u1 a1 := f1
    replace f2 : (rInt).is K B u2 a2 := f2
    unfold m_l_choices at hm
    refine ⟨_, (pss_cons (ps_set (i := 3) sc__law_choices.nd rfl (by first | exact Or.inl rfl | exact Or.inr rfl) (pe_lst pa_nil)) (pss_cons (ps_for PassesOwn.never rfl (pi_range1 rfl z_range (pa_cons (pe_op op_add pe_int (pe_c c__law_take hr (by omega) rfl (pa_cons (pv 0) (pa_cons (pv 2) pa_nil)))) pa_nil)) (pg_name (i := 4) sc__law_choices.nd rfl (by first | exact Or.inl rfl | exact Or.inr rfl)) (pss_cons (ps_expr (pe_bm PySem.F.plainAttrs_list PySem.F.slot_list_append PySem.F.type_list_append mt_append (pv 3) (pa_cons (pe_tup (pa_cons (pe_ix ix_seq (pe_lst (pa_cons pe_int (pa_cons pe_int (pa_cons pe_int (pa_cons pe_int (pa_cons pe_int pa_nil)))))) (pe_c c__law_take hr (by omega) rfl (pa_cons (pv 0) (pa_cons pe_int pa_nil))) (fun _ _ => rfl)) (pa_cons (pe_c c__law_ends hr (by omega) rfl (pa_cons (pv 0) (pa_cons (pv 1) pa_nil))) pa_nil))) pa_nil))) pss_nil)) (pss_cons (ps_ret (pe_callTy call_tuple_of rfl z_tuple bt_tuple (pa_cons (pv 3) pa_nil))) pss_nil))), ?_⟩
    rw [show start ["_law_state", "_law_many", "_law_most", "_law_choices_here", "_law_k"] [.ref p0, u1, u2] = ([some (.ref p0), some u1, some u2, none, none] : L2.St) from rfl]
    refine q_asgL (n := 3) w (el_lst (r := (rT2 rInt (rTup (rT2 rInt rInt)))) ([] : List (Int × (List (Int × Int)))) ea_nil) fun p2 B1 H1 x1 (w1 : Own K B1 M [⟨p2, (cLst (rT2 rInt (rTup (rT2 rInt rInt)))), ([] : List (Int × (List (Int × Int))))⟩, ⟨p0, (cL2 (rLst rInt) rInt), a0⟩] H1) => ?_
    obtain ⟨t3, e4, hm⟩ := bindS hm
    obtain ⟨t5, e6, hm⟩ := bindS hm
    obtain ⟨s36, e11, hm⟩ := bindS hm
    refine q_fold w1 (ei_rng1 (ea_cons (ev_add (ev_int (i := 1)) (ev_callC 1 (x := ⟨p0, (cL2 (rLst rInt) rInt), a0⟩) (x' := ⟨p0, (cL2 (rLst rInt) rInt), t3.2⟩) (ea_cons (ev_varR rfl) (ea_cons (ev_varI rfl f2) ea_nil)) rfl ⟨_, _, _, _, rfl, rfl, e4, rfl, rfl⟩ rfl)) ea_nil) e6) _ (fun s7 B12 σ25 => ∃ o26, σ25 = [some (.ref p0), some u1, some u2, some (.ref p2), o26]) (fun s7 => [⟨p2, (cLst (rT2 rInt (rTup (rT2 rInt rInt)))), s7.1⟩, ⟨p0, (cL2 (rLst rInt) rInt), s7.2⟩]) ((([] : List (Int × (List (Int × Int)))), t3.2)) e11 (fun B9 x9 => ⟨_, rfl⟩) rfl ?_ ?_
    · skip
      rintro s7 x8 s43 v18 B12 B13 H14 σ25 hb9 x15 ⟨o26, rfl⟩ x16 w17 h19 N20 K21 hN22
      replace w17 : Own K B13 M [⟨p2, (cLst (rT2 rInt (rTup (rT2 rInt rInt)))), s7.1⟩, ⟨p0, (cL2 (rLst rInt) rInt), s7.2⟩] H14 := w17
      refine g_name ?_
      obtain ⟨t27, e28, hb9⟩ := bindS hb9
      obtain ⟨t29, e30, hb9⟩ := bindS hb9
      obtain ⟨t31, e32, hb9⟩ := bindS hb9
      obtain ⟨t33, e34, hb9⟩ := bindS hb9
      refine q_app (n := 0) (m := 3) w17 rfl (ev_T2 (ea_cons (ev_ix (ev_seqL (ev_frz (el_lst (r := rInt) [(0 : Int), (1 : Int), (2 : Int), (5 : Int), (1000 : Int)] (ea_cons (ev_int (i := 0)) (ea_cons (ev_int (i := 1)) (ea_cons (ev_int (i := 2)) (ea_cons (ev_int (i := 5)) (ea_cons (ev_int (i := 1000)) ea_nil)))))))) (ev_callC 1 (x := ⟨p0, (cL2 (rLst rInt) rInt), s7.2⟩) (x' := ⟨p0, (cL2 (rLst rInt) rInt), t27.2⟩) (ea_cons (ev_varR rfl) (ea_cons (ev_int (i := 5)) ea_nil)) rfl ⟨_, _, _, _, rfl, rfl, e28, rfl, rfl⟩ rfl) e30) (ea_cons (ev_callC 1 (x := ⟨p0, (cL2 (rLst rInt) rInt), t27.2⟩) (x' := ⟨p0, (cL2 (rLst rInt) rInt), t31.2⟩) (ea_cons (ev_varR rfl) (ea_cons (ev_varI rfl f1) ea_nil)) rfl ⟨_, _, _, _, rfl, rfl, e32, rfl, rfl⟩ rfl) ea_nil))) rfl ⟨0, _, rfl⟩ e34 fun B35 H35 x35 (w35 : Own K B35 M [⟨p2, (cLst (rT2 rInt (rTup (rT2 rInt rInt)))), (s7.1 ++ [(t29, t31.1)])⟩, ⟨p0, (cL2 (rLst rInt) rInt), t31.2⟩] H35) => ?_
      replace hb9 : some _ = some _ := hb9
      cases hb9
      exact hN22 _ _ _ x35 w35 ⟨_, rfl⟩
    rintro B37 H38 σ41 x39 w40 ⟨o42, rfl⟩
    replace w40 : Own K B37 M [⟨p2, (cLst (rT2 rInt (rTup (rT2 rInt rInt)))), s36.1⟩, ⟨p0, (cL2 (rLst rInt) rInt), s36.2⟩] H38 := w40
    replace hm : some _ = some _ := hm
    obtain rfl := Option.some.inj hm
    exact q_ret w40 (ev_tupOfC (n := 0) (ev_varR rfl) rfl) fun v9 B9 H9 x9 w9 h9 => k _ _ _ ((x1.trans x39).trans x9) w9.tail h9
noncomputable def m_l_system (a0 : ((List Int) × Int)) (a1 : Int) : Option ((List (List (Int × (List (Int × Int))))) × ((List Int) × Int)) :=
  Option.bind (m_l_take a0 a1) fun t1 =>
  Option.bind (small62 (((1 : Int) + t1.1))) fun t6 =>
  Option.bind (room ((rng 0 (((1 : Int) + t1.1)))).length) fun t34 =>
  Option.bind (compM (S := ((List Int) × Int)) (β := (List (Int × (List (Int × Int))))) (fun (s8 : ((List Int) × Int)) (x15 : Int) => (Option.bind (m_l_choices s8 (((1 : Int) + t1.1)) ((3 : Int))) fun t32 => some (some t32.1, t32.2))) t1.2 ((rng 0 (((1 : Int) + t1.1))))) fun t36 =>
  some (t36.1, t36.2)
def C__law_system : List Arg → List Cell → Arg → List Cell → Prop := fun as L r L' => ∃ a0 a1 p0 c, as = [⟨rRef, p0⟩, ⟨rInt, a1⟩] ∧ L = [⟨p0, (cL2 (rLst rInt) rInt), a0⟩] ∧ m_l_system a0 a1 = some c ∧ r = ⟨(rTup (rTup (rT2 rInt (rTup (rT2 rInt rInt))))), c.1⟩ ∧ L' = [⟨p0, (cL2 (rLst rInt) rInt), c.2⟩]
theorem sc__law_system : FnScope ["_law_state", "_law_most", "_law_many", "_law_k"] ["_law_state", "_law_most"] (defScope s__law_system) := ⟨rfl, rfl, rfl, by decide +kernel, rfl, by decide +kernel, by decide +kernel⟩
set_option maxHeartbeats 4000000 in
theorem ok__law_system (F : FunC K "_law_system" s__law_system f fd cc) (c__law_take : Cl P w K mg base 2 "_law_take" (spV K T C__law_take) []) (c__law_choices : Cl P w K mg base 4 "_law_choices" (spV K T C__law_choices) []) (z_range : mg "range" = none) (z_tuple : mg "tuple" = none) : FnOk P w K mg base CX0 5 f fd ["_law_state", "_law_most"] (spV K T C__law_system) := by
  refine F.ok sc__law_system (fun vs H Q E h => ?_) (fun A outer s H vs Q E hr h => ?_)
  · obtain ⟨B, M, L, as, r, L', hT, w, ha, ⟨_, _, _, _, rfl, _⟩, k⟩ := h
    exact args_len ha
  · skip
    obtain ⟨B, M, L, as, r, L', rfl, w, ha, ⟨a0, a1, p0, c, rfl, rfl, hm, rfl, rfl⟩, k⟩ := h
    obtain ⟨u0, u1, rfl, f0, f1⟩ := args2 ha
    replace f0 : u0 = V.ref p0 := f0
    subst f0
    replace f1 : (rInt).is K B u1 a1 := f1
    unfold m_l_system at hm
    refine ⟨_, (pss_cons (ps_set (i := 2) sc__law_system.nd rfl (by first | exact Or.inl rfl | exact Or.inr rfl) (pe_op op_add pe_int (pe_c c__law_take hr (by omega) rfl (pa_cons (pv 0) (pa_cons (pv 1) pa_nil))))) (pss_cons (ps_ret (pe_callTy call_tuple_of rfl z_tuple bt_tuple (pa_cons (pe_lc rfl sc__law_system.nd (pi_range1 rfl z_range (pa_cons (pv 2) pa_nil)) (blkOk_by (own := [("_law_k", 3)]) (show blkC ["_law_state", "_law_most", "_law_many", "_law_k"] (defScope s__law_system) _ _ = true by decide +kernel)) (fun _ _ _ _ _ => (pg_name (i := 3) sc__law_system.nd rfl (by first | exact Or.inl rfl | exact Or.inr rfl))) (fun _ _ _ _ _ => pts_nil) (fun _ _ _ _ _ => (pe_c c__law_choices hr (by omega) rfl (pa_cons (pv 0) (pa_cons (pv 2) (pa_cons pe_int pa_nil)))))) pa_nil))) pss_nil)), ?_⟩
    rw [show start ["_law_state", "_law_most", "_law_many", "_law_k"] [.ref p0, u1] = ([some (.ref p0), some u1, none, none] : L2.St) from rfl]
    obtain ⟨t1, e2, hm⟩ := bindS hm
    refine q_asg (n := 2) w (ev_add (ev_int (i := 1)) (ev_callC 0 (x := ⟨p0, (cL2 (rLst rInt) rInt), a0⟩) (x' := ⟨p0, (cL2 (rLst rInt) rInt), t1.2⟩) (ea_cons (ev_varR rfl) (ea_cons (ev_varI rfl f1) ea_nil)) rfl ⟨_, _, _, _, rfl, rfl, e2, rfl, rfl⟩ rfl)) fun v4 B3 H3 x3 (w3 : Own K B3 M [⟨p0, (cL2 (rLst rInt) rInt), t1.2⟩] H3) h5 => ?_
    obtain ⟨t6, e7, hm⟩ := bindS hm
    obtain ⟨t34, e35, hm⟩ := bindS hm
    obtain ⟨t36, e37, hm⟩ := bindS hm
    replace hm : some _ = some _ := hm
    obtain rfl := Option.some.inj hm
    exact q_ret w3 (ev_tupOfL (ev_frz (el_lc (S := ((List Int) × Int)) (ys := t36.1) (s1 := t36.2) (s0 := t1.2) (σ' := [some (.ref p0), some u1, some v4, none]) (rTup (rT2 rInt (rTup (rT2 rInt rInt)))) (ei_rng1 (ea_cons (ev_varI rfl h5) ea_nil) e7) _ (fun (s8 : ((List Int) × Int)) => [⟨p0, (cL2 (rLst rInt) rInt), s8⟩]) rfl e37 e35 rfl (by rintro s8 x15 o20 s21 v13 D18 a19 B9 H10 hb17 x11 w12 h14 PY22 PN23 qY24 qN25; replace w12 : Own K B9 M [⟨D18, (cLst (rTup (rT2 rInt (rTup (rT2 rInt rInt))))), a19⟩, ⟨p0, (cL2 (rLst rInt) rInt), s8⟩] H10 := w12; refine g_name ?_; refine ⟨rfl, ?_⟩; obtain ⟨t32, e33, hb17⟩ := bindS hb17; obtain ⟨rfl, rfl⟩ := Prod.mk.inj (Option.some.inj hb17); refine lc_yes ?_; exact (ev_callC 1 (x := ⟨p0, (cL2 (rLst rInt) rInt), s8⟩) (x' := ⟨p0, (cL2 (rLst rInt) rInt), t32.2⟩) (ea_cons (ev_varR rfl) (ea_cons (ev_varI rfl h5) (ea_cons (ev_int (i := 3)) ea_nil))) rfl ⟨_, _, _, _, _, rfl, rfl, e33, rfl, rfl⟩ rfl) B9 H10 (Ex.refl _) w12 _ fun v26 B27 H28 x29 w30 h31 => qY24 v26 B27 H28 _ rfl x29 w30 h31)))) fun v9 B9 H9 x9 w9 h9 => k _ _ _ (x3.trans x9) w9 h9
noncomputable def m_l_some (a0 : ((List Int) × Int)) (a1 : Int) (a2 : Int) : Option ((List Int) × ((List Int) × Int)) :=
  Option.bind (small62 a1) fun t1 =>
  Option.bind (room ((rng 0 a1)).length) fun t34 =>
  Option.bind (compM (S := ((List Int) × Int)) (β := Int) (fun (s3 : ((List Int) × Int)) (x10 : Int) => (Option.bind (m_l_take s3 a2) fun t27 => if (decide (t27.1 = (0 : Int))) = true then ( some (some x10, t27.2)) else some (none, t27.2))) a0 ((rng 0 a1))) fun t36 =>
  Option.bind (m_l_take t36.2 ((2 : Int))) fun t41 =>
  Option.bind (if (decide (t41.1 = (0 : Int))) = true then
    some ((t36.1.reverse, t41.2))
  else
    some ((t36.1, t41.2))
  ) fun (s44 : ((List Int) × ((List Int) × Int))) =>
  some (s44.1, s44.2)
def C__law_some : List Arg → List Cell → Arg → List Cell → Prop := fun as L r L' => ∃ a0 a1 a2 p0 c, as = [⟨rRef, p0⟩, ⟨rInt, a1⟩, ⟨rInt, a2⟩] ∧ L = [⟨p0, (cL2 (rLst rInt) rInt), a0⟩] ∧ m_l_some a0 a1 a2 = some c ∧ r = ⟨(rLst rInt), c.1⟩ ∧ L' = [⟨p0, (cL2 (rLst rInt) rInt), c.2⟩]
theorem sc__law_some : FnScope ["_law_state", "_law_many", "_law_share", "_law_found", "_law_k"] ["_law_state", "_law_many", "_law_share"] (defScope s__law_some) := ⟨rfl, rfl, rfl, by decide +kernel, rfl, by decide +kernel, by decide +kernel⟩
set_option maxHeartbeats 4000000 in
theorem ok__law_some (F : FunC K "_law_some" s__law_some f fd cc) (c__law_take : Cl P w K mg base 2 "_law_take" (spV K T C__law_take) []) (z_range : mg "range" = none) : FnOk P w K mg base CX0 3 f fd ["_law_state", "_law_many", "_law_share"] (spV K T C__law_some) := by
  refine F.ok sc__law_some (fun vs H Q E h => ?_) (fun A outer s H vs Q E hr h => ?_)
  · obtain ⟨B, M, L, as, r, L', hT, w, ha, ⟨_, _, _, _, _, rfl, _⟩, k⟩ := h
    exact args_len ha
  · skip
    obtain ⟨B, M, L, as, r, L', rfl, w, ha, ⟨a0, a1, a2, p0, c, rfl, rfl, hm, rfl, rfl⟩, k⟩ := h
    obtain ⟨u0, u1, u2, rfl, f0, f1, f2⟩ := args3 ha
    replace f0 : u0 = V.ref p0 := f0
    subst f0
    replace f1 : (rInt).is K B u1 a1 := f1
    replace f2 : (rInt).is K B u2 a2 := f2
    unfold m_l_some at hm
    refine ⟨_, (pss_cons (ps_setLc (i := 3) rfl sc__law_some.nd rfl rfl rfl (pi_range1 rfl z_range (pa_cons (pv 1) pa_nil)) (blkOk_by (own := [("_law_k", 4)]) (show blkC ["_law_state", "_law_many", "_law_share", "_law_found", "_law_k"] (defScope s__law_some) _ _ = true by decide +kernel)) (fun _ _ _ _ _ => (pg_name (i := 4) sc__law_some.nd rfl (by first | exact Or.inl rfl | exact Or.inr rfl))) (fun _ _ _ _ _ => (pts_one (pt_cmpR op_eq (pe_c c__law_take hr (by omega) rfl (pa_cons (pv 0) (pa_cons (pv 2) pa_nil))) pe_int (nomark _)))) (fun _ _ _ _ _ => (pv 4))) (Evl.pss_cut (ps_if (pt_cmpR op_eq (pe_c c__law_take hr (by omega) rfl (pa_cons (pv 0) (pa_cons pe_int pa_nil))) pe_int (nomark _)) (pss_cons (ps_set (i := 3) sc__law_some.nd rfl (by first | exact Or.inl rfl | exact Or.inr rfl) (pe_revL (pv 3))) pss_nil) pss_nil) (pss_cons (ps_ret (pv 3)) pss_nil))), ?_⟩
    rw [show start ["_law_state", "_law_many", "_law_share", "_law_found", "_law_k"] [.ref p0, u1, u2] = ([some (.ref p0), some u1, some u2, none, none] : L2.St) from rfl]
    obtain ⟨t1, e2, hm⟩ := bindS hm
    obtain ⟨t34, e35, hm⟩ := bindS hm
    obtain ⟨t36, e37, hm⟩ := bindS hm
    refine q_asg (n := 3) w (ev_frz (el_lc (S := ((List Int) × Int)) (ys := t36.1) (s1 := t36.2) (s0 := a0) (σ' := [some (.ref p0), some u1, some u2, none, none]) rInt (ei_rng1 (ea_cons (ev_varI rfl f1) ea_nil) e2) _ (fun (s3 : ((List Int) × Int)) => [⟨p0, (cL2 (rLst rInt) rInt), s3⟩]) rfl e37 e35 rfl (by rintro s3 x10 o15 s16 v8 D13 a14 B4 H5 hb12 x6 w7 h9 PY17 PN18 qY19 qN20; replace w7 : Own K B4 M [⟨D13, (cLst rInt), a14⟩, ⟨p0, (cL2 (rLst rInt) rInt), s3⟩] H5 := w7; refine g_name ?_; refine ⟨rfl, ?_⟩; obtain ⟨t27, e28, hb12⟩ := bindS hb12; exact (et_test (ev_eqI (ev_callC 1 (x := ⟨p0, (cL2 (rLst rInt) rInt), s3⟩) (x' := ⟨p0, (cL2 (rLst rInt) rInt), t27.2⟩) (ea_cons (ev_varR rfl) (ea_cons (ev_varI rfl f2) ea_nil)) rfl ⟨_, _, _, _, rfl, rfl, e28, rfl, rfl⟩ rfl) (ev_int (i := 0)))) B4 H5 (Ex.refl _) w7 _ fun B29 H30 x31 (w32 : Own K B29 M [⟨D13, (cLst rInt), a14⟩, ⟨p0, (cL2 (rLst rInt) rInt), t27.2⟩] H30) => lc_if (fun hq33 => by rw [if_pos hq33] at hb12; obtain ⟨rfl, rfl⟩ := Prod.mk.inj (Option.some.inj hb12); exact (ev_varI rfl h9) B29 H30 (Ex.refl _) w32 _ fun v21 B22 H23 x24 w25 h26 => qY19 v21 B22 H23 _ rfl (x31.trans x24) w25 h26) (fun hq33 => by rw [if_neg (by rw [hq33]; exact Bool.false_ne_true)] at hb12; obtain ⟨rfl, rfl⟩ := Prod.mk.inj (Option.some.inj hb12); exact qN20 B29 H30 rfl x31 w32)))) fun v39 B38 H38 x38 (w38 : Own K B38 M [⟨p0, (cL2 (rLst rInt) rInt), t36.2⟩] H38) h40 => ?_
    obtain ⟨t41, e42, hm⟩ := bindS hm
    obtain ⟨s44, e45, hm⟩ := bindS hm
    refine q_cut (fun σ54 H51 => ∃ v52 B51, Ex B38 B51 ∧ Own K B51 M [⟨p0, (cL2 (rLst rInt) rInt), s44.2⟩] H51 ∧ σ54 = [some (.ref p0), some u1, some u2, some v52, none] ∧ ((rLst rInt)).is K B51 v52 s44.1) ?_ ?_
    · skip
      refine q_ifc w38 (et_test (ev_eqI (ev_callC 0 (x := ⟨p0, (cL2 (rLst rInt) rInt), t36.2⟩) (x' := ⟨p0, (cL2 (rLst rInt) rInt), t41.2⟩) (ea_cons (ev_varR rfl) (ea_cons (ev_int (i := 2)) ea_nil)) rfl ⟨_, _, _, _, rfl, rfl, e42, rfl, rfl⟩ rfl) (ev_int (i := 0)))) (fun hb43 B46 H46 x46 (w46 : Own K B46 M [⟨p0, (cL2 (rLst rInt) rInt), t41.2⟩] H46) => ?_) (fun hb43 B50 H50 x50 (w50 : Own K B50 M [⟨p0, (cL2 (rLst rInt) rInt), t41.2⟩] H50) => ?_)
      · skip
        rw [if_pos hb43] at e45
        refine q_asg (n := 3) w46 (ev_frz (el_revL (ev_var rfl (((rLst rInt)).mono x46 h40)))) fun v48 B47 H47 x47 (w47 : Own K B47 M [⟨p0, (cL2 (rLst rInt) rInt), t41.2⟩] H47) h49 => ?_
        replace e45 : some _ = some _ := e45
        cases e45
        exact ⟨v48, _, (x46.trans x47), w47, rfl, h49⟩
      rw [if_neg (by rw [hb43]; exact Bool.false_ne_true)] at e45
      replace e45 : some _ = some _ := e45
      cases e45
      exact ⟨v39, _, x50, w50, rfl, (((rLst rInt)).mono x50 h40)⟩
    rintro σ54' H51 ⟨v52, B51, x51, w51, rfl, h53⟩
    replace hm : some _ = some _ := hm
    obtain rfl := Option.some.inj hm
    exact q_ret w51 (ev_var rfl h53) fun v9 B9 H9 x9 w9 h9 => k _ _ _ ((x38.trans x51).trans x9) w9 h9
noncomputable def m_l_mean (a0 : (List (Int × Int))) (a1 : (List (Int × Int))) : Option (Int × Int) :=
  Option.bind (room a0.length) fun t25 =>
  Option.bind (compM (S := Unit) (β := Int) (fun (s1 : Unit) (x8 : (Int × Int)) => ( some (some x8.2, ()))) (()) a0) fun t27 =>
  Option.bind (foldO (S := (Int × Int)) (α := (Int × Int)) (fun (s35 : (Int × Int)) (x36 : (Int × Int)) => (
    Option.bind (m_l_ratio x36.2 t27.1.sum) fun t62 =>
    Option.bind (ixL a1 x36.1) fun t64 =>
    Option.bind (m_l_times t62 t64) fun t66 =>
    Option.bind (m_l_plus s35 t66) fun t68 =>
    some t68
  )) (((0 : Int), (1 : Int))) a0) fun s73 =>
  some s73
def C__law_mean : List Arg → List Cell → Arg → List Cell → Prop := fun as L r L' => ∃ a0 a1 c, as = [⟨(rTup (rT2 rInt rInt)), a0⟩, ⟨(rLst (rT2 rInt rInt)), a1⟩] ∧ L = [] ∧ m_l_mean a0 a1 = some c ∧ r = ⟨(rT2 rInt rInt), c⟩ ∧ L' = []
theorem sc__law_mean : FnScope ["_law_ends_here", "_law_values", "_law_whole", "_law_total", "_law_goal", "_law_weight", "_law_end"] ["_law_ends_here", "_law_values"] (defScope s__law_mean) := ⟨rfl, rfl, rfl, by decide +kernel, rfl, by decide +kernel, by decide +kernel⟩
set_option maxHeartbeats 4000000 in
theorem ok__law_mean (F : FunC K "_law_mean" s__law_mean f fd cc) (c__law_plus : Cl P w K mg base 2 "_law_plus" (spV K T C__law_plus) []) (c__law_times : Cl P w K mg base 2 "_law_times" (spV K T C__law_times) []) (c__law_ratio : Cl P w K mg base 1 "_law_ratio" (spV K T C__law_ratio) []) (z_sum : mg "sum" = none) : FnOk P w K mg base CX0 3 f fd ["_law_ends_here", "_law_values"] (spV K T C__law_mean) := by
  refine F.ok sc__law_mean (fun vs H Q E h => ?_) (fun A outer s H vs Q E hr h => ?_)
  · obtain ⟨B, M, L, as, r, L', hT, w, ha, ⟨_, _, _, rfl, _⟩, k⟩ := h
    exact args_len ha
  · skip
    obtain ⟨B, M, L, as, r, L', rfl, w, ha, ⟨a0, a1, c, rfl, rfl, hm, rfl, rfl⟩, k⟩ := h
    obtain ⟨u0, u1, rfl, f0, f1⟩ := args2 ha
    replace f0 : ((rTup (rT2 rInt rInt))).is K B u0 a0 := f0
    replace f1 : ((rLst (rT2 rInt rInt))).is K B u1 a1 := f1
    unfold m_l_mean at hm
    refine ⟨_, (pss_cons (ps_set (i := 2) sc__law_mean.nd rfl (by first | exact Or.inl rfl | exact Or.inr rfl) (pe_callB (cr_sum rfl) rfl z_sum bt_sum (pa_cons (pe_lc rfl sc__law_mean.nd (pi_tup (pv 0)) (blkOk_by (own := [("_law_end", 6)]) (show blkC ["_law_ends_here", "_law_values", "_law_whole", "_law_total", "_law_goal", "_law_weight", "_law_end"] (defScope s__law_mean) _ _ = true by decide +kernel)) (fun _ _ _ _ _ => (pg_name (i := 6) sc__law_mean.nd rfl (by first | exact Or.inl rfl | exact Or.inr rfl))) (fun _ _ _ _ _ => pts_nil) (fun _ _ _ _ _ => (pe_ix (show IxR _ (rIx K) from ix_seq) (pv 6) pe_int (fun _ _ => rfl)))) pa_nil))) (pss_cons (ps_set (i := 3) sc__law_mean.nd rfl (by first | exact Or.inl rfl | exact Or.inr rfl) (pe_tup (pa_cons pe_int (pa_cons pe_int pa_nil)))) (pss_cons (ps_for PassesOwn.never rfl (pi_tup (pv 0)) (pg_tup rfl (pgs_cons (pg_name (i := 4) sc__law_mean.nd rfl (by first | exact Or.inl rfl | exact Or.inr rfl)) (pgs_cons (pg_name (i := 5) sc__law_mean.nd rfl (by first | exact Or.inl rfl | exact Or.inr rfl)) pgs_nil))) (pss_cons (ps_set (i := 3) sc__law_mean.nd rfl (by first | exact Or.inl rfl | exact Or.inr rfl) (pe_c c__law_plus hr (by omega) rfl (pa_cons (pv 3) (pa_cons (pe_c c__law_times hr (by omega) rfl (pa_cons (pe_c c__law_ratio hr (by omega) rfl (pa_cons (pv 5) (pa_cons (pv 2) pa_nil))) (pa_cons (pe_ix ix_seq (pv 1) (pv 4) (fun _ _ => rfl)) pa_nil))) pa_nil)))) pss_nil)) (pss_cons (ps_ret (pv 3)) pss_nil)))), ?_⟩
    rw [show start ["_law_ends_here", "_law_values", "_law_whole", "_law_total", "_law_goal", "_law_weight", "_law_end"] [u0, u1] = ([some u0, some u1, none, none, none, none, none] : L2.St) from rfl]
    obtain ⟨t25, e26, hm⟩ := bindS hm
    obtain ⟨t27, e28, hm⟩ := bindS hm
    refine q_asg (n := 2) w (ev_sumL (ev_frz (el_lc (S := Unit) (ys := t27.1) (s1 := t27.2) (s0 := ()) (σ' := [some u0, some u1, none, none, none, none, none]) rInt (ei_tup (ev_var rfl f0)) _ (fun (s1 : Unit) => []) rfl e28 e26 rfl (by rintro s1 x8 o13 s14 v6 D11 a12 B2 H3 hb10 x4 w5 h7 PY15 PN16 qY17 qN18; replace w5 : Own K B2 M [⟨D11, (cLst rInt), a12⟩] H3 := w5; refine g_name ?_; refine ⟨rfl, ?_⟩; obtain ⟨rfl, rfl⟩ := Prod.mk.inj (Option.some.inj hb10); refine lc_yes ?_; exact (ev_snd (ev_var rfl h7)) B2 H3 (Ex.refl _) w5 _ fun v19 B20 H21 x22 w23 h24 => qY17 v19 B20 H21 _ rfl x22 w23 h24)))) fun v30 B29 H29 x29 (w29 : Own K B29 M [] H29) h31 => ?_
    refine q_asg (n := 3) w29 (ev_T2 (ea_cons (ev_int (i := 0)) (ea_cons (ev_int (i := 1)) ea_nil))) fun v33 B32 H32 x32 (w32 : Own K B32 M [] H32) h34 => ?_
    obtain ⟨s73, e39, hm⟩ := bindS hm
    refine q_fold w32 (ei_tup (ev_var rfl (((rTup (rT2 rInt rInt))).mono (x29.trans x32) f0))) _ (fun s35 B40 σ53 => ∃ v54 o56 o57, σ53 = [some u0, some u1, some v30, some v54, o56, o57, none] ∧ ((rT2 rInt rInt)).is K B40 v54 s35) (fun s35 => []) (((0 : Int), (1 : Int))) e39 (fun B9 x9 => ⟨v33, _, _, rfl, (((rT2 rInt rInt)).mono x9 h34)⟩) rfl ?_ ?_
    · skip
      rintro s35 x36 s83 v46 B40 B41 H42 σ53 hb37 x43 ⟨v54, o56, o57, rfl, h55⟩ x44 w45 h47 N48 K49 hN50
      replace w45 : Own K B41 M [] H42 := w45
      refine g_T2 h47 w45 fun v58 v59 h60 h61 => ?_
      refine g_cons ?_
      refine g_name ?_
      refine g_cons ?_
      refine g_name ?_
      refine g_nil ?_
      obtain ⟨t62, e63, hb37⟩ := bindS hb37
      obtain ⟨t64, e65, hb37⟩ := bindS hb37
      obtain ⟨t66, e67, hb37⟩ := bindS hb37
      obtain ⟨t68, e69, hb37⟩ := bindS hb37
      refine q_asg (n := 3) w45 (ev_call (ea_cons (ev_var rfl (((rT2 rInt rInt)).mono x44 h55)) (ea_cons (ev_call (ea_cons (ev_call (ea_cons (ev_varI rfl h61) (ea_cons (ev_varI rfl h31) ea_nil)) ⟨_, _, _, rfl, rfl, e63, rfl, rfl⟩) (ea_cons (ev_ix (ev_seqL (ev_var rfl (((rLst (rT2 rInt rInt))).mono (((x29.trans x32).trans x43).trans x44) f1))) (ev_varI rfl h60) e65) ea_nil)) ⟨_, _, _, rfl, rfl, e67, rfl, rfl⟩) ea_nil)) ⟨_, _, _, rfl, rfl, e69, rfl, rfl⟩) fun v71 B70 H70 x70 (w70 : Own K B70 M [] H70) h72 => ?_
      replace hb37 : some _ = some _ := hb37
      cases hb37
      exact hN50 _ _ _ x70 w70 ⟨v71, _, _, rfl, h72⟩
    rintro B74 H75 σ78 x76 w77 ⟨v79, o81, o82, rfl, h80⟩
    replace w77 : Own K B74 M [] H75 := w77
    replace hm : some _ = some _ := hm
    obtain rfl := Option.some.inj hm
    exact q_ret w77 (ev_var rfl h80) fun v9 B9 H9 x9 w9 h9 => k _ _ _ (((x29.trans x32).trans x76).trans x9) w9 h9
noncomputable def m_l_less (a0 : (Int × Int)) (a1 : (Int × Int)) : Option Bool :=
  Option.bind (mulI a0.1 a1.2) fun t1 =>
  Option.bind (mulI a1.1 a0.2) fun t3 =>
  some (decide (t1 < t3))
def C__law_less : List Arg → List Cell → Arg → List Cell → Prop := fun as L r L' => ∃ a0 a1 c, as = [⟨(rT2 rInt rInt), a0⟩, ⟨(rT2 rInt rInt), a1⟩] ∧ L = [] ∧ m_l_less a0 a1 = some c ∧ r = ⟨rBool, c⟩ ∧ L' = []
theorem sc__law_less : FnScope ["_law_one", "_law_other"] ["_law_one", "_law_other"] (defScope s__law_less) := ⟨rfl, rfl, rfl, by decide +kernel, rfl, by decide +kernel, by decide +kernel⟩
set_option maxHeartbeats 4000000 in
theorem ok__law_less (F : FunC K "_law_less" s__law_less f fd cc)  : FnOk P w K mg base CX0 1 f fd ["_law_one", "_law_other"] (spV K T C__law_less) := by
  refine F.ok sc__law_less (fun vs H Q E h => ?_) (fun A outer s H vs Q E hr h => ?_)
  · obtain ⟨B, M, L, as, r, L', hT, w, ha, ⟨_, _, _, rfl, _⟩, k⟩ := h
    exact args_len ha
  · skip
    obtain ⟨B, M, L, as, r, L', rfl, w, ha, ⟨a0, a1, c, rfl, rfl, hm, rfl, rfl⟩, k⟩ := h
    obtain ⟨u0, u1, rfl, f0, f1⟩ := args2 ha
    replace f0 : ((rT2 rInt rInt)).is K B u0 a0 := f0
    replace f1 : ((rT2 rInt rInt)).is K B u1 a1 := f1
    unfold m_l_less at hm
    refine ⟨_, (pss_cons (ps_ret (pe_cmpR op_lt (pe_op op_mulX (pe_ix ix_seq (pv 0) pe_int (fun _ _ => rfl)) (pe_ix ix_seq (pv 1) pe_int (fun _ _ => rfl))) (pe_op op_mulX (pe_ix ix_seq (pv 1) pe_int (fun _ _ => rfl)) (pe_ix ix_seq (pv 0) pe_int (fun _ _ => rfl))) (nomark _))) pss_nil), ?_⟩
    rw [show start ["_law_one", "_law_other"] [u0, u1] = ([some u0, some u1] : L2.St) from rfl]
    obtain ⟨t1, e2, hm⟩ := bindS hm
    obtain ⟨t3, e4, hm⟩ := bindS hm
    replace hm : some _ = some _ := hm
    obtain rfl := Option.some.inj hm
    exact q_ret w (ev_lt (ev_mul (ev_fst (ev_var rfl f0)) (ev_snd (ev_var rfl f1)) e2) (ev_mul (ev_fst (ev_var rfl f1)) (ev_snd (ev_var rfl f0)) e4)) fun v9 B9 H9 x9 w9 h9 => k _ _ _ ((Ex.refl _).trans x9) w9 h9
noncomputable def m_l_even (a0 : (List (Int × (List (Int × Int))))) : Option (List (Int × (List (Int × Int)))) :=
  Option.bind (room a0.length) fun t57 =>
  Option.bind (compM (S := Unit) (β := (Int × (List (Int × Int)))) (fun (s1 : Unit) (x8 : (Int × (List (Int × Int)))) => (Option.bind (room x8.2.length) fun t53 => Option.bind (compM (S := Unit) (β := (Int × Int)) (fun (s29 : Unit) (x36 : (Int × Int)) => ( some (some ((x36.1, (1 : Int))), ()))) (()) x8.2) fun t55 => some (some ((x8.1, t55.1)), ()))) (()) a0) fun t59 =>
  some t59.1
def C__law_even : List Arg → List Cell → Arg → List Cell → Prop := fun as L r L' => ∃ a0 c, as = [⟨(rTup (rT2 rInt (rTup (rT2 rInt rInt)))), a0⟩] ∧ L = [] ∧ m_l_even a0 = some c ∧ r = ⟨(rTup (rT2 rInt (rTup (rT2 rInt rInt)))), c⟩ ∧ L' = []
theorem sc__law_even : FnScope ["_law_choices_here", "_law_cost", "_law_ends_here", "_law_end"] ["_law_choices_here"] (defScope s__law_even) := ⟨rfl, rfl, rfl, by decide +kernel, rfl, by decide +kernel, by decide +kernel⟩
set_option maxHeartbeats 4000000 in
theorem ok__law_even (F : FunC K "_law_even" s__law_even f fd cc) (z_tuple : mg "tuple" = none) : FnOk P w K mg base CX0 1 f fd ["_law_choices_here"] (spV K T C__law_even) := by
  refine F.ok sc__law_even (fun vs H Q E h => ?_) (fun A outer s H vs Q E hr h => ?_)
  · obtain ⟨B, M, L, as, r, L', hT, w, ha, ⟨_, _, rfl, _⟩, k⟩ := h
    exact args_len ha
  · skip
    obtain ⟨B, M, L, as, r, L', rfl, w, ha, ⟨a0, c, rfl, rfl, hm, rfl, rfl⟩, k⟩ := h
    obtain ⟨u0, rfl, f0⟩ := args1 ha
    replace f0 : ((rTup (rT2 rInt (rTup (rT2 rInt rInt))))).is K B u0 a0 := f0
    unfold m_l_even at hm
    refine ⟨_, (pss_cons (ps_ret (pe_callTy call_tuple_of rfl z_tuple bt_tuple (pa_cons (pe_lc rfl sc__law_even.nd (pi_tup (pv 0)) (blkOk_by (own := [("_law_cost", 1), ("_law_ends_here", 2)]) (show blkC ["_law_choices_here", "_law_cost", "_law_ends_here", "_law_end"] (defScope s__law_even) _ _ = true by decide +kernel)) (fun _ _ _ _ _ => (show PG _ _ (gTup K 2 (gCons (gName 1) (gCons (gName 2) gNil))) from (pg_tup rfl (pgs_cons (pg_name (i := 1) sc__law_even.nd rfl (by first | exact Or.inl rfl | exact Or.inr rfl)) (pgs_cons (pg_name (i := 2) sc__law_even.nd rfl (by first | exact Or.inl rfl | exact Or.inr rfl)) pgs_nil))))) (fun _ _ _ _ _ => pts_nil) (fun _ _ _ _ _ => (pe_tup (pa_cons (pv 1) (pa_cons (pe_callTy (show CallR _ _ (rTupOf K) from call_tuple_of) rfl z_tuple bt_tuple (pa_cons (pe_lc rfl sc__law_even.nd (show PI _ _ _ (iTup K _) from pi_tup (pv 2)) (blkOk_by (own := [("_law_end", 3)]) (by kernel_rfl)) (fun _ _ _ _ _ => (pg_name (i := 3) sc__law_even.nd rfl (by first | exact Or.inl rfl | exact Or.inr rfl))) (fun _ _ _ _ _ => pts_nil) (fun _ _ _ _ _ => (pe_tup (pa_cons (pe_ix (show IxR _ (rIx K) from ix_seq) (pv 3) pe_int (fun _ _ => rfl)) (pa_cons pe_int pa_nil))))) pa_nil)) pa_nil))))) pa_nil))) pss_nil), ?_⟩
    rw [show start ["_law_choices_here", "_law_cost", "_law_ends_here", "_law_end"] [u0] = ([some u0, none, none, none] : L2.St) from rfl]
    obtain ⟨t57, e58, hm⟩ := bindS hm
    obtain ⟨t59, e60, hm⟩ := bindS hm
    replace hm : some _ = some _ := hm
    obtain rfl := Option.some.inj hm
    exact q_ret w (ev_tupOfL (ev_frz (el_lc (S := Unit) (ys := t59.1) (s1 := t59.2) (s0 := ()) (σ' := [some u0, none, none, none]) (rT2 rInt (rTup (rT2 rInt rInt))) (ei_tup (ev_var rfl f0)) _ (fun (s1 : Unit) => []) rfl e60 e58 rfl (by rintro s1 x8 o13 s14 v6 D11 a12 B2 H3 hb10 x4 w5 h7 PY15 PN16 qY17 qN18; replace w5 : Own K B2 M [⟨D11, (cLst (rT2 rInt (rTup (rT2 rInt rInt)))), a12⟩] H3 := w5; refine g_T2 h7 w5 fun v19 v20 h21 h22 => ?_; refine g_cons ?_; refine g_name ?_; refine g_cons ?_; refine g_name ?_; refine g_nil ?_; refine ⟨rfl, ?_⟩; obtain ⟨t53, e54, hb10⟩ := bindS hb10; obtain ⟨t55, e56, hb10⟩ := bindS hb10; obtain ⟨rfl, rfl⟩ := Prod.mk.inj (Option.some.inj hb10); refine lc_yes ?_; exact (ev_T2 (ea_cons (ev_varI rfl h21) (ea_cons (ev_tupOfL (ev_frz (el_lc (S := Unit) (ys := t55.1) (s1 := t55.2) (s0 := ()) (σ' := [some u0, some v19, some v20, none]) (rT2 rInt rInt) (ei_tup (ev_var rfl h22)) _ (fun (s29 : Unit) => [⟨D11, (cLst (rT2 rInt (rTup (rT2 rInt rInt)))), a12⟩]) rfl e56 e54 rfl (by rintro s29 x36 o41 s42 v34 D39 a40 B30 H31 hb38 x32 w33 h35 PY43 PN44 qY45 qN46; replace w33 : Own K B30 M [⟨D39, (cLst (rT2 rInt rInt)), a40⟩, ⟨D11, (cLst (rT2 rInt (rTup (rT2 rInt rInt)))), a12⟩] H31 := w33; refine g_name ?_; refine ⟨rfl, ?_⟩; obtain ⟨rfl, rfl⟩ := Prod.mk.inj (Option.some.inj hb38); refine lc_yes ?_; exact (ev_T2 (ea_cons (ev_fst (ev_var rfl h35)) (ea_cons (ev_int (i := 1)) ea_nil))) B30 H31 (Ex.refl _) w33 _ fun v47 B48 H49 x50 w51 h52 => qY45 v47 B48 H49 _ rfl x50 w51 h52)))) ea_nil))) B2 H3 (Ex.refl _) w5 _ fun v23 B24 H25 x26 w27 h28 => qY17 v23 B24 H25 _ rfl x26 w27 h28)))) fun v9 B9 H9 x9 w9 h9 => k _ _ _ ((Ex.refl _).trans x9) w9 h9
noncomputable def m_l_large (a0 : ((List Int) × Int)) (a1 : Int) : Option ((List (List (Int × (List (Int × Int))))) × ((List Int) × Int)) :=
  Option.bind (small62 a1) fun t3 =>
  Option.bind (foldO (S := ((List (List (Int × (List (Int × Int))))) × ((List Int) × Int))) (α := Int) (fun (s5 : ((List (List (Int × (List (Int × Int))))) × ((List Int) × Int))) (x6 : Int) => (
    Option.bind (m_l_take s5.2 ((3 : Int))) fun t31 =>
    Option.bind (ixL ([(1 : Int), (2 : Int), (6 : Int)]) t31.1) fun t33 =>
    Option.bind (small62 t33) fun t35 =>
    Option.bind (foldO (S := ((List (Int × (List (Int × Int)))) × ((List Int) × Int))) (α := Int) (fun (s37 : ((List (Int × (List (Int × Int)))) × ((List Int) × Int))) (x38 : Int) => (
      Option.bind (m_l_take s37.2 ((6 : Int))) fun t61 =>
      Option.bind (small62 (((1 : Int) + t61.1))) fun t63 =>
      Option.bind (foldO (S := ((List (Int × Int)) × ((List Int) × Int))) (α := Int) (fun (s65 : ((List (Int × Int)) × ((List Int) × Int))) (x66 : Int) => (
        Option.bind (m_l_take s65.2 ((5 : Int))) fun t85 =>
        Option.bind (ixL ([(1 : Int), (1 : Int), (2 : Int), (5 : Int), (1000 : Int)]) t85.1) fun t87 =>
        Option.bind (m_l_take t85.2 a1) fun t89 =>
        Option.bind (room s65.1.length) fun t91 =>
        some (((putI s65.1 t89.1 t87), t89.2))
      )) (([], t61.2)) ((rng 0 (((1 : Int) + t61.1))))) fun s94 =>
      Option.bind (m_l_take s94.2 ((1001 : Int))) fun t101 =>
      Option.bind (room s37.1.length) fun t103 =>
      some (((s37.1 ++ [(t101.1, (sortI s94.1))]), t101.2))
    )) ((([] : List (Int × (List (Int × Int)))), t31.2)) ((rng 0 t33))) fun s107 =>
    Option.bind (room s5.1.length) fun t116 =>
    some (((s5.1 ++ [s107.1]), s107.2))
  )) ((([] : List (List (Int × (List (Int × Int))))), a0)) ((rng 0 a1))) fun s120 =>
  some (s120.1, s120.2)
def C__law_large : List Arg → List Cell → Arg → List Cell → Prop := fun as L r L' => ∃ a0 a1 p0 c, as = [⟨rRef, p0⟩, ⟨rInt, a1⟩] ∧ L = [⟨p0, (cL2 (rLst rInt) rInt), a0⟩] ∧ m_l_large a0 a1 = some c ∧ r = ⟨(rTup (rTup (rT2 rInt (rTup (rT2 rInt rInt))))), c.1⟩ ∧ L' = [⟨p0, (cL2 (rLst rInt) rInt), c.2⟩]
theorem sc__law_large : FnScope ["_law_state", "_law_many", "_law_system_here", "_law_k", "_law_choices_here", "_law_number", "_law_ends_here", "_law_j"] ["_law_state", "_law_many"] (defScope s__law_large) := ⟨rfl, rfl, rfl, by decide +kernel, rfl, by decide +kernel, by decide +kernel⟩
set_option maxHeartbeats 4000000 in
theorem ok__law_large (F : FunC K "_law_large" s__law_large f fd cc) (c__law_take : Cl P w K mg base 2 "_law_take" (spV K T C__law_take) []) (z_range : mg "range" = none) (z_sorted : mg "sorted" = none) (z_tuple : mg "tuple" = none) : FnOk P w K mg base CX0 3 f fd ["_law_state", "_law_many"] (spV K T C__law_large) := by
  refine F.ok sc__law_large (fun vs H Q E h => ?_) (fun A outer s H vs Q E hr h => ?_)
  · obtain ⟨B, M, L, as, r, L', hT, w, ha, ⟨_, _, _, _, rfl, _⟩, k⟩ := h
    exact args_len ha
  · skip
    obtain ⟨B, M, L, as, r, L', rfl, w, ha, ⟨a0, a1, p0, c, rfl, rfl, hm, rfl, rfl⟩, k⟩ := h
    obtain ⟨u0, u1, rfl, f0, f1⟩ := args2 ha
    replace f0 : u0 = V.ref p0 := f0
    subst f0
    replace f1 : (rInt).is K B u1 a1 := f1
    unfold m_l_large at hm
    refine ⟨_, (pss_cons (ps_set (i := 2) sc__law_large.nd rfl (by first | exact Or.inl rfl | exact Or.inr rfl) (pe_lst pa_nil)) (pss_cons (ps_for PassesOwn.never rfl (pi_range1 rfl z_range (pa_cons (pv 1) pa_nil)) (pg_name (i := 3) sc__law_large.nd rfl (by first | exact Or.inl rfl | exact Or.inr rfl)) (pss_cons (ps_set (i := 4) sc__law_large.nd rfl (by first | exact Or.inl rfl | exact Or.inr rfl) (pe_lst pa_nil)) (pss_cons (ps_for PassesOwn.never rfl (pi_range1 rfl z_range (pa_cons (pe_ix ix_seq (pe_lst (pa_cons pe_int (pa_cons pe_int (pa_cons pe_int pa_nil)))) (pe_c c__law_take hr (by omega) rfl (pa_cons (pv 0) (pa_cons pe_int pa_nil))) (fun _ _ => rfl)) pa_nil)) (pg_name (i := 5) sc__law_large.nd rfl (by first | exact Or.inl rfl | exact Or.inr rfl)) (pss_cons (ps_set (i := 6) sc__law_large.nd rfl (by first | exact Or.inl rfl | exact Or.inr rfl) pe_dnewK) (pss_cons (ps_for PassesOwn.never rfl (pi_range1 rfl z_range (pa_cons (pe_op op_add pe_int (pe_c c__law_take hr (by omega) rfl (pa_cons (pv 0) (pa_cons pe_int pa_nil)))) pa_nil)) (pg_name (i := 7) sc__law_large.nd rfl (by first | exact Or.inl rfl | exact Or.inr rfl)) (pss_cons (ps_asg (pe_ix ix_seq (pe_lst (pa_cons pe_int (pa_cons pe_int (pa_cons pe_int (pa_cons pe_int (pa_cons pe_int pa_nil)))))) (pe_c c__law_take hr (by omega) rfl (pa_cons (pv 0) (pa_cons pe_int pa_nil))) (fun _ _ => rfl)) (pg_sub (pv 6) (pe_c c__law_take hr (by omega) rfl (pa_cons (pv 0) (pa_cons (pv 1) pa_nil))) (set_dict (by have := room_hu hr; exact Nat.lt_of_le_of_lt (Nat.add_le_add_left (by decide) _) this)))) pss_nil)) (pss_cons (ps_expr (pe_bm PySem.F.plainAttrs_list PySem.F.slot_list_append PySem.F.type_list_append mt_append (pv 4) (pa_cons (pe_tup (pa_cons (pe_c c__law_take hr (by omega) rfl (pa_cons (pv 0) (pa_cons pe_int pa_nil))) (pa_cons (pe_callTy call_tuple_of rfl z_tuple bt_tuple (pa_cons (L3G.pe_sortI rfl (pv 6) rfl z_sorted bt_sorted) pa_nil)) pa_nil))) pa_nil))) pss_nil)))) (pss_cons (ps_expr (pe_bm PySem.F.plainAttrs_list PySem.F.slot_list_append PySem.F.type_list_append mt_append (pv 2) (pa_cons (pe_callTy call_tuple_of rfl z_tuple bt_tuple (pa_cons (pv 4) pa_nil)) pa_nil))) pss_nil)))) (pss_cons (ps_ret (pe_callTy call_tuple_of rfl z_tuple bt_tuple (pa_cons (pv 2) pa_nil))) pss_nil))), ?_⟩
    rw [show start ["_law_state", "_law_many", "_law_system_here", "_law_k", "_law_choices_here", "_law_number", "_law_ends_here", "_law_j"] [.ref p0, u1] = ([some (.ref p0), some u1, none, none, none, none, none, none] : L2.St) from rfl]
    refine q_asgL (n := 2) w (el_lst (r := (rTup (rT2 rInt (rTup (rT2 rInt rInt))))) ([] : List (List (Int × (List (Int × Int))))) ea_nil) fun p2 B1 H1 x1 (w1 : Own K B1 M [⟨p2, (cLst (rTup (rT2 rInt (rTup (rT2 rInt rInt))))), ([] : List (List (Int × (List (Int × Int)))))⟩, ⟨p0, (cL2 (rLst rInt) rInt), a0⟩] H1) => ?_
    obtain ⟨t3, e4, hm⟩ := bindS hm
    obtain ⟨s120, e9, hm⟩ := bindS hm
    refine q_fold w1 (ei_rng1 (ea_cons (ev_varI rfl f1) ea_nil) e4) _ (fun s5 B10 σ23 => ∃ o24 o25 o26 o27 o28, σ23 = [some (.ref p0), some u1, some (.ref p2), o24, o25, o26, o27, o28]) (fun s5 => [⟨p2, (cLst (rTup (rT2 rInt (rTup (rT2 rInt rInt))))), s5.1⟩, ⟨p0, (cL2 (rLst rInt) rInt), s5.2⟩]) ((([] : List (List (Int × (List (Int × Int))))), a0)) e9 (fun B9 x9 => ⟨_, _, _, _, _, rfl⟩) rfl ?_ ?_
    · skip
      rintro s5 x6 s131 v16 B10 B11 H12 σ23 hb7 x13 ⟨o24, o25, o26, o27, o28, rfl⟩ x14 w15 h17 N18 K19 hN20
      replace w15 : Own K B11 M [⟨p2, (cLst (rTup (rT2 rInt (rTup (rT2 rInt rInt))))), s5.1⟩, ⟨p0, (cL2 (rLst rInt) rInt), s5.2⟩] H12 := w15
      refine g_name ?_
      refine q_asgL (n := 4) w15 (el_lst (r := (rT2 rInt (rTup (rT2 rInt rInt)))) ([] : List (Int × (List (Int × Int)))) ea_nil) fun p30 B29 H29 x29 (w29 : Own K B29 M [⟨p30, (cLst (rT2 rInt (rTup (rT2 rInt rInt)))), ([] : List (Int × (List (Int × Int))))⟩, ⟨p2, (cLst (rTup (rT2 rInt (rTup (rT2 rInt rInt))))), s5.1⟩, ⟨p0, (cL2 (rLst rInt) rInt), s5.2⟩] H29) => ?_
      obtain ⟨t31, e32, hb7⟩ := bindS hb7
      obtain ⟨t33, e34, hb7⟩ := bindS hb7
      obtain ⟨t35, e36, hb7⟩ := bindS hb7
      obtain ⟨s107, e41, hb7⟩ := bindS hb7
      refine q_fold w29 (ei_rng1 (ea_cons (ev_ix (ev_seqL (ev_frz (el_lst (r := rInt) [(1 : Int), (2 : Int), (6 : Int)] (ea_cons (ev_int (i := 1)) (ea_cons (ev_int (i := 2)) (ea_cons (ev_int (i := 6)) ea_nil)))))) (ev_callC 2 (x := ⟨p0, (cL2 (rLst rInt) rInt), s5.2⟩) (x' := ⟨p0, (cL2 (rLst rInt) rInt), t31.2⟩) (ea_cons (ev_varR rfl) (ea_cons (ev_int (i := 3)) ea_nil)) rfl ⟨_, _, _, _, rfl, rfl, e32, rfl, rfl⟩ rfl) e34) ea_nil) e36) _ (fun s37 B42 σ55 => ∃ o56 o57 o58, σ55 = [some (.ref p0), some u1, some (.ref p2), some v16, some (.ref p30), o56, o57, o58]) (fun s37 => [⟨p30, (cLst (rT2 rInt (rTup (rT2 rInt rInt)))), s37.1⟩, ⟨p2, (cLst (rTup (rT2 rInt (rTup (rT2 rInt rInt))))), s5.1⟩, ⟨p0, (cL2 (rLst rInt) rInt), s37.2⟩]) ((([] : List (Int × (List (Int × Int)))), t31.2)) e41 (fun B9 x9 => ⟨_, _, _, rfl⟩) rfl ?_ ?_
      · skip
        rintro s37 x38 s119 v48 B42 B43 H44 σ55 hb39 x45 ⟨o56, o57, o58, rfl⟩ x46 w47 h49 N50 K51 hN52
        replace w47 : Own K B43 M [⟨p30, (cLst (rT2 rInt (rTup (rT2 rInt rInt)))), s37.1⟩, ⟨p2, (cLst (rTup (rT2 rInt (rTup (rT2 rInt rInt))))), s5.1⟩, ⟨p0, (cL2 (rLst rInt) rInt), s37.2⟩] H44 := w47
        refine g_name ?_
        refine q_asgD (n := 6) w47 fun p60 H59 (w59 : Own K B43 M [⟨p60, cDk, []⟩, ⟨p30, (cLst (rT2 rInt (rTup (rT2 rInt rInt)))), s37.1⟩, ⟨p2, (cLst (rTup (rT2 rInt (rTup (rT2 rInt rInt))))), s5.1⟩, ⟨p0, (cL2 (rLst rInt) rInt), s37.2⟩] H59) => ?_
        obtain ⟨t61, e62, hb39⟩ := bindS hb39
        obtain ⟨t63, e64, hb39⟩ := bindS hb39
        obtain ⟨s94, e69, hb39⟩ := bindS hb39
        refine q_fold w59 (ei_rng1 (ea_cons (ev_add (ev_int (i := 1)) (ev_callC 3 (x := ⟨p0, (cL2 (rLst rInt) rInt), s37.2⟩) (x' := ⟨p0, (cL2 (rLst rInt) rInt), t61.2⟩) (ea_cons (ev_varR rfl) (ea_cons (ev_int (i := 6)) ea_nil)) rfl ⟨_, _, _, _, rfl, rfl, e62, rfl, rfl⟩ rfl)) ea_nil) e64) _ (fun s65 B70 σ83 => ∃ o84, σ83 = [some (.ref p0), some u1, some (.ref p2), some v16, some (.ref p30), some v48, some (.ref p60), o84]) (fun s65 => [⟨p60, cDk, s65.1⟩, ⟨p30, (cLst (rT2 rInt (rTup (rT2 rInt rInt)))), s37.1⟩, ⟨p2, (cLst (rTup (rT2 rInt (rTup (rT2 rInt rInt))))), s5.1⟩, ⟨p0, (cL2 (rLst rInt) rInt), s65.2⟩]) (([], t61.2)) e69 (fun B9 x9 => ⟨_, rfl⟩) rfl ?_ ?_
        · skip
          rintro s65 x66 s106 v76 B70 B71 H72 σ83 hb67 x73 ⟨o84, rfl⟩ x74 w75 h77 N78 K79 hN80
          replace w75 : Own K B71 M [⟨p60, cDk, s65.1⟩, ⟨p30, (cLst (rT2 rInt (rTup (rT2 rInt rInt)))), s37.1⟩, ⟨p2, (cLst (rTup (rT2 rInt (rTup (rT2 rInt rInt))))), s5.1⟩, ⟨p0, (cL2 (rLst rInt) rInt), s65.2⟩] H72 := w75
          refine g_name ?_
          obtain ⟨t85, e86, hb67⟩ := bindS hb67
          obtain ⟨t87, e88, hb67⟩ := bindS hb67
          obtain ⟨t89, e90, hb67⟩ := bindS hb67
          obtain ⟨t91, e92, hb67⟩ := bindS hb67
          refine q_setD (n := 0) w75 (ev_ix (ev_seqL (ev_frz (el_lst (r := rInt) [(1 : Int), (1 : Int), (2 : Int), (5 : Int), (1000 : Int)] (ea_cons (ev_int (i := 1)) (ea_cons (ev_int (i := 1)) (ea_cons (ev_int (i := 2)) (ea_cons (ev_int (i := 5)) (ea_cons (ev_int (i := 1000)) ea_nil)))))))) (ev_callC 3 (x := ⟨p0, (cL2 (rLst rInt) rInt), s65.2⟩) (x' := ⟨p0, (cL2 (rLst rInt) rInt), t85.2⟩) (ea_cons (ev_varR rfl) (ea_cons (ev_int (i := 5)) ea_nil)) rfl ⟨_, _, _, _, rfl, rfl, e86, rfl, rfl⟩ rfl) e88) rfl (ev_callC 3 (x := ⟨p0, (cL2 (rLst rInt) rInt), t85.2⟩) (x' := ⟨p0, (cL2 (rLst rInt) rInt), t89.2⟩) (ea_cons (ev_varR rfl) (ea_cons (ev_varI rfl f1) ea_nil)) rfl ⟨_, _, _, _, rfl, rfl, e90, rfl, rfl⟩ rfl) rfl e92 fun B93 H93 x93 (w93 : Own K B93 M [⟨p60, cDk, (putI s65.1 t89.1 t87)⟩, ⟨p30, (cLst (rT2 rInt (rTup (rT2 rInt rInt)))), s37.1⟩, ⟨p2, (cLst (rTup (rT2 rInt (rTup (rT2 rInt rInt))))), s5.1⟩, ⟨p0, (cL2 (rLst rInt) rInt), t89.2⟩] H93) => ?_
          replace hb67 : some _ = some _ := hb67
          cases hb67
          exact hN80 _ _ _ x93 w93 ⟨_, rfl⟩
        rintro B95 H96 σ99 x97 w98 ⟨o100, rfl⟩
        replace w98 : Own K B95 M [⟨p60, cDk, s94.1⟩, ⟨p30, (cLst (rT2 rInt (rTup (rT2 rInt rInt)))), s37.1⟩, ⟨p2, (cLst (rTup (rT2 rInt (rTup (rT2 rInt rInt))))), s5.1⟩, ⟨p0, (cL2 (rLst rInt) rInt), s94.2⟩] H96 := w98
        obtain ⟨t101, e102, hb39⟩ := bindS hb39
        obtain ⟨t103, e104, hb39⟩ := bindS hb39
        refine q_app (n := 1) (m := 4) w98 rfl (ev_T2 (ea_cons (ev_callC 3 (x := ⟨p0, (cL2 (rLst rInt) rInt), s94.2⟩) (x' := ⟨p0, (cL2 (rLst rInt) rInt), t101.2⟩) (ea_cons (ev_varR rfl) (ea_cons (ev_int (i := 1001)) ea_nil)) rfl ⟨_, _, _, _, rfl, rfl, e102, rfl, rfl⟩ rfl) (ea_cons (ev_tupOfL (ev_frz (el_sortI (n := 0) rfl rfl))) ea_nil))) rfl ⟨1, _, rfl⟩ e104 fun B105 H105 x105 (w105 : Own K B105 M [⟨p60, cDk, s94.1⟩, ⟨p30, (cLst (rT2 rInt (rTup (rT2 rInt rInt)))), (s37.1 ++ [(t101.1, (sortI s94.1))])⟩, ⟨p2, (cLst (rTup (rT2 rInt (rTup (rT2 rInt rInt))))), s5.1⟩, ⟨p0, (cL2 (rLst rInt) rInt), t101.2⟩] H105) => ?_
        replace hb39 : some _ = some _ := hb39
        cases hb39
        exact hN52 _ _ _ (x97.trans x105) w105.tail ⟨_, _, _, rfl⟩
      rintro B108 H109 σ112 x110 w111 ⟨o113, o114, o115, rfl⟩
      replace w111 : Own K B108 M [⟨p30, (cLst (rT2 rInt (rTup (rT2 rInt rInt)))), s107.1⟩, ⟨p2, (cLst (rTup (rT2 rInt (rTup (rT2 rInt rInt))))), s5.1⟩, ⟨p0, (cL2 (rLst rInt) rInt), s107.2⟩] H109 := w111
      obtain ⟨t116, e117, hb7⟩ := bindS hb7
      refine q_app (n := 1) (m := 2) w111 rfl (ev_tupOfC (n := 0) (ev_varR rfl) rfl) rfl ⟨1, _, rfl⟩ e117 fun B118 H118 x118 (w118 : Own K B118 M [⟨p30, (cLst (rT2 rInt (rTup (rT2 rInt rInt)))), s107.1⟩, ⟨p2, (cLst (rTup (rT2 rInt (rTup (rT2 rInt rInt))))), (s5.1 ++ [s107.1])⟩, ⟨p0, (cL2 (rLst rInt) rInt), s107.2⟩] H118) => ?_
      replace hb7 : some _ = some _ := hb7
      cases hb7
      exact hN20 _ _ _ ((x29.trans x110).trans x118) w118.tail ⟨_, _, _, _, _, rfl⟩
    rintro B121 H122 σ125 x123 w124 ⟨o126, o127, o128, o129, o130, rfl⟩
    replace w124 : Own K B121 M [⟨p2, (cLst (rTup (rT2 rInt (rTup (rT2 rInt rInt))))), s120.1⟩, ⟨p0, (cL2 (rLst rInt) rInt), s120.2⟩] H122 := w124
    replace hm : some _ = some _ := hm
    obtain rfl := Option.some.inj hm
    exact q_ret w124 (ev_tupOfC (n := 0) (ev_varR rfl) rfl) fun v9 B9 H9 x9 w9 h9 => k _ _ _ ((x1.trans x123).trans x9) w9.tail h9
noncomputable def m_l_step (a0 : (List (List (Int × (List (Int × Int)))))) (a1 : (List Int)) (a2 : (List (Int × Int))) (a3 : Bool) : Option ((List (Int × Int)) × (List Int)) :=
  Option.bind (repL ([(0 : Int)]) ((a0.length : Int))) fun t4 =>
  Option.bind (foldO (S := ((List Int) × (List (Int × Int)))) (α := Int) (fun (s8 : ((List Int) × (List (Int × Int)))) (x9 : Int) => (
    Option.bind (ixL a0 x9) fun t34 =>
    Option.bind (small62 ((t34.length : Int))) fun t36 =>
    Option.bind (foldO (S := ((Option (Int × Int)) × (List Int))) (α := Int) (fun (s38 : ((Option (Int × Int)) × (List Int))) (x39 : Int) => (
      Option.bind (ixL a0 x9) fun t61 =>
      Option.bind (ixL t61 x39) fun t63 =>
      Option.bind (m_l_mean t63.2 a2) fun t65 =>
      Option.bind ((if s38.1.isNone = true then (some (true)) else (Option.bind ((if a3 = true then (Option.bind (s38.1) fun t70 => Option.bind (m_l_less t70 t65) fun t72 => some (t72)) else (some (false)))) fun t74 => Option.bind ((if t74 = true then (some (true)) else (Option.bind ((if (!a3) = true then (Option.bind (s38.1) fun t77 => Option.bind (m_l_less t65 t77) fun t79 => some (t79)) else (some (false)))) fun t81 => some (t81)))) fun t84 => some (t84)))) fun t87 =>
      Option.bind (if t87 = true then
        Option.bind (ixO s38.2.length x9) fun t97 =>
        some (((some t65), (s38.2.set t97 x39)))
      else
        some ((s38.1, s38.2))
      ) fun (s91 : ((Option (Int × Int)) × (List Int))) =>
      some ((s91.1, s91.2))
    )) ((none, s8.1)) ((rng 0 ((t34.length : Int))))) fun s105 =>
    Option.bind (s105.1) fun t115 =>
    Option.bind (ixO s8.2.length x9) fun t117 =>
    some ((s105.2, (s8.2.set t117 t115)))
  )) ((t4, a2)) a1) fun s121 =>
  some (s121.2, s121.1)
def C__law_step : List Arg → List Cell → Arg → List Cell → Prop := fun as L r L' => ∃ a0 a1 a2 a3 c, as = [⟨(rTup (rTup (rT2 rInt (rTup (rT2 rInt rInt))))), a0⟩, ⟨(rLst rInt), a1⟩, ⟨(rLst (rT2 rInt rInt)), a2⟩, ⟨rBool, a3⟩] ∧ L = [] ∧ m_l_step a0 a1 a2 a3 = some c ∧ r = ⟨(rT2 (rLst (rT2 rInt rInt)) (rTup rInt)), c⟩ ∧ L' = []
theorem sc__law_step : FnScope ["_law_system_here", "_law_rest", "_law_values", "_law_most", "_law_made", "_law_policy", "_law_one", "_law_best", "_law_number", "_law_value"] ["_law_system_here", "_law_rest", "_law_values", "_law_most"] (defScope s__law_step) := ⟨rfl, rfl, rfl, by decide +kernel, rfl, by decide +kernel, by decide +kernel⟩
set_option maxHeartbeats 4000000 in
theorem ok__law_step (F : FunC K "_law_step" s__law_step f fd cc) (c__law_mean : Cl P w K mg base 3 "_law_mean" (spV K T C__law_mean) []) (c__law_less : Cl P w K mg base 1 "_law_less" (spV K T C__law_less) []) (z_list : mg "list" = none) (z_len : mg "len" = none) (z_range : mg "range" = none) (z_tuple : mg "tuple" = none) : FnOk P w K mg base CX0 4 f fd ["_law_system_here", "_law_rest", "_law_values", "_law_most"] (spV K T C__law_step) := by
  refine F.ok sc__law_step (fun vs H Q E h => ?_) (fun A outer s H vs Q E hr h => ?_)
  · obtain ⟨B, M, L, as, r, L', hT, w, ha, ⟨_, _, _, _, _, rfl, _⟩, k⟩ := h
    exact args_len ha
  · skip
    obtain ⟨B, M, L, as, r, L', rfl, w, ha, ⟨a0, a1, a2, a3, c, rfl, rfl, hm, rfl, rfl⟩, k⟩ := h
    obtain ⟨u0, u1, u2, u3, rfl, f0, f1, f2, f3⟩ := args4 ha
    replace f0 : ((rTup (rTup (rT2 rInt (rTup (rT2 rInt rInt)))))).is K B u0 a0 := f0
    replace f1 : ((rLst rInt)).is K B u1 a1 := f1
    replace f2 : ((rLst (rT2 rInt rInt))).is K B u2 a2 := f2
    replace f3 : (rBool).is K B u3 a3 := f3
    unfold m_l_step at hm
    refine ⟨_, (pss_cons (ps_set (i := 4) sc__law_step.nd rfl (by first | exact Or.inl rfl | exact Or.inr rfl) (pe_callTy call_list_of rfl z_list bt_list (pa_cons (pv 2) pa_nil))) (pss_cons (ps_set (i := 5) sc__law_step.nd rfl (by first | exact Or.inl rfl | exact Or.inr rfl) (pe_op op_rep (pe_lst (pa_cons pe_int pa_nil)) (pe_callB call_len_seq rfl z_len bt_len (pa_cons (pv 0) pa_nil)))) (pss_cons (ps_for PassesOwn.never rfl (pi_list (pv 1)) (pg_name (i := 6) sc__law_step.nd rfl (by first | exact Or.inl rfl | exact Or.inr rfl)) (pss_cons (ps_set (i := 7) sc__law_step.nd rfl (by first | exact Or.inl rfl | exact Or.inr rfl) pe_non) (pss_cons (ps_for PassesOwn.never rfl (pi_range1 rfl z_range (pa_cons (pe_callB call_len_seq rfl z_len bt_len (pa_cons (pe_ix ix_seq (pv 0) (pv 6) (fun _ _ => rfl)) pa_nil)) pa_nil)) (pg_name (i := 8) sc__law_step.nd rfl (by first | exact Or.inl rfl | exact Or.inr rfl)) (pss_cons (ps_set (i := 9) sc__law_step.nd rfl (by first | exact Or.inl rfl | exact Or.inr rfl) (pe_c c__law_mean hr (by omega) rfl (pa_cons (pe_ix ix_seq (pe_ix ix_seq (pe_ix ix_seq (pv 0) (pv 6) (fun _ _ => rfl)) (pv 8) (fun _ _ => rfl)) pe_int (fun _ _ => rfl)) (pa_cons (pv 2) pa_nil)))) (Evl.pss_cut (ps_if (PW.pt (pw_or (pt_cmp (pc_isN (pv 7))) (pw_or (PW.pt (pw_and (pt_val (pv 3)) (pw_and1 (pt_val (pe_c c__law_less hr (by omega) rfl (pa_cons (pv 7) (pa_cons (pv 9) pa_nil))))))) (pw_or1 (PW.pt (pw_and (pt_not (pt_val (pv 3))) (pw_and1 (pt_val (pe_c c__law_less hr (by omega) rfl (pa_cons (pv 9) (pa_cons (pv 7) pa_nil))))))))))) (pss_cons (ps_set (i := 7) sc__law_step.nd rfl (by first | exact Or.inl rfl | exact Or.inr rfl) (pv 9)) (pss_cons (ps_asg (pv 8) (pg_sub (pv 5) (pv 6) set_list)) pss_nil)) pss_nil) pss_nil))) (pss_cons (ps_asg (pv 7) (pg_sub (pv 4) (pv 6) set_list)) pss_nil)))) (pss_cons (ps_ret (pe_tup (pa_cons (pv 4) (pa_cons (pe_callTy call_tuple_of rfl z_tuple bt_tuple (pa_cons (pv 5) pa_nil)) pa_nil)))) pss_nil)))), ?_⟩
    rw [show start ["_law_system_here", "_law_rest", "_law_values", "_law_most", "_law_made", "_law_policy", "_law_one", "_law_best", "_law_number", "_law_value"] [u0, u1, u2, u3] = ([some u0, some u1, some u2, some u3, none, none, none, none, none, none] : L2.St) from rfl]
    refine q_asgL (n := 4) w (el_listOf (ev_seqL (ev_var rfl f2))) fun p2 B1 H1 x1 (w1 : Own K B1 M [⟨p2, (cLst (rT2 rInt rInt)), a2⟩] H1) => ?_
    obtain ⟨t4, e5, hm⟩ := bindS hm
    refine q_asgL (n := 5) w1 (el_rep (el_lst (r := rInt) [(0 : Int)] (ea_cons (ev_int (i := 0)) ea_nil)) (fun p3 => (ev_len (ev_seqT (ev_var rfl (((rTup (rTup (rT2 rInt (rTup (rT2 rInt rInt)))))).mono x1 f0))))) e5) fun p7 B6 H6 x6 (w6 : Own K B6 M [⟨p7, (cLst rInt), t4⟩, ⟨p2, (cLst (rT2 rInt rInt)), a2⟩] H6) => ?_
    obtain ⟨s121, e12, hm⟩ := bindS hm
    refine q_fold w6 (ei_lst (ev_var rfl (((rLst rInt)).mono (x1.trans x6) f1))) _ (fun s8 B13 σ26 => ∃ o27 o28 o29 o30, σ26 = [some u0, some u1, some u2, some u3, some (.ref p2), some (.ref p7), o27, o28, o29, o30]) (fun s8 => [⟨p7, (cLst rInt), s8.1⟩, ⟨p2, (cLst (rT2 rInt rInt)), s8.2⟩]) ((t4, a2)) e12 (fun B9 x9 => ⟨_, _, _, _, rfl⟩) rfl ?_ ?_
    · skip
      rintro s8 x9 s131 v19 B13 B14 H15 σ26 hb10 x16 ⟨o27, o28, o29, o30, rfl⟩ x17 w18 h20 N21 K22 hN23
      replace w18 : Own K B14 M [⟨p7, (cLst rInt), s8.1⟩, ⟨p2, (cLst (rT2 rInt rInt)), s8.2⟩] H15 := w18
      refine g_name ?_
      refine q_asg (n := 7) w18 (ev_non (r := (rT2 rInt rInt))) fun v32 B31 H31 x31 (w31 : Own K B31 M [⟨p7, (cLst rInt), s8.1⟩, ⟨p2, (cLst (rT2 rInt rInt)), s8.2⟩] H31) h33 => ?_
      obtain ⟨t34, e35, hb10⟩ := bindS hb10
      obtain ⟨t36, e37, hb10⟩ := bindS hb10
      obtain ⟨s105, e42, hb10⟩ := bindS hb10
      refine q_fold w31 (ei_rng1 (ea_cons (ev_len (ev_seqT (ev_ix (ev_seqT (ev_var rfl (((rTup (rTup (rT2 rInt (rTup (rT2 rInt rInt)))))).mono ((((x1.trans x6).trans x16).trans x17).trans x31) f0))) (ev_varI rfl h20) e35))) ea_nil) e37) _ (fun s38 B43 σ56 => ∃ v57 o59 o60, σ56 = [some u0, some u1, some u2, some u3, some (.ref p2), some (.ref p7), some v19, some v57, o59, o60] ∧ ((rOpt (rT2 rInt rInt))).is K B43 v57 s38.1) (fun s38 => [⟨p7, (cLst rInt), s38.2⟩, ⟨p2, (cLst (rT2 rInt rInt)), s8.2⟩]) ((none, s8.1)) e42 (fun B9 x9 => ⟨v32, _, _, rfl, (((rOpt (rT2 rInt rInt))).mono x9 h33)⟩) rfl ?_ ?_
      · skip
        rintro s38 x39 s120 v49 B43 B44 H45 σ56 hb40 x46 ⟨v57, o59, o60, rfl, h58⟩ x47 w48 h50 N51 K52 hN53
        replace w48 : Own K B44 M [⟨p7, (cLst rInt), s38.2⟩, ⟨p2, (cLst (rT2 rInt rInt)), s8.2⟩] H45 := w48
        refine g_name ?_
        obtain ⟨t61, e62, hb40⟩ := bindS hb40
        obtain ⟨t63, e64, hb40⟩ := bindS hb40
        obtain ⟨t65, e66, hb40⟩ := bindS hb40
        refine q_asg (n := 9) w48 (ev_call (ea_cons (ev_snd (ev_ix (ev_seqT (ev_ix (ev_seqT (ev_var rfl (((rTup (rTup (rT2 rInt (rTup (rT2 rInt rInt)))))).mono ((((((x1.trans x6).trans x16).trans x17).trans x31).trans x46).trans x47) f0))) (ev_varI rfl h20) e62)) (ev_varI rfl h50) e64)) (ea_cons (ev_var rfl (((rLst (rT2 rInt rInt))).mono ((((((x1.trans x6).trans x16).trans x17).trans x31).trans x46).trans x47) f2)) ea_nil)) ⟨_, _, _, rfl, rfl, e66, rfl, rfl⟩) fun v68 B67 H67 x67 (w67 : Own K B67 M [⟨p7, (cLst rInt), s38.2⟩, ⟨p2, (cLst (rT2 rInt rInt)), s8.2⟩] H67) h69 => ?_
        obtain ⟨t87, e88, hb40⟩ := bindS hb40
        obtain ⟨s91, e92, hb40⟩ := bindS hb40
        refine q_cut (fun σ104 H101 => ∃ v102 B101, Ex B67 B101 ∧ Own K B101 M [⟨p7, (cLst rInt), s91.2⟩, ⟨p2, (cLst (rT2 rInt rInt)), s8.2⟩] H101 ∧ σ104 = [some u0, some u1, some u2, some u3, some (.ref p2), some (.ref p7), some v19, some v102, some v49, some v68] ∧ ((rOpt (rT2 rInt rInt))).is K B101 v102 s91.1) ?_ ?_
        · skip
          refine q_ifc w67 (et_or' (d := t87) (et_B (ev_isN (ev_var rfl (((rOpt (rT2 rInt rInt))).mono (x47.trans x67) h58)) (fun _ => nn_rT2))) (fun hb89 => by rw [if_neg (by rw [hb89]; exact Bool.false_ne_true)] at e88; obtain ⟨t74, e75, e88⟩ := bindS e88; obtain ⟨t84, e85, e88⟩ := bindS e88; obtain rfl := Option.some.inj e88; exact (et_or' (d := t84) (et_and' (d := t74) (et_B (ev_varB rfl f3)) (fun hb76 => by rw [if_pos hb76] at e75; obtain ⟨t70, e71, e75⟩ := bindS e75; obtain ⟨t72, e73, e75⟩ := bindS e75; obtain rfl := Option.some.inj e75; exact (et_B (ev_call (ea_cons (ev_get (ev_var rfl (((rOpt (rT2 rInt rInt))).mono (x47.trans x67) h58)) e71) (ea_cons (ev_var rfl h69) ea_nil)) ⟨_, _, _, rfl, rfl, e73, rfl, rfl⟩))) (fun hb76 => by rw [if_neg (by rw [hb76]; exact Bool.false_ne_true)] at e75; obtain rfl := Option.some.inj e75; exact ⟨rfl, rfl⟩)) (fun hb86 => by rw [if_neg (by rw [hb86]; exact Bool.false_ne_true)] at e85; obtain ⟨t81, e82, e85⟩ := bindS e85; obtain rfl := Option.some.inj e85; exact (et_and' (d := t81) (et_not (et_B (ev_varB rfl f3))) (fun hb83 => by rw [if_pos hb83] at e82; obtain ⟨t77, e78, e82⟩ := bindS e82; obtain ⟨t79, e80, e82⟩ := bindS e82; obtain rfl := Option.some.inj e82; exact (et_B (ev_call (ea_cons (ev_var rfl h69) (ea_cons (ev_get (ev_var rfl (((rOpt (rT2 rInt rInt))).mono (x47.trans x67) h58)) e78) ea_nil)) ⟨_, _, _, rfl, rfl, e80, rfl, rfl⟩))) (fun hb83 => by rw [if_neg (by rw [hb83]; exact Bool.false_ne_true)] at e82; obtain rfl := Option.some.inj e82; exact ⟨rfl, rfl⟩))) (fun hb86 => by rw [if_pos hb86] at e85; obtain rfl := Option.some.inj e85; exact ⟨rfl, rfl⟩))) (fun hb89 => by rw [if_pos hb89] at e88; obtain rfl := Option.some.inj e88; exact ⟨rfl, rfl⟩)) (fun hb90 B93 H93 x93 (w93 : Own K B93 M [⟨p7, (cLst rInt), s38.2⟩, ⟨p2, (cLst (rT2 rInt rInt)), s8.2⟩] H93) => ?_) (fun hb90 B100 H100 x100 (w100 : Own K B100 M [⟨p7, (cLst rInt), s38.2⟩, ⟨p2, (cLst (rT2 rInt rInt)), s8.2⟩] H100) => ?_)
          · skip
            rw [if_pos hb90] at e92
            refine q_asg (n := 7) w93 (ev_sm (ev_var rfl (((rT2 rInt rInt)).mono x93 h69))) fun v95 B94 H94 x94 (w94 : Own K B94 M [⟨p7, (cLst rInt), s38.2⟩, ⟨p2, (cLst (rT2 rInt rInt)), s8.2⟩] H94) h96 => ?_
            obtain ⟨t97, e98, e92⟩ := bindS e92
            refine q_setC (n := 0) w94 (ev_varI rfl h50) rfl (ev_varI rfl h20) rfl e98 fun B99 H99 x99 (w99 : Own K B99 M [⟨p7, (cLst rInt), (s38.2.set t97 x39)⟩, ⟨p2, (cLst (rT2 rInt rInt)), s8.2⟩] H99) => ?_
            replace e92 : some _ = some _ := e92
            cases e92
            exact ⟨v95, _, ((x93.trans x94).trans x99), w99, rfl, (((rOpt (rT2 rInt rInt))).mono x99 h96)⟩
          rw [if_neg (by rw [hb90]; exact Bool.false_ne_true)] at e92
          replace e92 : some _ = some _ := e92
          cases e92
          exact ⟨v57, _, x100, w100, rfl, (((rOpt (rT2 rInt rInt))).mono ((x47.trans x67).trans x100) h58)⟩
        rintro σ104' H101 ⟨v102, B101, x101, w101, rfl, h103⟩
        replace hb40 : some _ = some _ := hb40
        cases hb40
        exact hN53 _ _ _ (x67.trans x101) w101 ⟨v102, _, _, rfl, h103⟩
      rintro B106 H107 σ110 x108 w109 ⟨v111, o113, o114, rfl, h112⟩
      replace w109 : Own K B106 M [⟨p7, (cLst rInt), s105.2⟩, ⟨p2, (cLst (rT2 rInt rInt)), s8.2⟩] H107 := w109
      obtain ⟨t115, e116, hb10⟩ := bindS hb10
      obtain ⟨t117, e118, hb10⟩ := bindS hb10
      refine q_setC (n := 1) w109 (ev_get (ev_var rfl h112) e116) rfl (ev_varI rfl h20) rfl e118 fun B119 H119 x119 (w119 : Own K B119 M [⟨p7, (cLst rInt), s105.2⟩, ⟨p2, (cLst (rT2 rInt rInt)), (s8.2.set t117 t115)⟩] H119) => ?_
      replace hb10 : some _ = some _ := hb10
      cases hb10
      exact hN23 _ _ _ ((x31.trans x108).trans x119) w119 ⟨_, _, _, _, rfl⟩
    rintro B122 H123 σ126 x124 w125 ⟨o127, o128, o129, o130, rfl⟩
    replace w125 : Own K B122 M [⟨p7, (cLst rInt), s121.1⟩, ⟨p2, (cLst (rT2 rInt rInt)), s121.2⟩] H123 := w125
    replace hm : some _ = some _ := hm
    obtain rfl := Option.some.inj hm
    exact q_ret w125 (ev_T2 (ea_cons (ev_frzC (n := 1) (ev_varR rfl) rfl) (ea_cons (ev_tupOfC (n := 0) (ev_varR rfl) rfl) ea_nil))) fun v9 B9 H9 x9 w9 h9 => k _ _ _ (((x1.trans x6).trans x124).trans x9) w9.tail h9
noncomputable def m_law (a0 : (List Int)) : Option Bool :=
  Option.bind (m_l_tape a0) fun t1 =>
  Option.bind (loopR (S := ((List Int) × Int)) (R := Bool) (α := Int) (fun (s5 : ((List Int) × Int)) (x6 : Int) => (
    Option.bind (m_l_system s5 ((4 : Int))) fun t37 =>
    Option.bind (m_l_take t37.2 ((8 : Int))) fun t42 =>
    Option.bind (if (decide (t42.1 = (0 : Int))) = true then
      Option.bind (m_l_take t42.2 ((7 : Int))) fun t48 =>
      Option.bind (m_l_large t48.2 (((6 : Int) + t48.1))) fun t50 =>
      some ((t50.1, t50.2))
    else
      some ((t37.1, t42.2))
    ) fun (s45 : ((List (List (Int × (List (Int × Int))))) × ((List Int) × Int))) =>
    Option.bind (m_l_take s45.2 ((3 : Int))) fun t63 =>
    Option.bind ((if (decide (t63.1 = (0 : Int))) = true then (Option.bind (m_l_some t63.2 ((s45.1.length : Int)) ((2 : Int))) fun t65 => some (t65.1, t65.2)) else (Option.bind (rgO 0 ((s45.1.length : Int))) fun t67 => some (t67, t63.2)))) fun t69 =>
    Option.bind (m_l_some t69.2 ((s45.1.length : Int)) ((3 : Int))) fun t75 =>
    Option.bind (m_l_take t75.2 ((9 : Int))) fun t80 =>
    Option.bind (if (decide ((s45.1.length : Int) > (4 : Int))) = true then
      Option.bind (m_l_take t80.2 ((4 : Int))) fun t89 =>
      some ((t89.1, s45.1, t89.2))
    else
      Option.bind ((if (decide (x6 = (1 : Int))) = true then (Option.bind (m_l_take t80.2 ((8 : Int))) fun t95 => some ((decide (t95.1 = (0 : Int))), t95.2)) else (some (false, t80.2)))) fun t97 =>
      Option.bind (if t97.1 = true then
        Option.bind (room s45.1.length) fun t133 =>
        Option.bind (compM (S := Unit) (β := (List (Int × (List (Int × Int))))) (fun (s107 : Unit) (x114 : (List (Int × (List (Int × Int))))) => (Option.bind (m_l_even x114) fun t131 => some (some t131, ()))) (()) s45.1) fun t135 =>
        some (((30 : Int), t135.1, t97.2))
      else
        some ((t80.1, s45.1, t97.2))
      ) fun (s101 : (Int × (List (List (Int × (List (Int × Int))))) × ((List Int) × Int))) =>
      some ((s101.1, s101.2.1, s101.2.2))
    ) fun (s86 : (Int × (List (List (Int × (List (Int × Int))))) × ((List Int) × Int))) =>
    Option.bind (m_l_take s86.2.2 ((2 : Int))) fun t153 =>
    Option.bind (small62 ((s45.1.length : Int))) fun t158 =>
    Option.bind (room ((rng 0 ((s45.1.length : Int)))).length) fun t189 =>
    Option.bind (compM (S := Unit) (β := Int) (fun (s160 : Unit) (x167 : Int) => ( if ((decide (x167 ∈ t69.1)) && (!decide (x167 ∈ t75.1))) = true then ( some (some x167, ())) else some (none, ()))) (()) ((rng 0 ((s45.1.length : Int))))) fun t191 =>
    Option.bind (small62 ((s45.1.length : Int))) fun t196 =>
    Option.bind (room ((rng 0 ((s45.1.length : Int)))).length) fun t222 =>
    Option.bind (compM (S := Unit) (β := (Int × Int)) (fun (s198 : Unit) (x205 : Int) => ( some (some (((if (decide (x205 ∈ t75.1)) = true then (1 : Int) else 0), (1 : Int))), ()))) (()) ((rng 0 ((s45.1.length : Int))))) fun t224 =>
    Option.bind (small62 s86.1) fun t231 =>
    Option.bind (foldO (S := ((List (Int × Int)) × (List (List Int)))) (α := Int) (fun (s233 : ((List (Int × Int)) × (List (List Int)))) (x234 : Int) => (
      Option.bind (m_l_step s86.2.1 t191.1 s233.1 ((decide (t153.1 = (0 : Int))))) fun t256 =>
      Option.bind (room s233.2.length) fun t265 =>
      some ((t256.1, (s233.2 ++ [t256.2])))
    )) ((t224.1, ([] : List (List Int)))) ((rng 0 s86.1))) fun s268 =>
    Option.bind (ixL ([t69.1, t75.1]) ((0 : Int))) fun t281 =>
    Option.bind (ixL ([t69.1, t75.1]) ((1 : Int))) fun t283 =>
    Option.bind (m_bounded_chances s86.2.1 t281 t283 s86.1 ((decide (t153.1 = (0 : Int))))) fun t285 =>
    Option.bind (m_l_equal 8 (((dT2 (dLst (dT2 PyData.int PyData.int)) (dLst (dTup PyData.int))) t285)) (((dT2 (dLst (dT2 PyData.int PyData.int)) (dLst (dTup PyData.int))) ((s268.1, s268.2))))) fun t287 =>
    if (!t287) = true then
      some (Stp.rt false)
    else
      if (!decide ([t69.1, t75.1] = [t69.1, t75.1])) = true then
        some (Stp.rt false)
      else
        some (Stp.nx t153.2)
  )) ((t1, (0 : Int))) ((rng 0 ((2 : Int))))) fun o8 =>
  match o8 with
  | .inl s296 =>
    some true
  | .inr q9 => some q9
def C_law : List Arg → List Cell → Arg → List Cell → Prop := fun as L r L' => ∃ a0 c, as = [⟨(rLst rInt), a0⟩] ∧ L = [] ∧ m_law a0 = some c ∧ r = ⟨rBool, c⟩ ∧ L' = []
theorem sc_law : FnScope ["_law_script", "_law_state", "_law_turn", "_law_system_here", "_law_many", "_law_allowed", "_law_targets", "_law_steps", "_law_most", "_law_rest", "_law_values", "_law_policies", "_law_k", "_law_policy", "_law_passed", "_law_choices_here"] ["_law_script"] (defScope s_law) := ⟨rfl, rfl, rfl, by decide +kernel, rfl, by decide +kernel, by decide +kernel⟩
set_option maxHeartbeats 4000000 in
theorem ok_law (F : FunC K "law" s_law f fd cc) (c__law_tape : Cl P w K mg base 1 "_law_tape" (spV K T C__law_tape) []) (c__law_system : Cl P w K mg base 5 "_law_system" (spV K T C__law_system) []) (c__law_take : Cl P w K mg base 2 "_law_take" (spV K T C__law_take) []) (c__law_large : Cl P w K mg base 3 "_law_large" (spV K T C__law_large) []) (c__law_some : Cl P w K mg base 3 "_law_some" (spV K T C__law_some) []) (c__law_even : Cl P w K mg base 1 "_law_even" (spV K T C__law_even) []) (c__law_step : Cl P w K mg base 4 "_law_step" (spV K T C__law_step) []) (c__law_equal : Cl P w K mg base 8 "_law_equal" (spV K T (C__law_equal 8)) []) (c_bounded_chances : Cl P w K mg base 5 "bounded_chances" (spV K T C_bounded_chances) []) (z_range : mg "range" = none) (z_len : mg "len" = none) (z_list : mg "list" = none) (z_tuple : mg "tuple" = none) (z_int : mg "int" = none) : FnOk P w K mg base CX0 9 f fd ["_law_script"] (spV K T C_law) := by
  refine F.ok sc_law (fun vs H Q E h => ?_) (fun A outer s H vs Q E hr h => ?_)
  · obtain ⟨B, M, L, as, r, L', hT, w, ha, ⟨_, _, rfl, _⟩, k⟩ := h
    exact args_len ha
  · skip
    obtain ⟨B, M, L, as, r, L', rfl, w, ha, ⟨a0, c, rfl, rfl, hm, rfl, rfl⟩, k⟩ := h
    obtain ⟨u0, rfl, f0⟩ := args1 ha
    replace f0 : ((rLst rInt)).is K B u0 a0 := f0
    have hu := room_hu hr
    unfold m_law at hm
    refine ⟨_, (pss_cons (ps_set (i := 1) sc_law.nd rfl (by first | exact Or.inl rfl | exact Or.inr rfl) (pe_lst (pa_cons (pe_c c__law_tape hr (by omega) rfl (pa_cons (pv 0) pa_nil)) (pa_cons pe_int pa_nil)))) (pss_cons (ps_for PassesOwn.never rfl (pi_range1 rfl z_range (pa_cons pe_int pa_nil)) (pg_name (i := 2) sc_law.nd rfl (by first | exact Or.inl rfl | exact Or.inr rfl)) (pss_cons (ps_set (i := 3) sc_law.nd rfl (by first | exact Or.inl rfl | exact Or.inr rfl) (pe_c c__law_system hr (by omega) rfl (pa_cons (pv 1) (pa_cons pe_int pa_nil)))) (Evl.pss_cut (ps_if (pt_cmpR op_eq (pe_c c__law_take hr (by omega) rfl (pa_cons (pv 1) (pa_cons pe_int pa_nil))) pe_int (nomark _)) (pss_cons (ps_set (i := 3) sc_law.nd rfl (by first | exact Or.inl rfl | exact Or.inr rfl) (pe_c c__law_large hr (by omega) rfl (pa_cons (pv 1) (pa_cons (pe_op op_add pe_int (pe_c c__law_take hr (by omega) rfl (pa_cons (pv 1) (pa_cons pe_int pa_nil)))) pa_nil)))) pss_nil) pss_nil) (pss_cons (ps_set (i := 4) sc_law.nd rfl (by first | exact Or.inl rfl | exact Or.inr rfl) (pe_callB call_len_seq rfl z_len bt_len (pa_cons (pv 3) pa_nil))) (pss_cons (ps_set (i := 5) sc_law.nd rfl (by first | exact Or.inl rfl | exact Or.inr rfl) (pe_ifExp (pt_cmpR op_eq (pe_c c__law_take hr (by omega) rfl (pa_cons (pv 1) (pa_cons pe_int pa_nil))) pe_int (nomark _)) (pe_c c__law_some hr (by omega) rfl (pa_cons (pv 1) (pa_cons (pv 4) (pa_cons pe_int pa_nil)))) (pe_listRg rfl rfl z_list (prg_1 rfl z_range (pv 4))))) (pss_cons (ps_set (i := 6) sc_law.nd rfl (by first | exact Or.inl rfl | exact Or.inr rfl) (pe_c c__law_some hr (by omega) rfl (pa_cons (pv 1) (pa_cons (pv 4) (pa_cons pe_int pa_nil))))) (pss_cons (ps_set (i := 7) sc_law.nd rfl (by first | exact Or.inl rfl | exact Or.inr rfl) (pe_c c__law_take hr (by omega) rfl (pa_cons (pv 1) (pa_cons pe_int pa_nil)))) (Evl.pss_cut (ps_if (pt_cmpR op_gt (pv 4) pe_int (nomark _)) (pss_cons (ps_set (i := 7) sc_law.nd rfl (by first | exact Or.inl rfl | exact Or.inr rfl) (pe_c c__law_take hr (by omega) rfl (pa_cons (pv 1) (pa_cons pe_int pa_nil)))) pss_nil) (Evl.pss_cut (ps_if (PW.pt (pw_and (pt_cmpR op_eq (pv 2) pe_int (nomark _)) (pw_and1 (pt_cmpR op_eq (pe_c c__law_take hr (by omega) rfl (pa_cons (pv 1) (pa_cons pe_int pa_nil))) pe_int (nomark _))))) (pss_cons (ps_set (i := 7) sc_law.nd rfl (by first | exact Or.inl rfl | exact Or.inr rfl) pe_int) (pss_cons (ps_set (i := 3) sc_law.nd rfl (by first | exact Or.inl rfl | exact Or.inr rfl) (pe_callTy call_tuple_of rfl z_tuple bt_tuple (pa_cons (pe_lc rfl sc_law.nd (pi_tup (pv 3)) (blkOk_by (own := [("_law_choices_here", 15)]) (show blkC ["_law_script", "_law_state", "_law_turn", "_law_system_here", "_law_many", "_law_allowed", "_law_targets", "_law_steps", "_law_most", "_law_rest", "_law_values", "_law_policies", "_law_k", "_law_policy", "_law_passed", "_law_choices_here"] (defScope s_law) _ _ = true by decide +kernel)) (fun _ _ _ _ _ => (pg_name (i := 15) sc_law.nd rfl (by first | exact Or.inl rfl | exact Or.inr rfl))) (fun _ _ _ _ _ => pts_nil) (fun _ _ _ _ _ => (pe_c c__law_even hr (by omega) rfl (pa_cons (pv 15) pa_nil)))) pa_nil))) pss_nil)) pss_nil) pss_nil)) (pss_cons (ps_set (i := 8) sc_law.nd rfl (by first | exact Or.inl rfl | exact Or.inr rfl) (pe_cmpR op_eq (pe_c c__law_take hr (by omega) rfl (pa_cons (pv 1) (pa_cons pe_int pa_nil))) pe_int (nomark _))) (pss_cons (ps_setLc (i := 9) rfl sc_law.nd rfl rfl rfl (pi_range1 rfl z_range (pa_cons (pv 4) pa_nil)) (blkOk_by (own := [("_law_k", 12)]) (show blkC ["_law_script", "_law_state", "_law_turn", "_law_system_here", "_law_many", "_law_allowed", "_law_targets", "_law_steps", "_law_most", "_law_rest", "_law_values", "_law_policies", "_law_k", "_law_policy", "_law_passed", "_law_choices_here"] (defScope s_law) _ _ = true by decide +kernel)) (fun _ _ _ _ _ => (pg_name (i := 12) sc_law.nd rfl (by first | exact Or.inl rfl | exact Or.inr rfl))) (fun _ _ _ _ _ => (pts_one (PW.pt (pw_and (pt_cmpR (show OpR _ _ (rIn K false) from op_in_seq) (pv 12) (pv 5) rfl) (pw_and1 (pt_cmpR (show OpR _ _ (rIn K true) from op_notIn_seq) (pv 12) (pv 6) rfl)))))) (fun _ _ _ _ _ => (pv 12))) (pss_cons (ps_setLc (i := 10) rfl sc_law.nd rfl rfl rfl (pi_range1 rfl z_range (pa_cons (pv 4) pa_nil)) (blkOk_by (own := [("_law_k", 12)]) (show blkC ["_law_script", "_law_state", "_law_turn", "_law_system_here", "_law_many", "_law_allowed", "_law_targets", "_law_steps", "_law_most", "_law_rest", "_law_values", "_law_policies", "_law_k", "_law_policy", "_law_passed", "_law_choices_here"] (defScope s_law) _ _ = true by decide +kernel)) (fun _ _ _ _ _ => (pg_name (i := 12) sc_law.nd rfl (by first | exact Or.inl rfl | exact Or.inr rfl))) (fun _ _ _ _ _ => pts_nil) (fun _ _ _ _ _ => (pe_tup (pa_cons (pe_callTy call_int1 rfl z_int bt_int (pa_cons (pe_cmpR (show OpR _ _ (rIn K false) from op_in_seq) (pv 12) (pv 6) rfl) pa_nil)) (pa_cons pe_int pa_nil))))) (pss_cons (ps_set (i := 11) sc_law.nd rfl (by first | exact Or.inl rfl | exact Or.inr rfl) (pe_lst pa_nil)) (pss_cons (ps_for PassesOwn.never rfl (pi_range1 rfl z_range (pa_cons (pv 7) pa_nil)) (pg_name (i := 12) sc_law.nd rfl (by first | exact Or.inl rfl | exact Or.inr rfl)) (pss_cons (ps_asg (pe_c c__law_step hr (by omega) rfl (pa_cons (pv 3) (pa_cons (pv 9) (pa_cons (pv 10) (pa_cons (pv 8) pa_nil))))) (pg_tup rfl (pgs_cons (pg_name (i := 10) sc_law.nd rfl (by first | exact Or.inl rfl | exact Or.inr rfl)) (pgs_cons (pg_name (i := 13) sc_law.nd rfl (by first | exact Or.inl rfl | exact Or.inr rfl)) pgs_nil)))) (pss_cons (ps_expr (pe_bm PySem.F.plainAttrs_list PySem.F.slot_list_append PySem.F.type_list_append mt_append (pv 11) (pa_cons (pv 13) pa_nil))) pss_nil))) (pss_cons (ps_set (i := 14) sc_law.nd rfl (by first | exact Or.inl rfl | exact Or.inr rfl) (pe_lst (pa_cons (pe_callTy call_list_of rfl z_list bt_list (pa_cons (pv 5) pa_nil)) (pa_cons (pe_callTy call_list_of rfl z_list bt_list (pa_cons (pv 6) pa_nil)) pa_nil)))) (pss_cons (ps_if (pt_not (pt_val (pe_c c__law_equal hr (by omega) rfl (pa_cons (pe_c c_bounded_chances hr (by omega) rfl (pa_cons (pv 3) (pa_cons (pe_ix ix_seq (pv 14) pe_int (fun _ _ => rfl)) (pa_cons (pe_ix ix_seq (pv 14) pe_int (fun _ _ => rfl)) (pa_cons (pv 7) (pa_cons (pv 8) pa_nil)))))) (pa_cons (pe_tup (pa_cons (pv 10) (pa_cons (pv 11) pa_nil))) pa_nil))))) (pss_cons (ps_ret pe_bl) pss_nil) pss_nil) (pss_cons (ps_if (pt_cmpR (op_neD hu) (pv 14) (pe_lst (pa_cons (pv 5) (pa_cons (pv 6) pa_nil))) (nomark _)) (pss_cons (ps_ret pe_bl) pss_nil) pss_nil) pss_nil)))))))))))))))) (pss_cons (ps_ret pe_bl) pss_nil))), ?_⟩
    rw [show start ["_law_script", "_law_state", "_law_turn", "_law_system_here", "_law_many", "_law_allowed", "_law_targets", "_law_steps", "_law_most", "_law_rest", "_law_values", "_law_policies", "_law_k", "_law_policy", "_law_passed", "_law_choices_here"] [u0] = ([some u0, none, none, none, none, none, none, none, none, none, none, none, none, none, none, none] : L2.St) from rfl]
    obtain ⟨t1, e2, hm⟩ := bindS hm
    refine q_asgL2 (n := 1) (r := (rLst rInt)) (s := rInt) w (ea_cons (ev_call (ea_cons (ev_var rfl f0) ea_nil) ⟨_, _, rfl, rfl, e2, rfl, rfl⟩) (ea_cons (ev_int (i := 0)) ea_nil)) fun p4 B3 H3 x3 (w3 : Own K B3 M [⟨p4, (cL2 (rLst rInt) rInt), (t1, (0 : Int))⟩] H3) => ?_
    obtain ⟨o8, e9, hm⟩ := bindS hm
    refine q_forR w3 (ei_rng1 (ea_cons (ev_int (i := 2)) ea_nil) (by decide)) _ (fun s5 B10 σ23 => ∃ o24 o25 o26 o27 o28 o29 o30 o31 o32 o33 o34 o35 o36, σ23 = [some u0, some (.ref p4), o24, o25, o26, o27, o28, o29, o30, o31, o32, o33, o34, o35, o36, none]) (fun s5 => [⟨p4, (cL2 (rLst rInt) rInt), s5⟩]) ((t1, (0 : Int))) e9 (fun B9 x9 => ⟨_, _, _, _, _, _, _, _, _, _, _, _, _, rfl⟩) rfl ?_ ?_
    · skip
      rintro s5 x6 s315 v16 B10 B11 H12 σ23 hb7 x13 ⟨o24, o25, o26, o27, o28, o29, o30, o31, o32, o33, o34, o35, o36, rfl⟩ x14 w15 h17 ho22 N18 K19 hN20 hB21
      replace w15 : Own K B11 M [⟨p4, (cL2 (rLst rInt) rInt), s5⟩] H12 := w15
      refine g_name ?_
      obtain ⟨t37, e38, hb7⟩ := bindS hb7
      refine q_asg (n := 3) w15 (ev_callC 0 (x := ⟨p4, (cL2 (rLst rInt) rInt), s5⟩) (x' := ⟨p4, (cL2 (rLst rInt) rInt), t37.2⟩) (ea_cons (ev_varR rfl) (ea_cons (ev_int (i := 4)) ea_nil)) rfl ⟨_, _, _, _, rfl, rfl, e38, rfl, rfl⟩ rfl) fun v40 B39 H39 x39 (w39 : Own K B39 M [⟨p4, (cL2 (rLst rInt) rInt), t37.2⟩] H39) h41 => ?_
      obtain ⟨t42, e43, hb7⟩ := bindS hb7
      obtain ⟨s45, e46, hb7⟩ := bindS hb7
      refine q_cut (fun σ59 H56 => ∃ v57 B56, Ex B39 B56 ∧ Own K B56 M [⟨p4, (cL2 (rLst rInt) rInt), s45.2⟩] H56 ∧ σ59 = [some u0, some (.ref p4), some v16, some v57, o26, o27, o28, o29, o30, o31, o32, o33, o34, o35, o36, none] ∧ ((rTup (rTup (rT2 rInt (rTup (rT2 rInt rInt)))))).is K B56 v57 s45.1) ?_ ?_
      · skip
        refine q_ifc w39 (et_test (ev_eqI (ev_callC 0 (x := ⟨p4, (cL2 (rLst rInt) rInt), t37.2⟩) (x' := ⟨p4, (cL2 (rLst rInt) rInt), t42.2⟩) (ea_cons (ev_varR rfl) (ea_cons (ev_int (i := 8)) ea_nil)) rfl ⟨_, _, _, _, rfl, rfl, e43, rfl, rfl⟩ rfl) (ev_int (i := 0)))) (fun hb44 B47 H47 x47 (w47 : Own K B47 M [⟨p4, (cL2 (rLst rInt) rInt), t42.2⟩] H47) => ?_) (fun hb44 B55 H55 x55 (w55 : Own K B55 M [⟨p4, (cL2 (rLst rInt) rInt), t42.2⟩] H55) => ?_)
        · skip
          rw [if_pos hb44] at e46
          obtain ⟨t48, e49, e46⟩ := bindS e46
          obtain ⟨t50, e51, e46⟩ := bindS e46
          refine q_asg (n := 3) w47 (ev_callC 0 (x := ⟨p4, (cL2 (rLst rInt) rInt), t48.2⟩) (x' := ⟨p4, (cL2 (rLst rInt) rInt), t50.2⟩) (ea_cons (ev_varR rfl) (ea_cons (ev_add (ev_int (i := 6)) (ev_callC 0 (x := ⟨p4, (cL2 (rLst rInt) rInt), t42.2⟩) (x' := ⟨p4, (cL2 (rLst rInt) rInt), t48.2⟩) (ea_cons (ev_varR rfl) (ea_cons (ev_int (i := 7)) ea_nil)) rfl ⟨_, _, _, _, rfl, rfl, e49, rfl, rfl⟩ rfl)) ea_nil)) rfl ⟨_, _, _, _, rfl, rfl, e51, rfl, rfl⟩ rfl) fun v53 B52 H52 x52 (w52 : Own K B52 M [⟨p4, (cL2 (rLst rInt) rInt), t50.2⟩] H52) h54 => ?_
          replace e46 : some _ = some _ := e46
          cases e46
          exact ⟨v53, _, (x47.trans x52), w52, rfl, h54⟩
        rw [if_neg (by rw [hb44]; exact Bool.false_ne_true)] at e46
        replace e46 : some _ = some _ := e46
        cases e46
        exact ⟨v40, _, x55, w55, rfl, (((rTup (rTup (rT2 rInt (rTup (rT2 rInt rInt)))))).mono x55 h41)⟩
      rintro σ59' H56 ⟨v57, B56, x56, w56, rfl, h58⟩
      refine q_asg (n := 4) w56 (ev_len (ev_seqT (ev_var rfl h58))) fun v61 B60 H60 x60 (w60 : Own K B60 M [⟨p4, (cL2 (rLst rInt) rInt), s45.2⟩] H60) h62 => ?_
      obtain ⟨t63, e64, hb7⟩ := bindS hb7
      obtain ⟨t69, e70, hb7⟩ := bindS hb7
      refine q_asg (n := 5) w60 (ev_if (r := (rLst rInt)) (a := t69.1) (L2 := [⟨p4, (cL2 (rLst rInt) rInt), t69.2⟩]) (et_test (ev_eqI (ev_callC 0 (x := ⟨p4, (cL2 (rLst rInt) rInt), s45.2⟩) (x' := ⟨p4, (cL2 (rLst rInt) rInt), t63.2⟩) (ea_cons (ev_varR rfl) (ea_cons (ev_int (i := 3)) ea_nil)) rfl ⟨_, _, _, _, rfl, rfl, e64, rfl, rfl⟩ rfl) (ev_int (i := 0)))) (fun hb71 => by rw [if_pos hb71] at e70; obtain ⟨t65, e66, e70⟩ := bindS e70; obtain rfl := Option.some.inj e70; exact (ev_callC 0 (x := ⟨p4, (cL2 (rLst rInt) rInt), t63.2⟩) (x' := ⟨p4, (cL2 (rLst rInt) rInt), t65.2⟩) (ea_cons (ev_varR rfl) (ea_cons (ev_varI rfl h62) (ea_cons (ev_int (i := 2)) ea_nil))) rfl ⟨_, _, _, _, _, rfl, rfl, e66, rfl, rfl⟩ rfl)) (fun hb71 => by rw [if_neg (by rw [hb71]; exact Bool.false_ne_true)] at e70; obtain ⟨t67, e68, e70⟩ := bindS e70; obtain rfl := Option.some.inj e70; exact (ev_frz (el_listRg1 (ev_varI rfl h62) e68)))) fun v73 B72 H72 x72 (w72 : Own K B72 M [⟨p4, (cL2 (rLst rInt) rInt), t69.2⟩] H72) h74 => ?_
      obtain ⟨t75, e76, hb7⟩ := bindS hb7
      refine q_asg (n := 6) w72 (ev_callC 0 (x := ⟨p4, (cL2 (rLst rInt) rInt), t69.2⟩) (x' := ⟨p4, (cL2 (rLst rInt) rInt), t75.2⟩) (ea_cons (ev_varR rfl) (ea_cons (ev_varI rfl h62) (ea_cons (ev_int (i := 3)) ea_nil))) rfl ⟨_, _, _, _, _, rfl, rfl, e76, rfl, rfl⟩ rfl) fun v78 B77 H77 x77 (w77 : Own K B77 M [⟨p4, (cL2 (rLst rInt) rInt), t75.2⟩] H77) h79 => ?_
      obtain ⟨t80, e81, hb7⟩ := bindS hb7
      refine q_asg (n := 7) w77 (ev_callC 0 (x := ⟨p4, (cL2 (rLst rInt) rInt), t75.2⟩) (x' := ⟨p4, (cL2 (rLst rInt) rInt), t80.2⟩) (ea_cons (ev_varR rfl) (ea_cons (ev_int (i := 9)) ea_nil)) rfl ⟨_, _, _, _, rfl, rfl, e81, rfl, rfl⟩ rfl) fun v83 B82 H82 x82 (w82 : Own K B82 M [⟨p4, (cL2 (rLst rInt) rInt), t80.2⟩] H82) h84 => ?_
      obtain ⟨s86, e87, hb7⟩ := bindS hb7
      refine q_cut (fun σ152 H147 => ∃ v148 v150 B147, Ex B82 B147 ∧ Own K B147 M [⟨p4, (cL2 (rLst rInt) rInt), s86.2.2⟩] H147 ∧ σ152 = [some u0, some (.ref p4), some v16, some v150, some v61, some v73, some v78, some v148, o30, o31, o32, o33, o34, o35, o36, none] ∧ (rInt).is K B147 v148 s86.1 ∧ ((rTup (rTup (rT2 rInt (rTup (rT2 rInt rInt)))))).is K B147 v150 s86.2.1) ?_ ?_
      · skip
        refine q_ifc w82 (et_test (ev_gt (ev_varI rfl h62) (ev_int (i := 4)))) (fun hb85 B88 H88 x88 (w88 : Own K B88 M [⟨p4, (cL2 (rLst rInt) rInt), t80.2⟩] H88) => ?_) (fun hb85 B94 H94 x94 (w94 : Own K B94 M [⟨p4, (cL2 (rLst rInt) rInt), t80.2⟩] H94) => ?_)
        · skip
          rw [if_pos hb85] at e87
          obtain ⟨t89, e90, e87⟩ := bindS e87
          refine q_asg (n := 7) w88 (ev_callC 0 (x := ⟨p4, (cL2 (rLst rInt) rInt), t80.2⟩) (x' := ⟨p4, (cL2 (rLst rInt) rInt), t89.2⟩) (ea_cons (ev_varR rfl) (ea_cons (ev_int (i := 4)) ea_nil)) rfl ⟨_, _, _, _, rfl, rfl, e90, rfl, rfl⟩ rfl) fun v92 B91 H91 x91 (w91 : Own K B91 M [⟨p4, (cL2 (rLst rInt) rInt), t89.2⟩] H91) h93 => ?_
          replace e87 : some _ = some _ := e87
          cases e87
          exact ⟨v92, v57, _, (x88.trans x91), w91, rfl, h93, (((rTup (rTup (rT2 rInt (rTup (rT2 rInt rInt)))))).mono (((((x60.trans x72).trans x77).trans x82).trans x88).trans x91) h58)⟩
        rw [if_neg (by rw [hb85]; exact Bool.false_ne_true)] at e87
        obtain ⟨t97, e98, e87⟩ := bindS e87
        obtain ⟨s101, e102, e87⟩ := bindS e87
        refine q_cut (fun σ146 H141 => ∃ v142 v144 B141, Ex B94 B141 ∧ Own K B141 M [⟨p4, (cL2 (rLst rInt) rInt), s101.2.2⟩] H141 ∧ σ146 = [some u0, some (.ref p4), some v16, some v144, some v61, some v73, some v78, some v142, o30, o31, o32, o33, o34, o35, o36, none] ∧ (rInt).is K B141 v142 s101.1 ∧ ((rTup (rTup (rT2 rInt (rTup (rT2 rInt rInt)))))).is K B141 v144 s101.2.1) ?_ ?_
        · skip
          refine q_ifc w94 (et_and' (d := t97.1) (et_test (ev_eqI (ev_varI rfl h17) (ev_int (i := 1)))) (fun hb99 => by rw [if_pos hb99] at e98; obtain ⟨t95, e96, e98⟩ := bindS e98; obtain rfl := Option.some.inj e98; exact (et_test (ev_eqI (ev_callC 0 (x := ⟨p4, (cL2 (rLst rInt) rInt), t80.2⟩) (x' := ⟨p4, (cL2 (rLst rInt) rInt), t95.2⟩) (ea_cons (ev_varR rfl) (ea_cons (ev_int (i := 8)) ea_nil)) rfl ⟨_, _, _, _, rfl, rfl, e96, rfl, rfl⟩ rfl) (ev_int (i := 0))))) (fun hb99 => by rw [if_neg (by rw [hb99]; exact Bool.false_ne_true)] at e98; obtain rfl := Option.some.inj e98; exact ⟨rfl, rfl⟩)) (fun hb100 B103 H103 x103 (w103 : Own K B103 M [⟨p4, (cL2 (rLst rInt) rInt), t97.2⟩] H103) => ?_) (fun hb100 B140 H140 x140 (w140 : Own K B140 M [⟨p4, (cL2 (rLst rInt) rInt), t97.2⟩] H140) => ?_)
          · skip
            rw [if_pos hb100] at e102
            refine q_asg (n := 7) w103 (ev_int (i := 30)) fun v105 B104 H104 x104 (w104 : Own K B104 M [⟨p4, (cL2 (rLst rInt) rInt), t97.2⟩] H104) h106 => ?_
            obtain ⟨t133, e134, e102⟩ := bindS e102
            obtain ⟨t135, e136, e102⟩ := bindS e102
            refine q_asg (n := 3) w104 (ev_tupOfL (ev_frz (el_lc (S := Unit) (ys := t135.1) (s1 := t135.2) (s0 := ()) (σ' := [some u0, some (.ref p4), some v16, some v57, some v61, some v73, some v78, some v105, o30, o31, o32, o33, o34, o35, o36, none]) (rTup (rT2 rInt (rTup (rT2 rInt rInt)))) (ei_tup (ev_var rfl (((rTup (rTup (rT2 rInt (rTup (rT2 rInt rInt)))))).mono ((((((x60.trans x72).trans x77).trans x82).trans x94).trans x103).trans x104) h58))) _ (fun (s107 : Unit) => [⟨p4, (cL2 (rLst rInt) rInt), t97.2⟩]) rfl e136 e134 rfl (by rintro s107 x114 o119 s120 v112 D117 a118 B108 H109 hb116 x110 w111 h113 PY121 PN122 qY123 qN124; replace w111 : Own K B108 M [⟨D117, (cLst (rTup (rT2 rInt (rTup (rT2 rInt rInt))))), a118⟩, ⟨p4, (cL2 (rLst rInt) rInt), t97.2⟩] H109 := w111; refine g_name ?_; refine ⟨rfl, ?_⟩; obtain ⟨t131, e132, hb116⟩ := bindS hb116; obtain ⟨rfl, rfl⟩ := Prod.mk.inj (Option.some.inj hb116); refine lc_yes ?_; exact (ev_call (ea_cons (ev_var rfl h113) ea_nil) ⟨_, _, rfl, rfl, e132, rfl, rfl⟩) B108 H109 (Ex.refl _) w111 _ fun v125 B126 H127 x128 w129 h130 => qY123 v125 B126 H127 _ rfl x128 w129 h130)))) fun v138 B137 H137 x137 (w137 : Own K B137 M [⟨p4, (cL2 (rLst rInt) rInt), t97.2⟩] H137) h139 => ?_
            replace e102 : some _ = some _ := e102
            cases e102
            exact ⟨v105, v138, _, ((x103.trans x104).trans x137), w137, rfl, ((rInt).mono x137 h106), h139⟩
          rw [if_neg (by rw [hb100]; exact Bool.false_ne_true)] at e102
          replace e102 : some _ = some _ := e102
          cases e102
          exact ⟨v83, v57, _, x140, w140, rfl, ((rInt).mono (x94.trans x140) h84), (((rTup (rTup (rT2 rInt (rTup (rT2 rInt rInt)))))).mono (((((x60.trans x72).trans x77).trans x82).trans x94).trans x140) h58)⟩
        rintro σ146' H141 ⟨v142, v144, B141, x141, w141, rfl, h143, h145⟩
        replace e87 : some _ = some _ := e87
        cases e87
        exact ⟨v142, v144, _, (x94.trans x141), w141, rfl, h143, h145⟩
      rintro σ152' H147 ⟨v148, v150, B147, x147, w147, rfl, h149, h151⟩
      obtain ⟨t153, e154, hb7⟩ := bindS hb7
      refine q_asg (n := 8) w147 (ev_eqI (ev_callC 0 (x := ⟨p4, (cL2 (rLst rInt) rInt), s86.2.2⟩) (x' := ⟨p4, (cL2 (rLst rInt) rInt), t153.2⟩) (ea_cons (ev_varR rfl) (ea_cons (ev_int (i := 2)) ea_nil)) rfl ⟨_, _, _, _, rfl, rfl, e154, rfl, rfl⟩ rfl) (ev_int (i := 0))) fun v156 B155 H155 x155 (w155 : Own K B155 M [⟨p4, (cL2 (rLst rInt) rInt), t153.2⟩] H155) h157 => ?_
      obtain ⟨t158, e159, hb7⟩ := bindS hb7
      obtain ⟨t189, e190, hb7⟩ := bindS hb7
      obtain ⟨t191, e192, hb7⟩ := bindS hb7
      refine q_asg (n := 9) w155 (ev_frz (el_lc (S := Unit) (ys := t191.1) (s1 := t191.2) (s0 := ()) (σ' := [some u0, some (.ref p4), some v16, some v150, some v61, some v73, some v78, some v148, some v156, o31, o32, o33, none, o35, o36, none]) rInt (ei_rng1 (ea_cons (ev_varI rfl h62) ea_nil) e159) _ (fun (s160 : Unit) => [⟨p4, (cL2 (rLst rInt) rInt), t153.2⟩]) rfl e192 e190 rfl (by rintro s160 x167 o172 s173 v165 D170 a171 B161 H162 hb169 x163 w164 h166 PY174 PN175 qY176 qN177; replace w164 : Own K B161 M [⟨D170, (cLst rInt), a171⟩, ⟨p4, (cL2 (rLst rInt) rInt), t153.2⟩] H162 := w164; refine g_name ?_; refine ⟨rfl, ?_⟩; exact (et_and (et_test (ev_inI (ev_varI rfl h166) (ev_seqL (ev_var rfl (((rLst rInt)).mono ((((x77.trans x82).trans x147).trans x155).trans x163) h74))))) fun _ => (et_test (ev_niI (ev_varI rfl h166) (ev_seqL (ev_var rfl (((rLst rInt)).mono (((x82.trans x147).trans x155).trans x163) h79)))))) B161 H162 (Ex.refl _) w164 _ fun B184 H185 x186 (w187 : Own K B184 M [⟨D170, (cLst rInt), a171⟩, ⟨p4, (cL2 (rLst rInt) rInt), t153.2⟩] H185) => lc_if (fun hq188 => by rw [if_pos hq188] at hb169; obtain ⟨rfl, rfl⟩ := Prod.mk.inj (Option.some.inj hb169); exact (ev_varI rfl h166) B184 H185 (Ex.refl _) w187 _ fun v178 B179 H180 x181 w182 h183 => qY176 v178 B179 H180 _ rfl (x186.trans x181) w182 h183) (fun hq188 => by rw [if_neg (by rw [hq188]; exact Bool.false_ne_true)] at hb169; obtain ⟨rfl, rfl⟩ := Prod.mk.inj (Option.some.inj hb169); exact qN177 B184 H185 rfl x186 w187)))) fun v194 B193 H193 x193 (w193 : Own K B193 M [⟨p4, (cL2 (rLst rInt) rInt), t153.2⟩] H193) h195 => ?_
      obtain ⟨t196, e197, hb7⟩ := bindS hb7
      obtain ⟨t222, e223, hb7⟩ := bindS hb7
      obtain ⟨t224, e225, hb7⟩ := bindS hb7
      refine q_asg (n := 10) w193 (ev_frz (el_lc (S := Unit) (ys := t224.1) (s1 := t224.2) (s0 := ()) (σ' := [some u0, some (.ref p4), some v16, some v150, some v61, some v73, some v78, some v148, some v156, some v194, o32, o33, none, o35, o36, none]) (rT2 rInt rInt) (ei_rng1 (ea_cons (ev_varI rfl h62) ea_nil) e197) _ (fun (s198 : Unit) => [⟨p4, (cL2 (rLst rInt) rInt), t153.2⟩]) rfl e225 e223 rfl (by rintro s198 x205 o210 s211 v203 D208 a209 B199 H200 hb207 x201 w202 h204 PY212 PN213 qY214 qN215; replace w202 : Own K B199 M [⟨D208, (cLst (rT2 rInt rInt)), a209⟩, ⟨p4, (cL2 (rLst rInt) rInt), t153.2⟩] H200 := w202; refine g_name ?_; refine ⟨rfl, ?_⟩; obtain ⟨rfl, rfl⟩ := Prod.mk.inj (Option.some.inj hb207); refine lc_yes ?_; exact (ev_T2 (ea_cons (ev_intB (ev_inI (ev_varI rfl h204) (ev_seqL (ev_var rfl (((rLst rInt)).mono ((((x82.trans x147).trans x155).trans x193).trans x201) h79))))) (ea_cons (ev_int (i := 1)) ea_nil))) B199 H200 (Ex.refl _) w202 _ fun v216 B217 H218 x219 w220 h221 => qY214 v216 B217 H218 _ rfl x219 w220 h221))) fun v227 B226 H226 x226 (w226 : Own K B226 M [⟨p4, (cL2 (rLst rInt) rInt), t153.2⟩] H226) h228 => ?_
      refine q_asgL (n := 11) w226 (el_lst (r := (rTup rInt)) ([] : List (List Int)) ea_nil) fun p230 B229 H229 x229 (w229 : Own K B229 M [⟨p230, (cLst (rTup rInt)), ([] : List (List Int))⟩, ⟨p4, (cL2 (rLst rInt) rInt), t153.2⟩] H229) => ?_
      obtain ⟨t231, e232, hb7⟩ := bindS hb7
      obtain ⟨s268, e237, hb7⟩ := bindS hb7
      refine q_fold w229 (ei_rng1 (ea_cons (ev_varI rfl h149) ea_nil) e232) _ (fun s233 B238 σ251 => ∃ v252 o254 o255, σ251 = [some u0, some (.ref p4), some v16, some v150, some v61, some v73, some v78, some v148, some v156, some v194, some v252, some (.ref p230), o254, o255, o36, none] ∧ ((rLst (rT2 rInt rInt))).is K B238 v252 s233.1) (fun s233 => [⟨p230, (cLst (rTup rInt)), s233.2⟩, ⟨p4, (cL2 (rLst rInt) rInt), t153.2⟩]) ((t224.1, ([] : List (List Int)))) e237 (fun B9 x9 => ⟨v227, _, _, rfl, (((rLst (rT2 rInt rInt))).mono x9 (((rLst (rT2 rInt rInt))).mono x229 h228))⟩) rfl ?_ ?_
      · skip
        rintro s233 x234 s295 v244 B238 B239 H240 σ251 hb235 x241 ⟨v252, o254, o255, rfl, h253⟩ x242 w243 h245 N246 K247 hN248
        replace w243 : Own K B239 M [⟨p230, (cLst (rTup rInt)), s233.2⟩, ⟨p4, (cL2 (rLst rInt) rInt), t153.2⟩] H240 := w243
        refine g_name ?_
        obtain ⟨t256, e257, hb235⟩ := bindS hb235
        refine q_unp w243 (ev_call (ea_cons (ev_var rfl (((rTup (rTup (rT2 rInt (rTup (rT2 rInt rInt)))))).mono (((((x155.trans x193).trans x226).trans x229).trans x241).trans x242) h151)) (ea_cons (ev_var rfl (((rLst rInt)).mono (((x226.trans x229).trans x241).trans x242) h195)) (ea_cons (ev_var rfl (((rLst (rT2 rInt rInt))).mono x242 h253)) (ea_cons (ev_varB rfl h157) ea_nil)))) ⟨_, _, _, _, _, rfl, rfl, e257, rfl, rfl⟩) fun v259 B258 H258 x258 (w258 : Own K B258 M [⟨p230, (cLst (rTup rInt)), s233.2⟩, ⟨p4, (cL2 (rLst rInt) rInt), t153.2⟩] H258) h260 => ?_
        refine g_T2 h260 w258 fun v261 v262 h263 h264 => ?_
        refine g_cons ?_
        refine g_name ?_
        refine g_cons ?_
        refine g_name ?_
        refine g_nil ?_
        obtain ⟨t265, e266, hb235⟩ := bindS hb235
        refine q_app (n := 0) (m := 11) w258 rfl (ev_var rfl h264) rfl ⟨0, _, rfl⟩ e266 fun B267 H267 x267 (w267 : Own K B267 M [⟨p230, (cLst (rTup rInt)), (s233.2 ++ [t256.2])⟩, ⟨p4, (cL2 (rLst rInt) rInt), t153.2⟩] H267) => ?_
        replace hb235 : some _ = some _ := hb235
        cases hb235
        exact hN248 _ _ _ (x258.trans x267) w267 ⟨v261, _, _, rfl, (((rLst (rT2 rInt rInt))).mono x267 h263)⟩
      rintro B269 H270 σ273 x271 w272 ⟨v274, o276, o277, rfl, h275⟩
      replace w272 : Own K B269 M [⟨p230, (cLst (rTup rInt)), s268.2⟩, ⟨p4, (cL2 (rLst rInt) rInt), t153.2⟩] H270 := w272
      refine q_asg (n := 14) w272 (ev_frz (el_lst (r := (rLst rInt)) [t69.1, t75.1] (ea_cons (ev_frz (el_listOf (ev_seqL (ev_var rfl (((rLst rInt)).mono (((((((x77.trans x82).trans x147).trans x155).trans x193).trans x226).trans x229).trans x271) h74))))) (ea_cons (ev_frz (el_listOf (ev_seqL (ev_var rfl (((rLst rInt)).mono ((((((x82.trans x147).trans x155).trans x193).trans x226).trans x229).trans x271) h79))))) ea_nil)))) fun v279 B278 H278 x278 (w278 : Own K B278 M [⟨p230, (cLst (rTup rInt)), s268.2⟩, ⟨p4, (cL2 (rLst rInt) rInt), t153.2⟩] H278) h280 => ?_
      obtain ⟨t281, e282, hb7⟩ := bindS hb7
      obtain ⟨t283, e284, hb7⟩ := bindS hb7
      obtain ⟨t285, e286, hb7⟩ := bindS hb7
      obtain ⟨t287, e288, hb7⟩ := bindS hb7
      refine q_if w278 (et_not (et_B (ev_call (ea_cons (ev_dq (ev_call (ea_cons (ev_var rfl (((rTup (rTup (rT2 rInt (rTup (rT2 rInt rInt)))))).mono (((((x155.trans x193).trans x226).trans x229).trans x271).trans x278) h151)) (ea_cons (ev_ix (ev_seqL (ev_var rfl h280)) (ev_int (i := 0)) e282) (ea_cons (ev_ix (ev_seqL (ev_var rfl h280)) (ev_int (i := 1)) e284) (ea_cons (ev_varI rfl h149) (ea_cons (ev_varB rfl h157) ea_nil))))) ⟨_, _, _, _, _, _, rfl, rfl, e286, rfl, rfl⟩) (dq_T2 (dq_lst (dq_T2 dq_int dq_int)) (dq_lst (dq_tup dq_int)))) (ea_cons (ev_dq (ev_T2 (ea_cons (ev_var rfl (((rLst (rT2 rInt rInt))).mono x278 h275)) (ea_cons (ev_frzC (n := 0) (ev_varR rfl) rfl) ea_nil))) (dq_T2 (dq_lst (dq_T2 dq_int dq_int)) (dq_lst (dq_tup dq_int)))) ea_nil)) ⟨_, _, _, rfl, rfl, e288, rfl, rfl⟩))) (fun hb289 B290 H290 x290 (w290 : Own K B290 M [⟨p4, (cL2 (rLst rInt) rInt), t153.2⟩] H290) => ?_) (fun hb289 B291 H291 x291 (w291 : Own K B291 M [⟨p4, (cL2 (rLst rInt) rInt), t153.2⟩] H291) => ?_)
      · skip
        rw [if_pos hb289] at hb7
        replace hb7 : some _ = some _ := hb7
        obtain rfl := Option.some.inj hb7
        obtain rfl := ho22 _ rfl
        replace hm : some _ = some _ := hm
        obtain rfl := Option.some.inj hm
        exact q_ret w290 (ev_bl (b := false)) fun v9 B9 H9 x9 w9 h9 => k _ _ _ (((((((((((((((((x3.trans x13).trans x14).trans x39).trans x56).trans x60).trans x72).trans x77).trans x82).trans x147).trans x155).trans x193).trans x226).trans x229).trans x271).trans x278).trans x290).trans x9) w9.tail h9
      rw [if_neg (by rw [hb289]; exact Bool.false_ne_true)] at hb7
      refine q_if w291 (et_test (ev_neT (dr_lst (dr_lst dr_int)) (by decide) (ev_var rfl (((rLst (rLst rInt))).mono x291 h280)) (ev_frz (el_lst (r := (rLst rInt)) [t69.1, t75.1] (ea_cons (ev_var rfl (((rLst rInt)).mono (((((((((x77.trans x82).trans x147).trans x155).trans x193).trans x226).trans x229).trans x271).trans x278).trans x291) h74)) (ea_cons (ev_var rfl (((rLst rInt)).mono ((((((((x82.trans x147).trans x155).trans x193).trans x226).trans x229).trans x271).trans x278).trans x291) h79)) ea_nil)))))) (fun hb292 B293 H293 x293 (w293 : Own K B293 M [⟨p4, (cL2 (rLst rInt) rInt), t153.2⟩] H293) => ?_) (fun hb292 B294 H294 x294 (w294 : Own K B294 M [⟨p4, (cL2 (rLst rInt) rInt), t153.2⟩] H294) => ?_)
      · skip
        rw [if_pos hb292] at hb7
        replace hb7 : some _ = some _ := hb7
        obtain rfl := Option.some.inj hb7
        obtain rfl := ho22 _ rfl
        replace hm : some _ = some _ := hm
        obtain rfl := Option.some.inj hm
        exact q_ret w293 (ev_bl (b := false)) fun v9 B9 H9 x9 w9 h9 => k _ _ _ ((((((((((((((((((x3.trans x13).trans x14).trans x39).trans x56).trans x60).trans x72).trans x77).trans x82).trans x147).trans x155).trans x193).trans x226).trans x229).trans x271).trans x278).trans x291).trans x293).trans x9) w9.tail h9
      rw [if_neg (by rw [hb292]; exact Bool.false_ne_true)] at hb7
      replace hb7 : some _ = some _ := hb7
      cases hb7
      exact hN20 _ _ _ _ rfl ((((((((((((((x39.trans x56).trans x60).trans x72).trans x77).trans x82).trans x147).trans x155).trans x193).trans x226).trans x229).trans x271).trans x278).trans x291).trans x294) w294 ⟨_, _, _, _, _, _, _, _, _, _, _, _, _, rfl⟩
    rintro s296 B297 H298 σ301 rfl x299 w300 ⟨o302, o303, o304, o305, o306, o307, o308, o309, o310, o311, o312, o313, o314, rfl⟩
    dsimp only at hm
    replace w300 : Own K B297 M [⟨p4, (cL2 (rLst rInt) rInt), s296⟩] H298 := w300
    replace hm : some _ = some _ := hm
    obtain rfl := Option.some.inj hm
    exact q_ret w300 (ev_bl (b := true)) fun v9 B9 H9 x9 w9 h9 => k _ _ _ ((x3.trans x299).trans x9) w9.tail h9
end
end L3

namespace L3
open PySem L2
/-! ### the prelude of the laws: tape, draw, take, equal -/
def TapeOk (t : List Int) : Prop := t.length ≤ 4000 ∧ ∀ x ∈ t, 0 ≤ x ∧ x < 2 ^ 31
theorem all_app {t : List Int} {x : Int} (h : ∀ y ∈ t, 0 ≤ y ∧ y < (2 : Int) ^ 31) (hx : 0 ≤ x ∧ x < (2 : Int) ^ 31) : ∀ y ∈ t ++ [x], 0 ≤ y ∧ y < (2 : Int) ^ 31 := fun y hy => by
  rcases List.mem_append.mp hy with hy | hy
  · exact h y hy
  · rw [List.mem_singleton.mp hy]; exact hx
theorem tape_ok {ns : List Int} (h : ns.length ≤ 63) : Yes (m_l_tape ns) TapeOk := by
  unfold m_l_tape
  refine y_bind (Q := TapeOk) ?_ fun t h => y_some h
  refine (y_foldI _ (fun i t => t.length ≤ 40 * i ∧ ∀ x ∈ t, 0 ≤ x ∧ x < (2 : Int) ^ 31) ⟨by simp, by simp⟩ ?_).mono fun t ht => ⟨by have := ht.1; omega, ht.2⟩
  rintro i x s hx ⟨h1, h2⟩
  have hi : i < ns.length := (List.getElem?_eq_some_iff.mp hx).1
  refine y_eq (mulI_l (by decide) (by decide)) ?_
  refine y_bind (Q := fun n => 0 ≤ n) (y_if (fun c => y_some ?_) (fun c => y_some ?_)) fun n hn => ?_
  · have := of_decide_eq_true c; omega
  · have : ¬ (2 * x < 0) := fun z => c (decide_eq_true z)
    omega
  refine y_eq (a := 1000000000000000000) (by decide +kernel) ?_
  refine y_bind (Q := fun (p : Int × List Int) => p.2.length ≤ 40 * (i + 1) ∧ ∀ x ∈ p.2, 0 ≤ x ∧ x < (2 : Int) ^ 31) (y_if (fun c => ?_) (fun c => ?_)) fun p hp => y_some hp
  · refine y_bind (Q := fun (p : Int × List Int) => p.2.length ≤ 40 * (i + 1) ∧ ∀ x ∈ p.2, 0 ≤ x ∧ x < (2 : Int) ^ 31) ?_ fun p hp => y_some hp
    refine (y_foldI _ (fun j (p : Int × List Int) => 0 ≤ p.1 ∧ p.2.length ≤ 40 * i + j ∧ ∀ x ∈ p.2, 0 ≤ x ∧ x < (2 : Int) ^ 31) ⟨hn, h1, h2⟩ ?_).mono fun p hp => ⟨by have := hp.2.1; rw [rng_len] at this; simp at this; omega, hp.2.2⟩
    rintro j y ⟨m, t⟩ hy ⟨g1, g2, g3⟩
    have hj := (rng_at hy).2
    have hj : j < 40 := by omega
    refine y_bind (Q := fun (p : Int × List Int) => 0 ≤ p.1 ∧ p.2.length ≤ 40 * i + (j + 1) ∧ ∀ x ∈ p.2, 0 ≤ x ∧ x < (2 : Int) ^ 31) (y_if (fun c => ?_) (fun c => ?_)) fun p hp => y_some hp
    · refine y_eq (modI_s (by decide)) (y_eq (room_s (by show t.length ≤ _; show _ ≤ 1000000; have : t.length ≤ 40 * i + j := g2; omega)) (y_eq (divI_s (by decide) (by decide)) (y_some ⟨?_, ?_, ?_⟩)))
      · show 0 ≤ m / 1000
        have : 0 ≤ m := g1
        omega
      · show (t ++ [_]).length ≤ _
        have : t.length ≤ 40 * i + j := g2
        simp
        omega
      · refine all_app g3 ?_
        show 0 ≤ m % 1000 ∧ m % 1000 < _
        omega
    · exact y_some ⟨g1, by have : t.length ≤ 40 * i + j := g2; show t.length ≤ _; omega, g3⟩
  · refine y_bind (Q := fun (t : List Int) => t.length ≤ 40 * (i + 1) ∧ ∀ x ∈ t, 0 ≤ x ∧ x < (2 : Int) ^ 31) ?_ fun p hp => y_some hp
    refine (y_foldI _ (fun j (t : List Int) => t.length ≤ 40 * i + j ∧ ∀ x ∈ t, 0 ≤ x ∧ x < (2 : Int) ^ 31) ⟨h1, h2⟩ ?_).mono fun p hp => ⟨by have := hp.1; rw [rng_len] at this; simp at this; omega, hp.2⟩
    rintro j y t hy ⟨g2, g3⟩
    have hj := (rng_at hy).2
    have hj : j < 3 := by omega
    refine y_eq (mulI_r (by decide) (by decide)) (y_eq (mulI_r (by decide) (by decide)) (y_eq (modI_s (by decide)) (y_eq (mulI_r (by decide) (by decide)) (y_eq (divI_s (by decide) (by decide)) (y_eq (modI_s (by decide)) (y_eq (room_s (by omega)) (y_some ⟨?_, ?_⟩)))))))
    · rw [List.length_append, List.length_singleton]; omega
    · refine all_app g3 ?_
      omega
theorem draw_ok {t : List Int} {at' many : Int} (ht : TapeOk t) (h0 : 0 ≤ at') (h1 : at' < 2 ^ 62) (hm : 0 < many) : Yes (m_l_draw t at' many) fun r => 0 ≤ r ∧ r < many := by
  unfold m_l_draw
  refine y_if (fun c => ?_) (fun c => ?_)
  · have c := of_decide_eq_true c
    obtain ⟨n, rfl⟩ := Int.eq_ofNat_of_zero_le h0
    have hn : n < t.length := by omega
    refine y_eq (ixL_s (List.getElem?_eq_getElem hn) rfl) (y_eq (modI_s hm) (y_some ⟨Int.emod_nonneg _ (by omega), Int.emod_lt_of_pos _ hm⟩))
  · refine y_bind (Q := fun _ => True) (y_if (fun c => ?_) fun c => y_some trivial) fun n _ => ?_
    · have c := of_decide_eq_true c
      obtain ⟨n, hn⟩ := Int.eq_ofNat_of_zero_le (Int.emod_nonneg at' (show (t.length : Int) ≠ 0 by omega))
      have hl := Int.emod_lt_of_pos at' c
      refine y_eq (modI_s c) (y_eq (ixL_s (n := n) (List.getElem?_eq_getElem (by omega)) hn) (y_some trivial))
    · refine y_eq (mulI_r (by omega) (by omega)) (y_eq (mulI_r (by decide) (by decide)) (y_eq (mulI_r (by decide) (by decide)) (y_eq (modI_s (by decide)) (y_eq (modI_s hm) (y_some ⟨Int.emod_nonneg _ (by omega), Int.emod_lt_of_pos _ hm⟩)))))
/-- the tape and how far it is read -/
def StOk (s : List Int × Int) (n : Int) : Prop := TapeOk s.1 ∧ 0 ≤ s.2 ∧ s.2 ≤ n
theorem take_ok {s : List Int × Int} {n many : Int} (hs : StOk s n) (hn : n < 2 ^ 61) (hm : 0 < many) : Yes (m_l_take s many) fun r => (0 ≤ r.1 ∧ r.1 < many) ∧ StOk r.2 (n + 1) := by
  unfold m_l_take
  obtain ⟨h1, h2, h3⟩ := hs
  refine y_bind (draw_ok h1 (by show 0 ≤ s.2 + 1; omega) (by show s.2 + 1 < _; omega) hm) fun r hr => y_some ⟨hr, h1, by show 0 ≤ s.2 + 1; omega, by show s.2 + 1 ≤ _; omega⟩
/-- == of a kind -/
theorem eqvD_ok {a b : PyData} (ha : SeqAt.shaped a = true) (hb : SeqAt.shaped b = true) : eqvD a b = some (PyData.eqv a b) := if_pos ⟨ha, hb⟩
end L3
namespace L3
open PySem L2
/-! ### law_equal is equality -/
def okD : Nat → PyData → Prop
  | 0, _ => False
  | _ + 1, .none => True
  | _ + 1, .bool _ => True
  | _ + 1, .int _ => True
  | _ + 1, .str s => SeqAt.shaped (.str s) = true
  | n + 1, .list xs => xs.length < 2 ^ 60 ∧ ∀ x ∈ xs, okD n x
  | n + 1, .tuple xs => xs.length < 2 ^ 60 ∧ ∀ x ∈ xs, okD n x
  | _ + 1, .dict _ => False
def Is (o : Option Bool) (p : Prop) : Prop := ∃ c : Bool, o = some c ∧ (c = true ↔ p)
theorem is_t {p : Prop} (h : p) : Is (some true) p := ⟨true, rfl, fun _ => h, fun _ => rfl⟩
theorem is_f {p : Prop} (h : ¬ p) : Is (some false) p := ⟨false, rfl, fun e => absurd e (by decide), fun e => absurd e h⟩
theorem is_p {p : Prop} {b : Bool} {x y : Option Bool} (h : b = true) (k : Is x p) : Is (if b = true then x else y) p := by rw [if_pos h]; exact k
theorem is_n {p : Prop} {b : Bool} {x y : Option Bool} (h : b = false) (k : Is y p) : Is (if b = true then x else y) p := by rw [if_neg (by rw [h]; exact Bool.false_ne_true)]; exact k
theorem is_bd {α : Type} {p : Prop} {o : Option α} {a : α} {f : α → Option Bool} (h : o = some a) (k : Is (f a) p) : Is (Option.bind o f) p := by rw [h]; exact k
theorem is_bi {p : Prop} {o : Option Bool} (k : Is o p) : Is (Option.bind o fun t => some t) p := by obtain ⟨c, h, g⟩ := k; rw [h]; exact ⟨c, rfl, g⟩
theorem is_b {p : Prop} {c : Bool} (h : c = true ↔ p) : Is (some c) p := ⟨c, rfl, h⟩
theorem eq_seq {f : PyData → PyData → Option Bool} {xs ys : List PyData} {A B : PyData} (hl : xs.length = ys.length) (hb : ys.length < 2 ^ 60) (hA : ∀ i : Int, ixD A i = atI xs i) (hB : ∀ i : Int, ixD B i = atI ys i) (h : ∀ x ∈ xs, ∀ y ∈ ys, Is (f x y) (x = y)) :
    Yes (loopR (S := Unit) (R := Bool) (α := Int) (fun (s48 : Unit) (x49 : Int) => (
                  Option.bind (ixD A x49) fun t68 =>
                  Option.bind (ixD B x49) fun t70 =>
                  Option.bind (f t68 t70) fun t72 =>
                  if (!t72) = true then
                    some (Stp.rt false)
                  else
                    some (Stp.nx (()))
                )) (()) (rng 0 ys.length)) fun o => match o with | .inl _ => xs = ys | .inr b => b = false ∧ xs ≠ ys := by
  refine y_loopR _ (fun i _ => ∀ j < i, xs[j]? = ys[j]?) _ (fun j hj => absurd hj (by omega)) ?_ ?_
  · rintro i x ⟨⟩ hx hI
    obtain ⟨h1, h2⟩ := rng_at hx
    have hi : i < ys.length := by omega
    have hi' : i < xs.length := by omega
    have e1 : x = (i : Int) := by omega
    obtain ⟨v, g1, g2⟩ := h _ (List.getElem_mem hi') _ (List.getElem_mem hi)
    refine y_eq (by rw [hA]; exact ixL_s (List.getElem?_eq_getElem hi') e1) (y_eq (by rw [hB]; exact ixL_s (List.getElem?_eq_getElem hi) e1) (y_eq g1 (y_if (fun c => y_some ⟨rfl, fun e => ?_⟩) fun c => y_some ?_)))
    · subst e
      rw [g2.mpr rfl] at c
      exact absurd c (by decide)
    · intro j hj
      by_cases e : j = i
      · subst e
        rw [List.getElem?_eq_getElem hi, List.getElem?_eq_getElem hi']
        have c : v = true := by revert c; cases v <;> simp
        rw [g2.mp c]
      · exact hI j (by omega)
  · intro s hI
    rw [rng_len] at hI
    refine List.ext_getElem? fun j => ?_
    by_cases e : j < ys.length
    · exact hI j (by omega)
    · rw [List.getElem?_eq_none (by omega), List.getElem?_eq_none (by omega)]
theorem eq_seq2 {n : Nat} (IH : ∀ a b : PyData, okD n a → okD n b → Is (m_l_equal n a b) (a = b)) : ∀ xs ys : List PyData, xs.length < 2 ^ 60 → ys.length < 2 ^ 60 → (∀ x ∈ xs, okD n x) → (∀ x ∈ ys, okD n x) → ∀ A B : PyData, (∀ i : Int, ixD A i = atI xs i) → (∀ i : Int, ixD B i = atI ys i) → lenD A = some (xs.length : Int) → lenD B = some (ys.length : Int) →
        Is (Option.bind (lenD A) fun t37 => Option.bind (lenD B) fun t39 => if (!decide (t37 = t39)) = true then some false else Option.bind (lenD B) fun t44 => Option.bind (small62 t44) fun t46 =>
          Option.bind (loopR (S := Unit) (R := Bool) (α := Int) (fun (s48 : Unit) (x49 : Int) => (
                  Option.bind (ixD A x49) fun t68 =>
                  Option.bind (ixD B x49) fun t70 =>
                  Option.bind (m_l_equal n t68 t70) fun t72 =>
                  if (!t72) = true then
                    some (Stp.rt false)
                  else
                    some (Stp.nx (()))
                )) (()) ((rng 0 t44))) fun o51 => match o51 with | .inl s77 => some true | .inr q9 => some q9) (xs = ys) := by
  intro xs ys l1 l2 h1 h2 A B hA hB lA lB
  refine is_bd lA (is_bd lB ?_)
  by_cases e : xs.length = ys.length
  · refine is_n (by rw [e]; simp) (is_bd lB (is_bd (small62_s (by omega) (by omega)) ?_))
    obtain ⟨o, g1, g2⟩ := eq_seq (f := m_l_equal n) e l2 hA hB fun x hx y hy => IH x y (h1 x hx) (h2 y hy)
    refine is_bd g1 ?_
    match o, g2 with
    | .inl _, g2 => exact is_t g2
    | .inr b, ⟨g2, g3⟩ => subst g2; exact is_f g3
  · refine is_p ?_ (is_f fun h => e (congrArg List.length h))
    rw [Bool.not_eq_true']
    exact decide_eq_false fun h => e (by omega)
theorem eq_ok : ∀ (n : Nat) (a b : PyData), okD n a → okD n b → Is (m_l_equal n a b) (a = b)
  | 0, _, _, h, _ => h.elim
  | n + 1, a, b, ha, hb => by
    show Is (F_m_l_equal _ _ _) _
    unfold F_m_l_equal
    cases b with
    | none =>
      refine is_p rfl ?_
      cases a <;> first | exact is_t rfl | exact is_f (by intro e; cases e)
    | bool y =>
      refine is_n rfl (is_p rfl (is_bi ?_))
      cases a with
      | bool x => exact is_p rfl (is_bi (by rw [eqvD_ok (a := .bool x) (b := .bool y) (by rfl) (by rfl)]; exact is_b (by simp [PyData.eqv])))
      | _ => exact is_n rfl (is_f (by intro e; cases e))
    | int y =>
      refine is_n rfl (is_n rfl (is_p rfl (is_bi ?_)))
      cases a with
      | int x => exact is_p rfl (is_bi (is_p rfl (is_bi (by rw [eqvD_ok (a := .int x) (b := .int y) (by rfl) (by rfl)]; exact is_b (by simp [PyData.eqv])))))
      | bool x => exact is_p rfl (is_bi (is_n rfl (is_f (by intro e; cases e))))
      | _ => exact is_n rfl (is_f (by intro e; cases e))
    | str y =>
      refine is_n rfl (is_n rfl (is_n rfl (is_p rfl (is_bi ?_))))
      cases a with
      | str x => exact is_p rfl (is_bi (by rw [eqvD_ok (a := .str x) (b := .str y) ha hb]; exact is_b (by simp [PyData.eqv])))
      | _ => exact is_n rfl (is_f (by intro e; cases e))
    | list ys =>
      refine is_n rfl (is_n rfl (is_n rfl (is_n rfl (is_n rfl ?_))))
      cases a with
      | list xs =>
        refine is_n rfl ?_
        exact eq_seq2 (eq_ok n) xs ys ha.1 hb.1 ha.2 hb.2 (.list xs) (.list ys) (fun _ => rfl) (fun _ => rfl) rfl rfl |>.imp fun c h => ⟨h.1, h.2.trans (by simp)⟩
      | _ => exact is_p rfl (is_f (by intro e; cases e))
    | tuple ys =>
      refine is_n rfl (is_n rfl (is_n rfl (is_n rfl ?_)))
      cases a with
      | tuple xs =>
        refine is_n rfl (is_n rfl ?_)
        exact eq_seq2 (eq_ok n) xs ys ha.1 hb.1 ha.2 hb.2 (.tuple xs) (.tuple ys) (fun _ => rfl) (fun _ => rfl) rfl rfl |>.imp fun c h => ⟨h.1, h.2.trans (by simp)⟩
      | _ => exact is_p rfl (is_f (by intro e; cases e))
    | dict _ => exact hb.elim
theorem eq_typed {α : Type} [DecidableEq α] {r : Rep α} {f : α → PyData} {m n : Nat} (D : DR r f m) {a b : α} (ha : okD n (f a)) (hb : okD n (f b)) : m_l_equal n (f a) (f b) = some (decide (a = b)) := by
  obtain ⟨c, h1, h2⟩ := eq_ok n _ _ ha hb
  rw [h1]
  congr 1
  rw [Bool.eq_iff_iff, h2, decide_eq_true_iff]
  exact ⟨D.inj a b, fun h => by rw [h]⟩
end L3

namespace L3
open PySem L2
theorem y_p {α : Type} {P : α → Prop} {b : Bool} {x y : Option α} (h : b = true) (k : Yes x P) : Yes (if b = true then x else y) P := by rw [if_pos h]; exact k
theorem y_n {α : Type} {P : α → Prop} {b : Bool} {x y : Option α} (h : b = false) (k : Yes y P) : Yes (if b = true then x else y) P := by rw [if_neg (by rw [h]; exact Bool.false_ne_true)]; exact k
end L3

namespace L3
open PySem L2
/-! ### fractions -/
def rat (n d : Int) : Int × Int := if d < 0 then (-n / (Int.gcd n d : Int), -d / (Int.gcd n d : Int)) else (n / (Int.gcd n d : Int), d / (Int.gcd n d : Int))
theorem gcdI_neg (n d : Int) : gcdI (-n) (-d) = (Int.gcd n d : Int) := by
  unfold gcdI; rw [Int.natAbs_neg, Int.natAbs_neg]; rfl
theorem gcd_pos {n d : Int} (h : d ≠ 0) : 0 < Int.gcd n d := Int.gcd_pos_of_ne_zero_right n h
theorem gcd_le' {n d : Int} (h : d ≠ 0) : Int.gcd n d ≤ d.natAbs := Nat.le_of_dvd (by omega) (Int.gcd_dvd_natAbs_right n d)
theorem ratio_ok {n d : Int} (h : d ≠ 0) (hb : d.natAbs < 2 ^ 8999) : m_ratio n d = some (rat n d) := by
  have g0 := gcd_pos (n := n) h
  have g1 := gcd_le' (n := n) h
  have gl : ((Int.gcd n d : Nat) : Int).natAbs < 2 ^ 8999 := Nat.lt_of_le_of_lt (by omega) hb
  have dv : ∀ x : Int, divI x (Int.gcd n d : Int) = some (x / (Int.gcd n d : Int)) := fun x => divI_w (by omega) gl (by decide) (by decide)
  unfold m_ratio rat
  by_cases hd : d < 0
  · rw [if_pos (decide_eq_true hd), if_pos hd]
    show Option.bind (divI (-n) (gcdI (-n) (-d))) _ = _
    rw [gcdI_neg, dv]
    show Option.bind (divI (-d) (Int.gcd n d : Int)) _ = _
    rw [dv]
    rfl
  · rw [if_neg (by simp [hd]), if_neg hd]
    show Option.bind (divI n (Int.gcd n d : Int)) _ = _
    rw [dv]
    show Option.bind (divI d (Int.gcd n d : Int)) _ = _
    rw [dv]
    rfl
theorem euclid_ok {b a : Int} (hb : 0 < b) (ha : 0 ≤ a) (hp : a.natAbs * b.natAbs < 2 ^ 1990) : Yes (loopB (S := (Int × Int)) (α := Int) (fun (s24 : (Int × Int)) (x25 : Int) => (
    if (decide (s24.2 = (0 : Int))) = true then
      some (Stp.bk ((s24.1, s24.2)))
    else
      Option.bind (modI s24.1 s24.2) fun t52 =>
      some (Stp.nx ((s24.2, t52)))
  )) ((b, a)) ((rng 0 ((2000 : Int))))) fun s => s.1 = (Int.gcd a b : Int) := by
  refine y_loopB _ (fun i s => 0 < s.1 ∧ 0 ≤ s.2 ∧ Int.gcd s.2 s.1 = Int.gcd a b ∧ (i = 0 → s = (b, a)) ∧ (0 < i → s.2 < s.1 ∧ s.2.natAbs * s.1.natAbs * 2 ^ (i - 1) ≤ a.natAbs * b.natAbs)) _ ⟨hb, ha, rfl, fun _ => rfl, fun h => absurd h (by omega)⟩ ?_ ?_
  · rintro i x ⟨u, v⟩ hx ⟨h1, h2, h3, h4, h5⟩
    replace h1 : 0 < u := h1
    replace h2 : 0 ≤ v := h2
    refine y_if (fun c => y_some ?_) (fun c => ?_)
    · have c : v = 0 := of_decide_eq_true c
      subst c
      show u = _
      rw [← h3]
      show u = ((Int.gcd 0 u : Nat) : Int)
      rw [Int.gcd_zero_left]
      omega
    · have c : v ≠ 0 := fun e => c (decide_eq_true e)
      have hv : 0 < v := by omega
      have m0 := Int.emod_nonneg u c
      have m1 := Int.emod_lt_of_pos u hv
      refine y_eq (modI_s hv) (y_some ⟨hv, m0, ?_, fun e => absurd e (by omega), fun _ => ⟨m1, ?_⟩⟩)
      · show Int.gcd (u % v) v = _
        rw [← h3]
        show _ = Int.gcd v u
        obtain ⟨p, rfl⟩ := Int.eq_ofNat_of_zero_le (Int.le_of_lt h1)
        obtain ⟨q, rfl⟩ := Int.eq_ofNat_of_zero_le h2
        rw [← Int.natCast_emod]
        exact (Nat.gcd_rec q p).symm
      · show (u % v).natAbs * v.natAbs * 2 ^ i ≤ _
        obtain ⟨p, rfl⟩ := Int.eq_ofNat_of_zero_le (Int.le_of_lt h1)
        obtain ⟨q, rfl⟩ := Int.eq_ofNat_of_zero_le h2
        have e : ((p : Int) % (q : Int)).natAbs = p % q := by rw [← Int.natCast_emod]; exact Int.natAbs_natCast _
        rw [e]
        simp only [Int.natAbs_natCast]
        have hq : 0 < q := Int.ofNat_lt.mp hv
        have hm : p % q < q := Nat.mod_lt _ hq
        match i with
        | 0 =>
          have h4 := h4 rfl
          rw [← (Prod.mk.inj h4).1, ← (Prod.mk.inj h4).2]
          simp only [Int.natAbs_natCast, Nat.pow_zero, Nat.mul_one]
          rw [Nat.mul_comm]
          exact Nat.mul_le_mul_left _ (Nat.mod_le _ _)
        | i + 1 =>
          obtain ⟨h6, h7⟩ := h5 (Nat.succ_pos i)
          have h6 : q < p := by have : (q : Int) < p := h6; omega
          have h7 : q * p * 2 ^ i ≤ a.natAbs * b.natAbs := by simpa using h7
          refine Nat.le_trans ?_ h7
          have hd := Nat.div_add_mod p q
          have h8 : 1 ≤ p / q := (Nat.one_le_div_iff hq).mpr (Nat.le_of_lt h6)
          have h9 : q ≤ q * (p / q) := Nat.le_mul_of_pos_right q h8
          have h10 : 2 * (p % q) ≤ p := by omega
          have h11 : p % q * q * 2 ≤ q * p := by
            rw [Nat.mul_comm (p % q) q, Nat.mul_assoc]
            exact Nat.mul_le_mul_left q (by omega)
          rw [Nat.pow_succ, Nat.mul_comm (2 ^ i) 2, ← Nat.mul_assoc]
          exact Nat.mul_le_mul_right _ h11
  · rintro ⟨u, v⟩ ⟨h1, h2, h3, _, h5⟩
    rw [rng_len] at h5
    replace h1 : 0 < u := h1
    replace h2 : 0 ≤ v := h2
    obtain ⟨_, h7⟩ := h5 (by decide)
    replace h7 : v.natAbs * u.natAbs * 2 ^ 1999 ≤ a.natAbs * b.natAbs := h7
    have hv : v = 0 := by
      by_cases e : v = 0
      · exact e
      · have g : 1 ≤ v.natAbs * u.natAbs := Nat.mul_pos (by omega) (by omega)
        have g2 := Nat.mul_le_mul_right (2 ^ 1999) g
        have g3 := Nat.lt_of_le_of_lt (Nat.le_trans g2 h7) hp
        rw [Nat.one_mul] at g3
        exact absurd (Nat.pow_lt_pow_iff_right (by decide) |>.mp g3) (by decide)
    subst hv
    show u = _
    rw [← h3]
    show u = ((Int.gcd 0 u : Nat) : Int)
    rw [Int.gcd_zero_left]
    omega
theorem absI_nn (n : Int) : absI n = (n.natAbs : Int) := by unfold absI; split <;> omega
theorem l_ratio_ok {n d : Int} (h : d ≠ 0) (hn : n.natAbs < 2 ^ 990) (hb : d.natAbs < 2 ^ 990) : m_l_ratio n d = some (rat n d) := by
  have g0 := gcd_pos (n := n) h
  have g1 := gcd_le' (n := n) h
  have gl : ((Int.gcd n d : Nat) : Int).natAbs < 2 ^ 990 := Nat.lt_of_le_of_lt (by omega) hb
  have dv : ∀ x : Int, divI x (Int.gcd n d : Int) = some (x / (Int.gcd n d : Int)) := fun x => divI_w (by omega) gl (by decide) (by decide)
  have pr : ∀ n d : Int, n.natAbs < 2 ^ 990 → d.natAbs < 2 ^ 990 → (absI n).natAbs * d.natAbs < 2 ^ 1990 := fun n d h1 h2 => by
    rw [absI_nn, Int.natAbs_natCast]
    refine Nat.lt_of_lt_of_le (Nat.mul_lt_mul'' h1 h2) ?_
    rw [← Nat.pow_add]
    exact Nat.pow_le_pow_right (by decide) (by decide)
  have ga : ∀ n d : Int, Int.gcd (absI n) d = Int.gcd n d := fun n d => by
    rw [absI_nn]; unfold Int.gcd; rw [Int.natAbs_natCast]
  have nn : ∀ n : Int, 0 ≤ absI n := fun n => by rw [absI_nn]; omega
  unfold m_l_ratio rat
  by_cases hd : d < 0
  · rw [if_pos (decide_eq_true hd), if_pos hd]
    obtain ⟨s, e1, e2⟩ := euclid_ok (b := 0 - d) (a := absI (0 - n)) (by omega) (nn _) (pr _ _ (by omega) (by omega))
    rw [ga, show 0 - n = -n by omega, show 0 - d = -d by omega, Int.gcd_neg, Int.neg_gcd] at e2
    show Option.bind (loopB _ (0 - d, absI (0 - n)) _) _ = _
    rw [e1]
    show Option.bind (divI (0 - n) s.1) _ = _
    rw [e2, dv]
    show Option.bind (divI (0 - d) (Int.gcd n d : Int)) _ = _
    rw [dv]
    show some _ = some _
    rw [show 0 - n = -n by omega, show 0 - d = -d by omega]
  · rw [if_neg (by simp [hd]), if_neg hd]
    obtain ⟨s, e1, e2⟩ := euclid_ok (b := d) (a := absI n) (by omega) (nn _) (pr _ _ hn hb)
    rw [ga] at e2
    show Option.bind (loopB _ (d, absI n) _) _ = _
    rw [e1]
    show Option.bind (divI n s.1) _ = _
    rw [e2, dv]
    show Option.bind (divI d (Int.gcd n d : Int)) _ = _
    rw [dv]
    rfl
theorem rat_pos {n d : Int} (h : d ≠ 0) : 0 < (rat n d).2 := by
  have g0 := gcd_pos (n := n) h
  have dd := Int.gcd_dvd_right n d
  unfold rat
  split
  · exact Int.ediv_pos_of_pos_of_dvd (by omega) (by omega) (Int.dvd_neg.mpr dd)
  · exact Int.ediv_pos_of_pos_of_dvd (by omega) (by omega) dd
theorem natAbs_ediv_le (x : Int) (g : Nat) : (x / (g : Int)).natAbs ≤ x.natAbs := Int.natAbs_ediv_le_natAbs x g
theorem rat_fst_le {n d : Int} : (rat n d).1.natAbs ≤ n.natAbs := by
  unfold rat
  split
  · have := natAbs_ediv_le (-n) (Int.gcd n d); rw [Int.natAbs_neg] at this; exact this
  · exact natAbs_ediv_le n (Int.gcd n d)
theorem rat_snd_le {n d : Int} : (rat n d).2.natAbs ≤ d.natAbs := by
  unfold rat
  split
  · have := natAbs_ediv_le (-d) (Int.gcd n d); rw [Int.natAbs_neg] at this; exact this
  · exact natAbs_ediv_le d (Int.gcd n d)
theorem rat_mul {n d c : Int} (hc : 0 < c) : rat (n * c) (d * c) = rat n d := by
  have e : (Int.gcd (n * c) (d * c) : Int) = (Int.gcd n d : Int) * c := by
    rw [Int.gcd_mul_right]
    push_cast
    rw [Int.natAbs_of_nonneg (Int.le_of_lt hc)]
  have k : ∀ x : Int, x * c / ((Int.gcd n d : Int) * c) = x / (Int.gcd n d : Int) := fun x => Int.mul_ediv_mul_of_pos_left x _ hc
  unfold rat
  rw [e]
  by_cases hd : d < 0
  · rw [if_pos hd, if_pos (Int.mul_neg_of_neg_of_pos hd hc), ← Int.neg_mul, ← Int.neg_mul, k, k]
  · rw [if_neg hd, if_neg (by have := Int.mul_nonneg (show 0 ≤ d by omega) (Int.le_of_lt hc); omega), k, k]
end L3

namespace L3
open PySem L2
/-! ### drawn systems -/
theorem StOk.le {s : List Int × Int} {a b : Int} (h : StOk s a) (hab : a ≤ b) : StOk s b := ⟨h.1, h.2.1, Int.le_trans h.2.2 hab⟩
abbrev TE' := List (Int × Int)
abbrev TC' := Int × List (Int × Int)
abbrev TS' := List (List (Int × List (Int × Int)))
def VE (many : Nat) (e : List (Int × Int)) : Prop := e ≠ [] ∧ e.length ≤ many ∧ (∀ q ∈ e, 0 ≤ q.1 ∧ q.1 < (many : Int) ∧ 1 ≤ q.2 ∧ q.2 ≤ 1000) ∧ e.Pairwise fun a b => a.1 < b.1
def VC (many : Nat) (c : Int × List (Int × Int)) : Prop := 0 ≤ c.1 ∧ c.1 ≤ 1000 ∧ VE many c.2
def VCS (many most : Nat) (cs : List (Int × List (Int × Int))) : Prop := 1 ≤ cs.length ∧ cs.length ≤ most ∧ ∀ c ∈ cs, VC many c
def VS (most : Nat) (s : List (List (Int × List (Int × Int)))) : Prop := 1 ≤ s.length ∧ ∀ cs ∈ s, VCS s.length most cs
theorem ixL_lit {α : Type} {xs : List α} {i : Int} {P : α → Prop} (h0 : 0 ≤ i) (h1 : i < xs.length) (h : ∀ x ∈ xs, P x) : Yes (ixL xs i) P := by
  obtain ⟨n, hn⟩ := Int.eq_ofNat_of_zero_le h0
  have hl : n < xs.length := by omega
  exact ⟨xs[n], ixL_s (List.getElem?_eq_getElem hl) hn, h _ (List.getElem_mem hl)⟩
theorem ends_ok {st : List Int × Int} {n many : Int} (hs : StOk st n) (hn : n < 2 ^ 50) (hm : 1 ≤ many) (hm2 : many ≤ 100) : Yes (m_l_ends st many) fun r => VE many.toNat r.1 ∧ StOk r.2 (n + 1 + 2 * many) := by
  unfold m_l_ends
  refine y_bind (take_ok hs (by omega) (by omega)) fun t3 h3 => ?_
  refine y_eq (small62_s (by omega) (by omega)) ?_
  obtain ⟨⟨h31, h32⟩, h33⟩ := h3
  refine y_bind (Q := fun (p : List (Int × Int) × (List Int × Int)) => VE many.toNat p.1 ∧ StOk p.2 (n + 1 + 2 * many)) ?_ fun p hp => y_some hp
  refine (y_foldI _ (fun i (p : List (Int × Int) × (List Int × Int)) => p.1.length ≤ i ∧ (∀ q ∈ p.1, 0 ≤ q.1 ∧ q.1 < (i : Int) ∧ 1 ≤ q.2 ∧ q.2 ≤ 1000) ∧ (p.1.Pairwise fun a b => a.1 < b.1) ∧ (t3.1 < i → p.1 ≠ []) ∧ StOk p.2 (n + 1 + 2 * i))
    ⟨by simp, by simp, .nil, fun h => absurd h (by omega), by simpa using h33⟩ ?_).mono fun p hp => ?_
  · rintro i x ⟨e, st⟩ hx ⟨g1, g2, g3, g4, g5⟩
    obtain ⟨e1, e2⟩ := rng_at hx
    have e1 : x = (i : Int) := by omega
    subst e1
    dsimp only at g1 g2 g3 g4 g5
    refine y_bind (Q := fun (p : Bool × (List Int × Int)) => ((t3.1 = (i : Int)) → p.1 = true) ∧ StOk p.2 (n + 1 + 2 * i + 1)) (y_if (fun c => y_some ⟨fun _ => rfl, ?_⟩) (fun c => ?_)) fun p hp => ?_
    · exact g5.le (by omega)
    · exact y_bind (take_ok g5 (by omega) (by decide)) fun t30 h30 => y_some ⟨fun q => absurd (decide_eq_true q.symm) c, h30.2⟩
    · refine y_bind (Q := fun (q : List (Int × Int) × (List Int × Int)) => q.1.length ≤ i + 1 ∧ (∀ z ∈ q.1, 0 ≤ z.1 ∧ z.1 < ((i + 1 : Nat) : Int) ∧ 1 ≤ z.2 ∧ z.2 ≤ 1000) ∧ (q.1.Pairwise fun a b => a.1 < b.1) ∧ (t3.1 < ((i + 1 : Nat) : Int) → q.1 ≠ []) ∧ StOk q.2 (n + 1 + 2 * ((i + 1 : Nat) : Int))) (y_if (fun c => ?_) fun c => y_some ?_) fun q hq => y_some hq
      · refine y_bind (take_ok hp.2 (by omega) (by decide)) fun t39 h39 => ?_
        refine y_bind (ixL_lit (P := fun z => 1 ≤ z ∧ z ≤ 1000) h39.1.1 h39.1.2 (by decide)) fun t41 h41 => y_eq (room_s (by show e.length ≤ _; omega)) (y_some ⟨?_, ?_, ?_, ?_, ?_⟩)
        · show (e ++ [_]).length ≤ _
          rw [List.length_append, List.length_singleton]; omega
        · intro z hz
          rcases List.mem_append.mp hz with hz | hz
          · have := g2 z hz; omega
          · rw [List.mem_singleton.mp hz]; show 0 ≤ (i : Int) ∧ (i : Int) < _ ∧ 1 ≤ t41 ∧ t41 ≤ 1000; omega
        · show (e ++ [_]).Pairwise _
          refine List.pairwise_append.mpr ⟨g3, List.pairwise_singleton _ _, fun a ha b hb => ?_⟩
          rw [List.mem_singleton.mp hb]
          exact (g2 a ha).2.1
        · intro _ h; exact absurd h (by simp)
        · exact h39.2.le (by omega)
      · refine ⟨Nat.le_succ_of_le g1, fun z hz => by have := g2 z hz; omega, g3, fun h => ?_, ?_⟩
        · by_cases q : t3.1 = (i : Int)
          · exact absurd (hp.1 q) c
          · exact g4 (by omega)
        · exact hp.2.le (by omega)
  · obtain ⟨g1, g2, g3, g4, g5⟩ := hp
    rw [rng_len] at g1 g2 g4 g5
    have em : (((many - 0).toNat : Nat) : Int) = many := by omega
    refine ⟨⟨g4 (by omega), by omega, fun q hq => by have := g2 q hq; omega, g3⟩, ?_⟩
    rw [em] at g5
    exact g5
theorem choices_ok {st : List Int × Int} {n many most : Int} (hs : StOk st n) (hn : n < 2 ^ 49) (hm : 1 ≤ many) (hm2 : many ≤ 100) (h1 : 1 ≤ most) (h2 : most ≤ 100) : Yes (m_l_choices st many most) fun r => VCS many.toNat most.toNat r.1 ∧ StOk r.2 (n + 1 + most * 300) := by
  unfold m_l_choices
  refine y_bind (take_ok hs (by omega) (by omega)) fun t3 h3 => ?_
  obtain ⟨⟨h31, h32⟩, h33⟩ := h3
  refine y_eq (small62_s (by omega) (by omega)) ?_
  refine y_bind (Q := fun (p : List (Int × List (Int × Int)) × (List Int × Int)) => VCS many.toNat most.toNat p.1 ∧ StOk p.2 (n + 1 + most * 300)) ?_ fun p hp => y_some hp
  refine (y_foldI _ (fun i (p : List (Int × List (Int × Int)) × (List Int × Int)) => p.1.length = i ∧ (∀ c ∈ p.1, VC many.toNat c) ∧ StOk p.2 (n + 1 + 300 * i)) ⟨rfl, by simp, by simpa using h33⟩ ?_).mono fun p hp => ?_
  · rintro i x ⟨e, st⟩ hx ⟨g1, g2, g3⟩
    obtain ⟨e1, e2⟩ := rng_at hx
    dsimp only at g1 g2 g3
    refine y_bind (take_ok g3 (by omega) (by decide)) fun t27 h27 => ?_
    refine y_bind (ixL_lit (P := fun z => 0 ≤ z ∧ z ≤ 1000) h27.1.1 h27.1.2 (by decide)) fun t29 h29 => ?_
    refine y_bind (ends_ok h27.2 (by omega) hm hm2) fun t31 h31' => y_eq (room_s (by show e.length ≤ _; omega)) (y_some ⟨?_, ?_, ?_⟩)
    · show (e ++ [_]).length = _
      rw [List.length_append, List.length_singleton, g1]
    · intro z hz
      rcases List.mem_append.mp hz with hz | hz
      · exact g2 z hz
      · rw [List.mem_singleton.mp hz]; exact ⟨h29.1, h29.2, h31'.1⟩
    · exact h31'.2.le (by omega)
  · obtain ⟨g1, g2, g3⟩ := hp
    rw [rng_len] at g1 g3
    refine ⟨⟨by omega, by omega, g2⟩, ?_⟩
    exact g3.le (by omega)
/-- comprehensions: they answer -/
theorem y_comp {S α β : Type} (f : S → α → Option (Option β × S)) (I : Nat → List β → S → Prop) {xs : List α} {s : S} (h0 : I 0 [] s) (hs : ∀ (i : Nat) x ys s, xs[i]? = some x → I i ys s → Yes (f s x) fun r => I (i + 1) (ys ++ r.1.toList) r.2) : Yes (compM f s xs) fun r => I xs.length r.1 r.2 := by
  have key : ∀ (xs : List α) (k : Nat) (pre : List β) (s : S), I k pre s → (∀ (i : Nat) x ys s, xs[i]? = some x → I (k + i) ys s → Yes (f s x) fun r => I (k + i + 1) (ys ++ r.1.toList) r.2) → Yes (compM f s xs) fun r => I (k + xs.length) (pre ++ r.1) r.2 := by
    intro xs
    induction xs with
    | nil => intro k pre s h _; exact ⟨([], s), rfl, by simpa using h⟩
    | cons x xs ih =>
      intro k pre s h hs
      obtain ⟨⟨o, s'⟩, h1, h2⟩ := hs 0 x pre s rfl h
      obtain ⟨⟨ys, s2⟩, h3, h4⟩ := ih (k + 1) (pre ++ o.toList) s' h2 fun i y zs s hy hI => by
        have := hs (i + 1) y zs s (by simpa using hy) (by rw [show k + (i + 1) = k + 1 + i by omega]; exact hI)
        rw [show k + (i + 1) + 1 = k + 1 + i + 1 by omega] at this
        exact this
      refine ⟨(o.toList ++ ys, s2), ?_, ?_⟩
      · unfold compM
        rw [h1]
        dsimp only
        rw [h3]
      · rw [show k + (x :: xs).length = k + 1 + xs.length by simp; omega]
        show I _ (pre ++ (o.toList ++ ys)) s2
        rw [← List.append_assoc]
        exact h4
  have := key xs 0 [] s h0 fun i x ys s hx hI => by
    rw [Nat.zero_add] at hI ⊢
    exact hs i x ys s hx hI
  simpa using this
theorem system_ok {st : List Int × Int} {n most : Int} (hs : StOk st n) (hn : n < 2 ^ 48) (h1 : 1 ≤ most) (h2 : most ≤ 99) : Yes (m_l_system st most) fun r => (VS 3 r.1 ∧ (r.1.length : Int) ≤ most) ∧ StOk r.2 (n + 1 + most * 1000) := by
  unfold m_l_system
  refine y_bind (take_ok hs (by omega) (by omega)) fun t1 h => ?_
  obtain ⟨⟨h11, h12⟩, h13⟩ := h
  refine y_eq (small62_s (by omega) (by omega)) (y_eq (room_s (by rw [rng_len]; omega)) ?_)
  refine y_bind (Q := fun (r : List (List (Int × List (Int × Int))) × (List Int × Int)) => (VS 3 r.1 ∧ (r.1.length : Int) ≤ most) ∧ StOk r.2 (n + 1 + most * 1000)) ?_ fun r hr => y_some hr
  refine (y_comp _ (fun i ys s => ys.length = i ∧ (∀ cs ∈ ys, VCS (1 + t1.1).toNat 3 cs) ∧ StOk s (n + 1 + 1000 * i)) ⟨rfl, by simp, by simpa using h13⟩ ?_).mono fun r hr => ?_
  · rintro i x ys s hx ⟨g1, g2, g3⟩
    obtain ⟨e1, e2⟩ := rng_at hx
    refine y_bind (choices_ok g3 (by omega) (by omega) (by omega) (by decide) (by decide)) fun t32 h32 => y_some ⟨?_, ?_, ?_⟩
    · simp [g1]
    · intro cs hc
      rcases List.mem_append.mp hc with hc | hc
      · exact g2 cs hc
      · have hc : cs = t32.1 := by simpa using hc
        rw [hc]; exact h32.1
    · exact h32.2.le (by omega)
  · obtain ⟨g1, g2, g3⟩ := hr
    rw [rng_len] at g1 g3
    have el : (1 + t1.1).toNat = r.1.length := by omega
    refine ⟨⟨⟨by omega, fun cs hc => by rw [← el]; exact g2 cs hc⟩, by omega⟩, ?_⟩
    exact g3.le (by omega)
end L3

namespace L3
open PySem L2
/-! ### fractions as rationals -/
def ofQ (x : Rat) : Int × Int := (x.num, (x.den : Int))
theorem ofQ_inj {x y : Rat} (h : ofQ x = ofQ y) : x = y := by
  obtain ⟨h1, h2⟩ := Prod.mk.inj h
  exact Rat.ext h1 (by omega)
theorem ofQ_iff {x y : Rat} : ofQ x = ofQ y ↔ x = y := ⟨ofQ_inj, fun h => by rw [h]⟩
theorem rat_ofQ {n d : Int} (h : d ≠ 0) : rat n d = ofQ (Rat.divInt n d) := by
  have g0 := gcd_pos (n := n) h
  unfold rat ofQ
  rw [Rat.num_divInt, Rat.den_divInt, if_neg h, Int.gcd_comm d n]
  by_cases hd : d < 0
  · rw [if_pos hd, Int.sign_eq_neg_one_of_neg hd, Int.neg_one_mul]
    have e : ((d.natAbs : Nat) : Int) = -d := by omega
    rw [Int.natCast_ediv, e]
  · rw [if_neg hd, Int.sign_eq_one_of_pos (by omega), Int.one_mul]
    have e : ((d.natAbs : Nat) : Int) = d := by omega
    rw [Int.natCast_ediv, e]
/-- a fraction of so many bits -/
def Bd (k : Nat) (x : Rat) : Prop := x.num.natAbs < 2 ^ k ∧ x.den < 2 ^ k
theorem Bd.up {k l : Nat} {x : Rat} (h : Bd k x) (hl : k ≤ l) : Bd l x := ⟨Nat.lt_of_lt_of_le h.1 (Nat.pow_le_pow_right (by decide) hl), Nat.lt_of_lt_of_le h.2 (Nat.pow_le_pow_right (by decide) hl)⟩
theorem nmul_lt {a b : Int} {k l : Nat} (h1 : a.natAbs < 2 ^ k) (h2 : b.natAbs < 2 ^ l) : (a * b).natAbs < 2 ^ (k + l) := by
  rw [Int.natAbs_mul, Nat.pow_add]
  exact Nat.mul_lt_mul'' h1 h2
theorem den_pos (x : Rat) : 0 < (x.den : Int) := by have := x.den_nz; omega
theorem den_lt {k : Nat} {x : Rat} (h : Bd k x) : ((x.den : Int)).natAbs < 2 ^ k := by rw [Int.natAbs_natCast]; exact h.2
theorem nadd_lt {a b : Int} {k : Nat} (h1 : a.natAbs < 2 ^ k) (h2 : b.natAbs < 2 ^ k) : (a + b).natAbs < 2 ^ (k + 1) := by
  rw [Nat.pow_succ]; omega
theorem mulI_b {a b : Int} {k l : Nat} (h1 : a.natAbs < 2 ^ k) (h2 : b.natAbs < 2 ^ l) (hk : 0 < k) (hl : 0 < l) (h : k + l ≤ 8000) : mulI a b = some (a * b) := mulI_w h1 h2 hk hl (by omega)
theorem add_q (x y : Rat) : Rat.divInt (x.num * y.den + y.num * x.den) (x.den * y.den) = x + y := by
  have := Rat.divInt_add_divInt x.num y.num (d₁ := x.den) (d₂ := y.den) (by have := den_pos x; omega) (by have := den_pos y; omega)
  rw [Rat.num_divInt_den, Rat.num_divInt_den] at this
  exact this.symm
theorem mul_q (x y : Rat) : Rat.divInt (x.num * y.num) (x.den * y.den) = x * y := by
  have := Rat.divInt_mul_divInt x.num y.num (d₁ := x.den) (d₂ := y.den)
  rw [Rat.num_divInt_den, Rat.num_divInt_den] at this
  exact this.symm
theorem div_q (x y : Rat) (h : y ≠ 0) : Rat.divInt (x.num * y.den) (x.den * y.num) = x / y := by
  have e : y⁻¹ = Rat.divInt y.den y.num := Rat.inv_def y
  have := Rat.divInt_mul_divInt x.num y.den (d₁ := x.den) (d₂ := y.num)
  rw [Rat.num_divInt_den, ← e] at this
  exact this.symm
/-- the denominator divides it -/
def Dv (L : Nat) (x : Rat) : Prop := x.den ∣ L
theorem dv_iff {L : Nat} {x : Rat} (hL : L ≠ 0) : Dv L x ↔ ∃ a : Int, x = Rat.divInt a L := by
  constructor
  · rintro ⟨c, hc⟩
    refine ⟨x.num * c, ?_⟩
    have c0 : (c : Int) ≠ 0 := by
      intro z
      have : c = 0 := by omega
      rw [this, Nat.mul_zero] at hc
      exact hL hc
    rw [hc]
    push_cast
    rw [Rat.divInt_mul_right c0, Rat.num_divInt_den]
  · rintro ⟨a, rfl⟩
    unfold Dv
    rw [Rat.den_divInt, if_neg (by omega), Int.natAbs_natCast]
    exact Nat.div_dvd_of_dvd (by
      have := Int.gcd_dvd_natAbs_left (L : Int) a
      rwa [Int.natAbs_natCast] at this)
theorem dv_add {L : Nat} {x y : Rat} (hL : L ≠ 0) (h1 : Dv L x) (h2 : Dv L y) : Dv L (x + y) := by
  obtain ⟨a, rfl⟩ := (dv_iff hL).mp h1
  obtain ⟨b, rfl⟩ := (dv_iff hL).mp h2
  refine (dv_iff hL).mpr ⟨a + b, ?_⟩
  rw [Rat.divInt_add_divInt _ _ (by omega) (by omega), ← Int.add_mul, Rat.divInt_mul_right (by omega)]
theorem dv_mul {L M : Nat} {x y : Rat} (hL : L ≠ 0) (hM : M ≠ 0) (h1 : Dv L x) (h2 : Dv M y) : Dv (L * M) (x * y) := by
  obtain ⟨a, rfl⟩ := (dv_iff hL).mp h1
  obtain ⟨b, rfl⟩ := (dv_iff hM).mp h2
  refine (dv_iff (Nat.mul_ne_zero hL hM)).mpr ⟨a * b, ?_⟩
  rw [Rat.divInt_mul_divInt]
  push_cast
  rfl
theorem dv_up {L M : Nat} {x : Rat} (h : Dv L x) (d : L ∣ M) : Dv M x := Nat.dvd_trans h d
theorem dv_le {L : Nat} {x : Rat} (hL : L ≠ 0) (h : Dv L x) : x.den ≤ L := Nat.le_of_dvd (by omega) h
end L3

namespace L3
open PySem L2
theorem plus_q {x y : Rat} {k l : Nat} (hx : Bd k x) (hy : Bd l y) (hk : 0 < k) (hl : 0 < l) (h : k + l ≤ 4000) : m_plus (ofQ x) (ofQ y) = some (ofQ (x + y)) := by
  have px := den_pos x
  have py := den_pos y
  have pos := Int.mul_pos px py
  unfold m_plus ofQ
  dsimp only
  rw [mulI_b hx.1 (den_lt hy) hk hl (by omega), mulI_b hy.1 (den_lt hx) hl hk (by omega), mulI_b (den_lt hx) (den_lt hy) hk hl (by omega)]
  show Option.bind (m_ratio _ _) _ = _
  rw [ratio_ok (by omega) (Nat.lt_of_lt_of_le (nmul_lt (den_lt hx) (den_lt hy)) (Nat.pow_le_pow_right (by decide) (by omega))), rat_ofQ (by omega), add_q]
  rfl
end L3

namespace L3
/-! ### fractions of a known size -/
theorem den_ne (x : Rat) : (x.den : Rat) ≠ 0 := fun z => x.den_nz (by exact_mod_cast z)
theorem den_posQ (x : Rat) : 0 < (x.den : Rat) := by
  have : 0 < x.den := Nat.pos_of_ne_zero x.den_nz
  exact_mod_cast this
theorem num_eq (x : Rat) : (x.num : Rat) = x * (x.den : Rat) := by
  have e := Rat.num_divInt_den x
  rw [Rat.divInt_eq_div, Rat.intCast_natCast] at e
  have := den_ne x
  generalize (x.den : Rat) = d at *
  generalize (x.num : Rat) = n at *
  subst e
  grind
/-- the denominator divides L, at most C -/
structure Sz (L C : Nat) (x : Rat) : Prop where
  dv : x.den ∣ L
  lo : -(C : Rat) ≤ x
  hi : x ≤ (C : Rat)
theorem cast_le {a b : Nat} (h : a ≤ b) : (a : Rat) ≤ b := by exact_mod_cast h
theorem sz_num {L C : Nat} {x : Rat} (h : Sz L C x) (hL : 0 < L) : x.num.natAbs ≤ C * L := by
  have hd : x.den ≤ L := Nat.le_of_dvd hL h.dv
  have e := num_eq x
  have hp := den_posQ x
  have hd' := cast_le hd
  have c0 : (0 : Rat) ≤ C := by exact_mod_cast Nat.zero_le C
  have a1 : x * (x.den : Rat) ≤ (C : Rat) * x.den := Rat.mul_le_mul_of_nonneg_right h.hi (by grind)
  have a2 : -(C : Rat) * (x.den : Rat) ≤ x * x.den := Rat.mul_le_mul_of_nonneg_right h.lo (by grind)
  have a3 : (C : Rat) * x.den ≤ C * L := Rat.mul_le_mul_of_nonneg_left hd' c0
  have b1 : (x.num : Rat) ≤ ((C * L : Nat) : Int) := by rw [Rat.intCast_natCast]; push_cast; grind
  have b2 : ((-((C * L : Nat) : Int) : Int) : Rat) ≤ x.num := by push_cast; grind
  have b1 : x.num ≤ ((C * L : Nat) : Int) := by exact_mod_cast b1
  have b2 : -((C * L : Nat) : Int) ≤ x.num := by exact_mod_cast b2
  omega
theorem Sz.up {L M C D : Nat} {x : Rat} (h : Sz L C x) (hL : L ∣ M) (hC : C ≤ D) : Sz M D x := ⟨Nat.dvd_trans h.dv hL, by have := h.lo; have := cast_le hC; grind, by have := h.hi; have := cast_le hC; grind⟩
theorem sz_int (L C : Nat) {w : Int} (h : w.natAbs ≤ C) : Sz L C (w : Rat) := by
  refine ⟨?_, ?_, ?_⟩
  · rw [Rat.den_intCast]; exact Nat.one_dvd _
  · have : -((C : Nat) : Int) ≤ w := by omega
    have : ((-((C : Nat) : Int) : Int) : Rat) ≤ w := by exact_mod_cast this
    push_cast at this
    exact this
  · have : w ≤ ((C : Nat) : Int) := by omega
    exact_mod_cast this
theorem sz_zero (L C : Nat) : Sz L C 0 := sz_int L C (w := 0) (by simp)
end L3

namespace L3
open PySem L2
/-! ### weights -/
theorem fits_small : ∀ (vs : List Int) (a : Int), 0 ≤ a → a + 1000 * vs.length < 2 ^ 62 → (∀ v ∈ vs, 1 ≤ v ∧ v ≤ 1000) → fits a vs = true
  | [], _, _, _, _ => rfl
  | v :: vs, a, h0, h1, h2 => by
    have hv := h2 v List.mem_cons_self
    rw [List.length_cons] at h1
    have ih := fits_small vs (a + v) (by omega) (by omega) fun u hu => h2 u (List.mem_cons_of_mem _ hu)
    have l1 : longI v = true := by unfold longI; rw [decide_eq_true (by omega), decide_eq_true (by omega)]; rfl
    have l2 : longI (a + v) = true := by unfold longI; rw [decide_eq_true (by omega), decide_eq_true (by omega)]; rfl
    show (longI v && longI (a + v) && fits (a + v) vs) = true
    rw [l1, l2, ih]; rfl
theorem sum_bd : ∀ (vs : List Int), (∀ v ∈ vs, 1 ≤ v ∧ v ≤ 1000) → (vs.length : Int) ≤ vs.sum ∧ vs.sum ≤ 1000 * vs.length
  | [], _ => by simp
  | v :: vs, h => by
    have ih := sum_bd vs fun u hu => h u (List.mem_cons_of_mem _ hu)
    have hv := h v List.mem_cons_self
    rw [List.sum_cons, List.length_cons]
    omega
theorem mapO_map {α β : Type} {f : α → Option β} {g : α → β} : ∀ {xs : List α}, (∀ x ∈ xs, f x = some (g x)) → mapO f xs = some (xs.map g)
  | [], _ => rfl
  | x :: xs, h => by
    show (match f x, mapO f xs with | some y, some ys => some (y :: ys) | _, _ => none) = _
    rw [h x List.mem_cons_self, mapO_map fun u hu => h u (List.mem_cons_of_mem _ hu)]
    rfl
theorem compM_map {α β : Type} {f : Unit → α → Option (Option β × Unit)} {g : α → β} : ∀ {xs : List α}, (∀ x ∈ xs, f () x = some (some (g x), ())) → compM f () xs = some (xs.map g, ())
  | [], _ => rfl
  | x :: xs, h => by
    unfold compM
    rw [h x List.mem_cons_self]
    dsimp only
    rw [compM_map fun u hu => h u (List.mem_cons_of_mem _ hu)]
    rfl
def WE (e : List (Int × Int)) : Prop := 1 ≤ e.length ∧ e.length ≤ 100 ∧ ∀ q ∈ e, 1 ≤ q.2 ∧ q.2 ≤ 1000
def WS (s : List (List (Int × List (Int × Int)))) : Prop := s.length ≤ 1000 ∧ ∀ cs ∈ s, cs.length ≤ 1000 ∧ ∀ c ∈ cs, WE c.2
abbrev wsum (e : List (Int × Int)) : Int := (e.map (·.2)).sum
theorem we_sum {e : List (Int × Int)} (h : WE e) : 1 ≤ wsum e ∧ wsum e ≤ 100000 := by
  obtain ⟨h1, h2, h3⟩ := h
  have := sum_bd (e.map (·.2)) fun v hv => by
    obtain ⟨q, hq, rfl⟩ := List.mem_map.mp hv
    exact h3 q hq
  rw [List.length_map] at this
  show 1 ≤ (e.map (·.2)).sum ∧ (e.map (·.2)).sum ≤ 100000
  omega
theorem total_ok {e : List (Int × Int)} (h : WE e) : m_total_weight e = some (wsum e) := by
  obtain ⟨h1, h2, h3⟩ := h
  unfold m_total_weight sumM
  rw [mapO_map (f := fun (x9 : Int × Int) => some x9.2) (g := fun q => q.2) fun _ _ => rfl]
  dsimp only
  rw [if_pos (fits_small _ 0 (by decide) (by rw [List.length_map]; omega) fun v hv => by
    obtain ⟨q, hq, rfl⟩ := List.mem_map.mp hv
    exact h3 q hq)]
  rfl
end L3

namespace L3
open PySem L2
/-! ### fractions: sizes, operations -/
theorem Sz.bd {L C a b : Nat} {x : Rat} (h : Sz L C x) (hL : 0 < L) (ha : L < 2 ^ a) (hb : C < 2 ^ b) : Bd (a + b) x := by
  have h1 := sz_num h hL
  have h2 : x.den ≤ L := Nat.le_of_dvd hL h.dv
  refine ⟨?_, ?_⟩
  · refine Nat.lt_of_le_of_lt h1 ?_
    rw [Nat.add_comm, Nat.pow_add]
    exact Nat.mul_lt_mul'' hb ha
  · exact Nat.lt_of_le_of_lt h2 (Nat.lt_of_lt_of_le ha (Nat.pow_le_pow_right (by decide) (by omega)))
theorem Sz.add {L C D : Nat} {x y : Rat} (hL : 0 < L) (h1 : Sz L C x) (h2 : Sz L D y) : Sz L (C + D) (x + y) := by
  refine ⟨dv_add (by omega) h1.dv h2.dv, ?_, ?_⟩
  · have := h1.lo; have := h2.lo; push_cast; grind
  · have := h1.hi; have := h2.hi; push_cast; grind
theorem abs_mul_le {x y c d : Rat} (h1 : -c ≤ x) (h2 : x ≤ c) (h3 : -d ≤ y) (h4 : y ≤ d) : -(c * d) ≤ x * y ∧ x * y ≤ c * d := by
  have p1 := Rat.mul_nonneg (show 0 ≤ c - x by grind) (show 0 ≤ d - y by grind)
  have p2 := Rat.mul_nonneg (show 0 ≤ c + x by grind) (show 0 ≤ d + y by grind)
  have p3 := Rat.mul_nonneg (show 0 ≤ c - x by grind) (show 0 ≤ d + y by grind)
  have p4 := Rat.mul_nonneg (show 0 ≤ c + x by grind) (show 0 ≤ d - y by grind)
  constructor <;> grind
theorem Sz.mul {L M C D : Nat} {x y : Rat} (hL : 0 < L) (hM : 0 < M) (h1 : Sz L C x) (h2 : Sz M D y) : Sz (L * M) (C * D) (x * y) := by
  obtain ⟨a, b⟩ := abs_mul_le h1.lo h1.hi h2.lo h2.hi
  refine ⟨dv_mul (by omega) (by omega) h1.dv h2.dv, ?_, ?_⟩
  · push_cast; exact a
  · push_cast; exact b
theorem ofQ_int (w : Int) : ofQ (w : Rat) = (w, 1) := by
  unfold ofQ
  rw [Rat.num_intCast, Rat.den_intCast]
  rfl
theorem ofQ_0 : ofQ 0 = (0, 1) := ofQ_int 0
theorem ofQ_1 : ofQ 1 = (1, 1) := ofQ_int 1
theorem eq_0 {x : Rat} : decide (ofQ x = ((0 : Int), (1 : Int))) = decide (x = 0) := by
  rw [← ofQ_0]
  simp only [ofQ_iff]
theorem eq_1 {x : Rat} : decide (ofQ x = ((1 : Int), (1 : Int))) = decide (x = 1) := by
  rw [← ofQ_1]
  simp only [ofQ_iff]
theorem times_q {x y : Rat} {k l : Nat} (hx : Bd k x) (hy : Bd l y) (hk : 0 < k) (hl : 0 < l) (h : k + l ≤ 4000) : m_times (ofQ x) (ofQ y) = some (ofQ (x * y)) := by
  have px := den_pos x
  have py := den_pos y
  have pos := Int.mul_pos px py
  unfold m_times ofQ
  dsimp only
  rw [mulI_b hx.1 hy.1 hk hl (by omega), mulI_b (den_lt hx) (den_lt hy) hk hl (by omega)]
  show Option.bind (m_ratio _ _) _ = _
  rw [ratio_ok (by omega) (Nat.lt_of_lt_of_le (nmul_lt (den_lt hx) (den_lt hy)) (Nat.pow_le_pow_right (by decide) (by omega))), rat_ofQ (by omega), mul_q]
  rfl
theorem over_q {x y : Rat} {k l : Nat} (hx : Bd k x) (hy : Bd l y) (h0 : y ≠ 0) (hk : 0 < k) (hl : 0 < l) (h : k + l ≤ 4000) : m_over (ofQ x) (ofQ y) = some (ofQ (x / y)) := by
  have px := den_pos x
  have ny : y.num ≠ 0 := fun z => h0 (Rat.num_eq_zero.mp z)
  have pos : (x.den : Int) * y.num ≠ 0 := Int.mul_ne_zero (by omega) ny
  unfold m_over ofQ
  dsimp only
  rw [mulI_b hx.1 (den_lt hy) hk hl (by omega), mulI_b (den_lt hx) hy.1 hk hl (by omega)]
  show Option.bind (m_ratio _ _) _ = _
  rw [ratio_ok pos (Nat.lt_of_lt_of_le (nmul_lt (den_lt hx) hy.1) (Nat.pow_le_pow_right (by decide) (by omega))), rat_ofQ pos, div_q _ _ h0]
  rfl
theorem l_plus_q {x y : Rat} {k l : Nat} (hx : Bd k x) (hy : Bd l y) (hk : 0 < k) (hl : 0 < l) (h : k + l ≤ 988) : m_l_plus (ofQ x) (ofQ y) = some (ofQ (x + y)) := by
  have px := den_pos x
  have py := den_pos y
  have pos := Int.mul_pos px py
  have b1 := nmul_lt hx.1 (den_lt hy)
  have b2 := nmul_lt hy.1 (den_lt hx)
  rw [Nat.add_comm] at b2
  unfold m_l_plus ofQ
  dsimp only
  rw [mulI_b hx.1 (den_lt hy) hk hl (by omega), mulI_b hy.1 (den_lt hx) hl hk (by omega), mulI_b (den_lt hx) (den_lt hy) hk hl (by omega)]
  show Option.bind (m_l_ratio _ _) _ = _
  rw [l_ratio_ok (by omega) (Nat.lt_of_lt_of_le (nadd_lt b1 b2) (Nat.pow_le_pow_right (by decide) (by omega))) (Nat.lt_of_lt_of_le (nmul_lt (den_lt hx) (den_lt hy)) (Nat.pow_le_pow_right (by decide) (by omega))), rat_ofQ (by omega), add_q]
  rfl
theorem l_times_q {x y : Rat} {k l : Nat} (hx : Bd k x) (hy : Bd l y) (hk : 0 < k) (hl : 0 < l) (h : k + l ≤ 990) : m_l_times (ofQ x) (ofQ y) = some (ofQ (x * y)) := by
  have px := den_pos x
  have py := den_pos y
  have pos := Int.mul_pos px py
  unfold m_l_times ofQ
  dsimp only
  rw [mulI_b hx.1 hy.1 hk hl (by omega), mulI_b (den_lt hx) (den_lt hy) hk hl (by omega)]
  show Option.bind (m_l_ratio _ _) _ = _
  rw [l_ratio_ok (by omega) (Nat.lt_of_lt_of_le (nmul_lt hx.1 hy.1) (Nat.pow_le_pow_right (by decide) (by omega))) (Nat.lt_of_lt_of_le (nmul_lt (den_lt hx) (den_lt hy)) (Nat.pow_le_pow_right (by decide) (by omega))), rat_ofQ (by omega), mul_q]
  rfl
theorem l_ratio_q {n d : Int} (h : 0 < d) (hn : n.natAbs < 2 ^ 990) (hb : d.natAbs < 2 ^ 990) : m_l_ratio n d = some (ofQ ((n : Rat) / (d : Rat))) := by
  rw [l_ratio_ok (by omega) hn hb, rat_ofQ (by omega), Rat.divInt_eq_div]
theorem ratio_q {n d : Int} (h : d ≠ 0) (hb : d.natAbs < 2 ^ 8999) : m_ratio n d = some (ofQ ((n : Rat) / (d : Rat))) := by
  rw [ratio_ok h hb, rat_ofQ h, Rat.divInt_eq_div]
theorem lt_q (x y : Rat) : decide (x.num * (y.den : Int) < y.num * (x.den : Int)) = decide (x < y) := by
  rw [Bool.eq_iff_iff, decide_eq_true_iff, decide_eq_true_iff]
  have e1 := num_eq x
  have e2 := num_eq y
  have p1 := den_posQ x
  have p2 := den_posQ y
  have pp := Rat.mul_pos p1 p2
  have c : (x.num * (y.den : Int) < y.num * (x.den : Int)) ↔ x * ((x.den : Rat) * y.den) < y * ((x.den : Rat) * y.den) := by
    have e3 : x * ((x.den : Rat) * y.den) = ((x.num * (y.den : Int) : Int) : Rat) := by push_cast; rw [e1]; grind
    have e4 : y * ((x.den : Rat) * y.den) = ((y.num * (x.den : Int) : Int) : Rat) := by push_cast; rw [e2]; grind
    rw [e3, e4]
    exact (Rat.intCast_lt_intCast ..).symm
  rw [c]
  exact Rat.mul_lt_mul_right pp
theorem l_less_q {x y : Rat} {k l : Nat} (hx : Bd k x) (hy : Bd l y) (hk : 0 < k) (hl : 0 < l) (h : k + l ≤ 8000) : m_l_less (ofQ x) (ofQ y) = some (decide (x < y)) := by
  unfold m_l_less ofQ
  dsimp only
  rw [mulI_b hx.1 (den_lt hy) hk hl (by omega), mulI_b hy.1 (den_lt hx) hl hk (by omega)]
  show some _ = some _
  rw [lt_q]
theorem better_q {x y : Rat} {k l : Nat} {m : Bool} (hx : Bd k x) (hy : Bd l y) (hk : 0 < k) (hl : 0 < l) (h : k + l ≤ 8000) : m_better (ofQ x) (ofQ y) m = some (if m = true then decide (y < x) else decide (x < y)) := by
  unfold m_better ofQ
  dsimp only
  rw [mulI_b hx.1 (den_lt hy) hk hl (by omega), mulI_b hy.1 (den_lt hx) hl hk (by omega)]
  cases m
  · show some _ = some _
    rw [lt_q]; rfl
  · show some _ = some _
    rw [lt_q]; rfl
end L3

namespace L3
open PySem L2
/-! ### means -/
def at' (xs : List Rat) (i : Int) : Rat := xs.getD i.toNat 0
def wv (xs : List Rat) (e : List (Int × Int)) : Rat := (e.map fun q => (q.2 : Rat) * at' xs q.1).sum
def meanQ (e : List (Int × Int)) (xs : List Rat) : Rat := wv xs e / (wsum e : Rat)
/-- ends: weights, states -/
def EE (n : Nat) (e : List (Int × Int)) : Prop := WE e ∧ ∀ q ∈ e, 0 ≤ q.1 ∧ q.1 < (n : Int)
theorem at_ix {xs : List Rat} {i : Int} (h0 : 0 ≤ i) (h1 : i < (xs.length : Int)) : ixL (xs.map ofQ) i = some (ofQ (at' xs i)) := by
  obtain ⟨n, rfl⟩ := Int.eq_ofNat_of_zero_le h0
  have hn : n < xs.length := by omega
  refine ixL_s (n := n) ?_ rfl
  unfold at'
  rw [List.getElem?_map, List.getElem?_eq_getElem hn]
  simp [List.getD_eq_getElem?_getD, List.getElem?_eq_getElem hn]
theorem at_mem {xs : List Rat} {i : Int} (h0 : 0 ≤ i) (h1 : i < (xs.length : Int)) : at' xs i ∈ xs := by
  obtain ⟨n, rfl⟩ := Int.eq_ofNat_of_zero_le h0
  have hn : n < xs.length := by omega
  unfold at'
  simp [List.getD_eq_getElem?_getD, List.getElem?_eq_getElem hn]
theorem wv_cons (xs : List Rat) (q : Int × Int) (e : List (Int × Int)) : wv xs (q :: e) = (q.2 : Rat) * at' xs q.1 + wv xs e := by
  unfold wv; rw [List.map_cons, List.sum_cons]
theorem wv_nil (xs : List Rat) : wv xs [] = 0 := rfl
theorem lt_up {a b c : Nat} (h : a < 2 ^ b) (hc : b ≤ c) : a < 2 ^ c := Nat.lt_of_lt_of_le h (Nat.pow_le_pow_right (by decide) hc)
theorem wv_sz {xs : List Rat} {L C : Nat} (hL : 0 < L) (hx : ∀ x ∈ xs, Sz L C x) : ∀ {e : List (Int × Int)}, (∀ q ∈ e, 0 ≤ q.1 ∧ q.1 < (xs.length : Int) ∧ 1 ≤ q.2 ∧ q.2 ≤ 1000) → Sz L (1000 * C * e.length) (wv xs e)
  | [], _ => sz_zero _ _
  | q :: e, h => by
    obtain ⟨a, b, c, d⟩ := h q List.mem_cons_self
    have ih := wv_sz hL hx (e := e) fun r hr => h r (List.mem_cons_of_mem _ hr)
    have s1 : Sz (1 * L) (1000 * C) ((q.2 : Rat) * at' xs q.1) := Sz.mul (by decide) hL (sz_int 1 1000 (by omega)) (hx _ (at_mem a b))
    rw [Nat.one_mul] at s1
    rw [wv_cons]
    refine (Sz.add hL s1 ih).up (Nat.dvd_refl _) ?_
    rw [List.length_cons, Nat.mul_add, Nat.mul_one, Nat.add_comm]
    exact Nat.le_refl _
/-- the program's sum -/
theorem mean_fold {xs : List Rat} {L C a b : Nat} (hL : 0 < L) (hx : ∀ x ∈ xs, Sz L C x) (ha : L < 2 ^ a) (hb : 1000 * C * 200 < 2 ^ b) (hab : a + b ≤ 1900) (ha0 : 0 < a) (hb0 : 10 ≤ b) (F : (Int × Int) → (Int × Int) → Option (Int × Int))
    (hF : ∀ s q, F s q = Option.bind (ixL (xs.map ofQ) q.1) fun t31 => Option.bind (if (!decide (t31 = ((0 : Int), (1 : Int)))) = true then
      Option.bind (ixL (xs.map ofQ) q.1) fun t37 =>
      Option.bind (m_times ((q.2, (1 : Int))) t37) fun t39 =>
      Option.bind (m_plus s t39) fun t41 =>
      some t41
    else some s) fun (s34 : (Int × Int)) => some s34) :
    ∀ (e : List (Int × Int)) (s : Rat) (k : Nat), Sz L (1000 * C * k) s → k + e.length ≤ 200 → (∀ q ∈ e, 0 ≤ q.1 ∧ q.1 < (xs.length : Int) ∧ 1 ≤ q.2 ∧ q.2 ≤ 1000) → foldO (S := (Int × Int)) (α := (Int × Int)) F (ofQ s) e = some (ofQ (s + wv xs e))
  | [], s, _, _, _, _ => by rw [wv_nil, Rat.add_zero]; rfl
  | q :: e, s, k, hs, hk, h => by
    obtain ⟨h0, h1, h2, h3⟩ := h q List.mem_cons_self
    rw [List.length_cons] at hk
    have bC : ∀ m, m ≤ 200 → 1000 * C * m < 2 ^ b := fun m hm => Nat.lt_of_le_of_lt (Nat.mul_le_mul_left _ hm) hb
    have c1 : 1000 * C < 2 ^ b := Nat.mul_one (1000 * C) ▸ bC 1 (by decide)
    have c0 : C < 2 ^ b := Nat.lt_of_le_of_lt (Nat.le_mul_of_pos_left C (by decide)) c1
    have hv := hx _ (at_mem h0 h1)
    have s1 : Sz (1 * L) (1000 * C) ((q.2 : Rat) * at' xs q.1) := Sz.mul (by decide) hL (sz_int 1 1000 (by omega)) hv
    rw [Nat.one_mul] at s1
    have s2 : Sz L (1000 * C * (k + 1)) (s + (q.2 : Rat) * at' xs q.1) := by
      rw [Nat.mul_add, Nat.mul_one]; exact Sz.add hL hs s1
    have step : F (ofQ s) q = some (ofQ (s + (q.2 : Rat) * at' xs q.1)) := by
      rw [hF, at_ix h0 h1]
      show Option.bind (if _ then _ else _) _ = _
      by_cases z : at' xs q.1 = 0
      · rw [if_neg (by rw [eq_0, z]; simp), z, Rat.mul_zero, Rat.add_zero]; rfl
      · rw [if_pos (by rw [eq_0, decide_eq_false z]; rfl)]
        rw [show ((q.2, 1) : Int × Int) = ofQ (q.2 : Rat) from (ofQ_int _).symm]
        show Option.bind (Option.bind (m_times _ (ofQ _)) _) _ = _
        have bw : Bd 11 (q.2 : Rat) := (sz_int 1 1000 (by omega)).bd (by decide) (a := 1) (b := 10) (by decide) (by decide)
        have bv : Bd (a + b) (at' xs q.1) := hv.bd hL ha (by first | exact c0 | exact c1)
        rw [times_q bw bv (by decide) (by omega) (by omega)]
        show Option.bind (Option.bind (m_plus (ofQ _) (ofQ _)) _) _ = _
        rw [plus_q (hs.bd hL ha (bC k (by omega))) (s1.bd hL ha (by first | exact c0 | exact c1)) (by omega) (by omega) (by omega)]
        rfl
    unfold foldO
    rw [step]
    show foldO F (ofQ _) e = _
    rw [mean_fold hL hx ha hb hab ha0 hb0 F hF e _ (k + 1) s2 (by omega) fun r hr => h r (List.mem_cons_of_mem _ hr), wv_cons, Rat.add_assoc]
theorem mean_ok {xs : List Rat} {L C a b : Nat} {e : List (Int × Int)} (hL : 0 < L) (hx : ∀ x ∈ xs, Sz L C x) (ha : L < 2 ^ a) (hb : 1000 * C * 200 < 2 ^ b) (hab : a + b ≤ 1900) (ha0 : 0 < a) (hb0 : 10 ≤ b) (he : EE xs.length e) : m_mean e (xs.map ofQ) = some (ofQ (meanQ e xs)) := by
  have hs := we_sum he.1
  have hq : ∀ q ∈ e, 0 ≤ q.1 ∧ q.1 < (xs.length : Int) ∧ 1 ≤ q.2 ∧ q.2 ≤ 1000 := fun q hq => ⟨(he.2 q hq).1, (he.2 q hq).2, he.1.2.2 q hq⟩
  have f := mean_fold hL hx ha hb hab ha0 hb0 _ (fun s q => rfl) e 0 0 (sz_zero _ _) (by have := he.1.2.1; omega) hq
  rw [ofQ_0, Rat.zero_add] at f
  unfold m_mean
  refine Eq.trans (congrArg (fun z => Option.bind z _) f) ?_
  show Option.bind (m_total_weight e) _ = _
  rw [total_ok he.1]
  show Option.bind (m_over _ (wsum e, 1)) _ = _
  rw [show ((wsum e, 1) : Int × Int) = ofQ (wsum e : Rat) from (ofQ_int _).symm]
  have sw := wv_sz hL hx hq
  have bw : Bd 22 (wsum e : Rat) := (sz_int 1 100000 (w := wsum e) (by omega)).bd (by decide) (a := 5) (b := 17) (by decide) (by decide)
  rw [over_q (sw.bd hL ha (Nat.lt_of_le_of_lt (Nat.mul_le_mul_left _ (by have := he.1.2.1; omega)) hb)) bw ?_ (by omega) (by decide) (by omega)]
  · rfl
  · intro z
    have : wsum e = 0 := by exact_mod_cast z
    omega
/-- the law's sum -/
theorem wsum_map {e : List (Int × Int)} : (e.map fun q => q.2).sum = wsum e := rfl
theorem l_mean_fold {xs : List Rat} {L C W a b : Nat} (hL : 0 < L) (hW : 0 < W) (hx : ∀ x ∈ xs, Sz L C x) (ha : W * L < 2 ^ a) (hb : 1000 * C * 200 < 2 ^ b) (hab : a + b ≤ 490) (ha0 : 0 < a) (hb0 : 10 ≤ b) (hW2 : W ≤ 2 ^ 20) (F : (Int × Int) → (Int × Int) → Option (Int × Int))
    (hF : ∀ s q, F s q = Option.bind (m_l_ratio q.2 (W : Int)) fun t62 => Option.bind (ixL (xs.map ofQ) q.1) fun t64 => Option.bind (m_l_times t62 t64) fun t66 => Option.bind (m_l_plus s t66) fun t68 => some t68) :
    ∀ (e : List (Int × Int)) (s : Rat) (k : Nat), Sz (W * L) (1000 * C * k) s → k + e.length ≤ 200 → (∀ q ∈ e, 0 ≤ q.1 ∧ q.1 < (xs.length : Int) ∧ 1 ≤ q.2 ∧ q.2 ≤ 1000) → foldO (S := (Int × Int)) (α := (Int × Int)) F (ofQ s) e = some (ofQ (s + wv xs e / (W : Rat)))
  | [], s, _, _, _, _ => by
    rw [wv_nil, Rat.div_def, Rat.zero_mul, Rat.add_zero]; rfl
  | q :: e, s, k, hs, hk, h => by
    obtain ⟨h0, h1, h2, h3⟩ := h q List.mem_cons_self
    rw [List.length_cons] at hk
    have bC : ∀ m, m ≤ 200 → 1000 * C * m < 2 ^ b := fun m hm => Nat.lt_of_le_of_lt (Nat.mul_le_mul_left _ hm) hb
    have c1 : 1000 * C < 2 ^ b := Nat.mul_one (1000 * C) ▸ bC 1 (by decide)
    have c0 : C < 2 ^ b := Nat.lt_of_le_of_lt (Nat.le_mul_of_pos_left C (by decide)) c1
    have hv := hx _ (at_mem h0 h1)
    have W0 : (0 : Rat) < (W : Rat) := by exact_mod_cast hW
    have W1 : (1 : Rat) ≤ (W : Rat) := by exact_mod_cast hW
    have q0 : (0 : Rat) ≤ (q.2 : Rat) := by have : 0 ≤ q.2 := by omega
                                            exact_mod_cast this
    have q1 : (q.2 : Rat) ≤ 1000 := by exact_mod_cast h3
    have sr : Sz W 1000 ((q.2 : Rat) / (W : Rat)) := by
      refine ⟨?_, ?_, ?_⟩
      · have e1 : (q.2 : Rat) / (W : Rat) = Rat.divInt q.2 (W : Int) := by rw [Rat.divInt_eq_div, Rat.intCast_natCast]
        rw [e1]
        exact (dv_iff (by omega)).mpr ⟨_, rfl⟩
      · have : (0 : Rat) ≤ (q.2 : Rat) / W := by
          rw [Rat.div_def]; exact Rat.mul_nonneg q0 (Rat.le_of_lt (Rat.inv_pos.mpr W0))
        have : (0 : Rat) ≤ ((1000 : Nat) : Rat) := by exact_mod_cast Nat.zero_le _
        grind
      · refine Rat.not_lt.mp fun z => ?_
        have z := (Rat.lt_div_iff W0).mp z
        have e2 : ((1000 : Nat) : Rat) = 1000 := by rfl
        rw [e2] at z
        have := Rat.mul_le_mul_of_nonneg_left W1 (show (0 : Rat) ≤ 1000 by decide)
        grind
    have s1 : Sz (W * L) (1000 * C) ((q.2 : Rat) / (W : Rat) * at' xs q.1) := Sz.mul hW hL sr hv
    have hWL := Nat.mul_pos hW hL
    have s2 : Sz (W * L) (1000 * C * (k + 1)) (s + (q.2 : Rat) / W * at' xs q.1) := by
      rw [Nat.mul_add, Nat.mul_one]; exact Sz.add hWL hs s1
    have step : F (ofQ s) q = some (ofQ (s + (q.2 : Rat) / W * at' xs q.1)) := by
      rw [hF, l_ratio_q (by omega) (Nat.lt_of_lt_of_le (show q.2.natAbs < 2 ^ 10 by omega) (Nat.pow_le_pow_right (by decide) (by decide))) (Nat.lt_of_le_of_lt (show ((W : Int)).natAbs ≤ 2 ^ 20 by omega) (Nat.pow_lt_pow_right (by decide) (by decide)))]
      show Option.bind (ixL (xs.map ofQ) q.1) _ = _
      rw [at_ix h0 h1]
      show Option.bind (m_l_times (ofQ _) (ofQ _)) _ = _
      rw [Rat.intCast_natCast]
      have br : Bd (a + b) ((q.2 : Rat) / W) := by
        have hCz : (0 : Nat) < L := hL
        refine sr.bd hW (Nat.lt_of_le_of_lt (Nat.le_mul_of_pos_right W hL) ha) (Nat.lt_of_lt_of_le (show 1000 < 2 ^ 10 by decide) (Nat.pow_le_pow_right (by decide) hb0))
      have bv : Bd (a + b) (at' xs q.1) := hv.bd hL (Nat.lt_of_le_of_lt (Nat.le_mul_of_pos_left L hW) ha) (by first | exact c0 | exact c1)
      rw [l_times_q br bv (by omega) (by omega) (by omega)]
      show Option.bind (m_l_plus (ofQ _) (ofQ _)) _ = _
      rw [l_plus_q (hs.bd hWL ha (bC k (by omega))) (s1.bd hWL ha (by first | exact c0 | exact c1)) (by omega) (by omega) (by omega)]
      rfl
    unfold foldO
    rw [step]
    show foldO F (ofQ _) e = _
    rw [l_mean_fold hL hW hx ha hb hab ha0 hb0 hW2 F hF e _ (k + 1) s2 (by omega) fun r hr => h r (List.mem_cons_of_mem _ hr), wv_cons]
    congr 2
    grind
theorem l_mean_ok {xs : List Rat} {L C a b : Nat} {e : List (Int × Int)} (hL : 0 < L) (hx : ∀ x ∈ xs, Sz L C x) (he : EE xs.length e) (ha : (wsum e).toNat * L < 2 ^ a) (hb : 1000 * C * 200 < 2 ^ b) (hab : a + b ≤ 490) (ha0 : 0 < a) (hb0 : 10 ≤ b) : m_l_mean e (xs.map ofQ) = some (ofQ (meanQ e xs)) := by
  have hs := we_sum he.1
  have hq : ∀ q ∈ e, 0 ≤ q.1 ∧ q.1 < (xs.length : Int) ∧ 1 ≤ q.2 ∧ q.2 ≤ 1000 := fun q hq => ⟨(he.2 q hq).1, (he.2 q hq).2, he.1.2.2 q hq⟩
  have eW : (((wsum e).toNat : Nat) : Int) = wsum e := by omega
  unfold m_l_mean
  rw [room_s (by have := he.1.2.1; omega)]
  show Option.bind (compM _ () e) _ = _
  rw [compM_map (g := fun q => q.2) fun q _ => rfl]
  have f := l_mean_fold (W := (wsum e).toNat) hL (by omega) hx ha hb hab ha0 hb0 (by omega) (fun s q => Option.bind (m_l_ratio q.2 (wsum e)) fun t62 => Option.bind (ixL (xs.map ofQ) q.1) fun t64 => Option.bind (m_l_times t62 t64) fun t66 => Option.bind (m_l_plus s t66) fun t68 => some t68) (fun s q => by rw [eW]) e 0 0 (sz_zero _ _) (by have := he.1.2.1; omega) hq
  rw [ofQ_0, Rat.zero_add, ← Rat.intCast_natCast, eW] at f
  show Option.bind (foldO _ _ _) _ = _
  refine Eq.trans (congrArg (fun z => Option.bind z _) f) rfl
end L3

namespace L3
open PySem L2
theorem putI_len (k v : Int) : ∀ l : List (Int × Int), (putI l k v).length ≤ l.length + 1 ∧ 1 ≤ (putI l k v).length
  | [] => ⟨Nat.le_refl _, Nat.le_refl _⟩
  | q :: l => by
    have ih := putI_len k v l
    by_cases h : q.1 = k
    · unfold putI; rw [if_pos h]; simp
    · rw [putI_cons_ne h]; simp; omega
theorem putI_mem (k v : Int) : ∀ (l : List (Int × Int)) (q : Int × Int), q ∈ putI l k v → q.2 = v ∨ ∃ q' ∈ l, q.2 = q'.2
  | [], q, h => by
    have h : q ∈ [(k, v)] := h
    left; rw [List.mem_singleton.mp h]
  | p :: l, q, h => by
    by_cases e : p.1 = k
    · unfold putI at h
      rw [if_pos e] at h
      rcases List.mem_cons.mp h with rfl | h
      · exact .inl rfl
      · obtain ⟨q', h1, h2⟩ := List.mem_map.mp h
        by_cases e2 : q'.1 = k
        · rw [if_pos e2] at h2; left; rw [← h2]
        · rw [if_neg e2] at h2; right; exact ⟨q', List.mem_cons_of_mem _ h1, by rw [h2]⟩
    · rw [putI_cons_ne e] at h
      rcases List.mem_cons.mp h with rfl | h
      · exact .inr ⟨_, List.mem_cons_self, rfl⟩
      · rcases putI_mem k v l q h with h | ⟨q', h1, h2⟩
        · exact .inl h
        · exact .inr ⟨q', List.mem_cons_of_mem _ h1, h2⟩
theorem putI_keys (k v : Int) : ∀ l : List (Int × Int), (putI l k v).map (·.1) = if k ∈ l.map (·.1) then l.map (·.1) else l.map (·.1) ++ [k]
  | [] => rfl
  | q :: l => by
    by_cases e : q.1 = k
    · unfold putI
      rw [if_pos e, if_pos (by rw [← e]; simp)]
      rw [List.map_cons, List.map_cons, List.map_map]
      congr 1
      refine List.map_congr_left fun r _ => ?_
      show (if r.1 = k then (r.1, v) else r).1 = r.1
      split <;> rfl
    · rw [putI_cons_ne e, List.map_cons, putI_keys k v l, List.map_cons]
      by_cases h : k ∈ l.map (·.1)
      · rw [if_pos h, if_pos (List.mem_cons_of_mem _ h)]
      · rw [if_neg h, if_neg (fun z => (List.mem_cons.mp z).elim (fun w => e w.symm) h)]
        rfl
theorem putI_nodup {k v : Int} {l : List (Int × Int)} (h : (l.map (·.1)).Nodup) : ((putI l k v).map (·.1)).Nodup := by
  rw [putI_keys]
  split
  · exact h
  · rename_i hk
    exact List.nodup_append.mpr ⟨h, by simp, fun a ha b hb => by rw [List.mem_singleton.mp hb]; exact fun z => hk (z ▸ ha)⟩
theorem sortI_sorted (l : List (Int × Int)) : (sortI l).Pairwise fun a b => a.1 < b.1 ∨ a.1 = b.1 ∧ a.2 ≤ b.2 := by
  refine (List.pairwise_mergeSort (le := leI) (fun a b c h1 h2 => ?_) (fun a b => ?_) l).imp fun {a b} h => ?_
  · unfold leI at *
    rw [Bool.not_eq_true'] at *
    have a1 := SrtO.lexB_no.mp h1
    have a2 := SrtO.lexB_no.mp h2
    refine SrtO.lexB_no.mpr ?_
    omega
  · unfold leI
    cases e : SrtO.lexB b a with
    | false => rfl
    | true =>
      have a1 := SrtO.lexB_iff.mp e
      have a2 : SrtO.lexB a b = false := SrtO.lexB_no.mpr (by omega)
      rw [a2]; rfl
  · unfold leI at h
    rw [Bool.not_eq_true'] at h
    have := SrtO.lexB_no.mp h
    omega
theorem ve_sort {many : Nat} {d : List (Int × Int)} (h1 : d ≠ []) (h2 : d.length ≤ many) (h3 : ∀ q ∈ d, 0 ≤ q.1 ∧ q.1 < (many : Int) ∧ 1 ≤ q.2 ∧ q.2 ≤ 1000) (h4 : (d.map (·.1)).Nodup) : VE many (sortI d) := by
  have p := sortI_perm d
  refine ⟨fun z => h1 ?_, by rw [p.length_eq]; exact h2, fun q hq => h3 q (p.mem_iff.mp hq), ?_⟩
  · rw [z] at p; exact p.symm.eq_nil
  · have n := ((p.map (·.1)).nodup_iff).mpr h4
    have n : (sortI d).Pairwise fun a b => a.1 ≠ b.1 := List.pairwise_map.mp n
    exact (n.and (sortI_sorted d)).imp fun {a b} h => by omega
/-- a drawn larger system -/
def LS (many : Nat) (s : List (List (Int × List (Int × Int)))) : Prop := s.length = many ∧ ∀ cs ∈ s, (1 ≤ cs.length ∧ cs.length ≤ 6) ∧ ∀ c ∈ cs, VC many c ∧ c.2.length ≤ 6
theorem nodup_le {many : Nat} {l : List Int} (h : l.Nodup) (hm : ∀ x ∈ l, 0 ≤ x ∧ x < (many : Int)) : l.length ≤ many := by
  have e : (l.map Int.toNat).Nodup := by
    refine List.pairwise_map.mpr ?_
    refine h.imp_of_mem fun {a b} ha hb hab => ?_
    have := hm a ha; have := hm b hb
    omega
  have s : (l.map Int.toNat) ⊆ List.range many := fun x hx => by
    obtain ⟨y, hy, rfl⟩ := List.mem_map.mp hx
    have := hm y hy
    exact List.mem_range.mpr (by omega)
  have := List.Nodup.length_le_of_subset e s
  rwa [List.length_map, List.length_range] at this
theorem large_ok {st : List Int × Int} {n many : Int} (hs : StOk st n) (hn : n < 2 ^ 48) (h1 : 1 ≤ many) (h2 : many ≤ 99) : Yes (m_l_large st many) fun r => LS many.toNat r.1 ∧ StOk r.2 (n + 1000 * many) := by
  unfold m_l_large
  refine y_eq (small62_s (by omega) (by omega)) ?_
  refine y_bind (Q := fun (p : TS' × (List Int × Int)) => LS many.toNat p.1 ∧ StOk p.2 (n + 1000 * many)) ?_ fun p hp => y_some hp
  refine (y_foldI _ (fun i (p : TS' × (List Int × Int)) => p.1.length = i ∧ (∀ cs ∈ p.1, (1 ≤ cs.length ∧ cs.length ≤ 6) ∧ ∀ c ∈ cs, VC many.toNat c ∧ c.2.length ≤ 6) ∧ StOk p.2 (n + 1000 * i)) ⟨rfl, by simp, by simpa using hs⟩ ?_).mono fun p hp => ?_
  · rintro i x ⟨e, st⟩ hx ⟨g1, g2, g3⟩
    obtain ⟨e1, e2⟩ := rng_at hx
    dsimp only at g1 g2 g3
    refine y_bind (take_ok g3 (by omega) (by decide)) fun t31 h31 => ?_
    refine y_bind (ixL_lit (P := fun z => 1 ≤ z ∧ z ≤ 6) h31.1.1 h31.1.2 (by decide)) fun t33 h33 => ?_
    refine y_eq (small62_s (by omega) (by omega)) ?_
    refine y_bind (Q := fun (p : List TC' × (List Int × Int)) => ((1 ≤ p.1.length ∧ p.1.length ≤ 6) ∧ ∀ c ∈ p.1, VC many.toNat c ∧ c.2.length ≤ 6) ∧ StOk p.2 (n + 1000 * (i + 1 : Nat))) ?_ fun p hp => ?_
    · refine (y_foldI _ (fun j (p : List TC' × (List Int × Int)) => p.1.length = j ∧ (∀ c ∈ p.1, VC many.toNat c ∧ c.2.length ≤ 6) ∧ StOk p.2 (n + 1000 * i + 1 + 50 * j)) ⟨rfl, by simp, by simpa using h31.2⟩ ?_).mono fun p hp => ?_
      · rintro j y ⟨e', st'⟩ hy ⟨f1, f2, f3⟩
        obtain ⟨d1, d2⟩ := rng_at hy
        dsimp only at f1 f2 f3
        refine y_bind (take_ok f3 (by omega) (by decide)) fun t61 h61 => ?_
        have r61 := h61.1
        refine y_eq (small62_s (by omega) (by omega)) ?_
        refine y_bind (Q := fun (p : TE' × (List Int × Int)) => (VE many.toNat (sortI p.1) ∧ p.1.length ≤ 6) ∧ StOk p.2 (n + 1000 * i + 1 + 50 * j + 20)) ?_ fun p hp => ?_
        · refine (y_foldI _ (fun k (p : TE' × (List Int × Int)) => p.1.length ≤ k ∧ (0 < k → 1 ≤ p.1.length) ∧ ((∀ q ∈ p.1, 0 ≤ q.1 ∧ q.1 < many ∧ 1 ≤ q.2 ∧ q.2 ≤ 1000) ∧ (p.1.map (·.1)).Nodup) ∧ StOk p.2 (n + 1000 * i + 1 + 50 * j + 1 + 2 * k)) ⟨Nat.le_refl _, fun h => absurd h (by omega), by simp, by simpa using h61.2⟩ ?_).mono fun p hp => ?_
          · rintro k z ⟨d, st2⟩ hz ⟨k1, k2, k3, k4⟩
            obtain ⟨c1, c2⟩ := rng_at hz
            dsimp only at k1 k2 k3 k4
            refine y_bind (take_ok k4 (by omega) (by decide)) fun t85 h85 => ?_
            refine y_bind (ixL_lit (P := fun z => 1 ≤ z ∧ z ≤ 1000) h85.1.1 h85.1.2 (by decide)) fun t87 h87 => ?_
            refine y_bind (take_ok h85.2 (by omega) (by omega)) fun t89 h89 => ?_
            refine y_eq (room_s (by show d.length ≤ _; omega)) (y_some ⟨?_, fun _ => (putI_len _ _ d).2, ⟨fun q hq => ?_, putI_nodup k3.2⟩, ?_⟩)
            · have := (putI_len t89.1 t87 d).1
              show (putI d t89.1 t87).length ≤ _
              omega
            · have hk : 0 ≤ q.1 ∧ q.1 < many := by
                have hq1 : q.1 ∈ (putI d t89.1 t87).map (·.1) := List.mem_map_of_mem hq
                rw [putI_keys] at hq1
                have : q.1 ∈ d.map (·.1) ∨ q.1 = t89.1 := by
                  split at hq1
                  · exact .inl hq1
                  · exact (List.mem_append.mp hq1).imp id List.mem_singleton.mp
                rcases this with h | h
                · obtain ⟨r, hr, e⟩ := List.mem_map.mp h
                  have := k3.1 r hr
                  omega
                · rw [h]; exact h89.1
              refine ⟨hk.1, hk.2, ?_⟩
              rcases putI_mem _ _ d q hq with h | ⟨q', m1, m2⟩
              · rw [h]; exact h87
              · rw [m2]; exact (k3.1 q' m1).2.2
            · exact h89.2.le (by omega)
          · obtain ⟨k1, k2, k3, k4⟩ := hp
            rw [rng_len] at k1 k2 k4
            have k2 := k2 (by omega)
            have em : ((many.toNat : Nat) : Int) = many := by omega
            refine ⟨⟨ve_sort (fun z => by rw [z] at k2; exact absurd k2 (by simp)) ?_ (by rw [em]; exact k3.1) k3.2, by omega⟩, k4.le (by omega)⟩
            have := nodup_le (many := many.toNat) k3.2 fun x hx => by
              obtain ⟨r, hr, e⟩ := List.mem_map.mp hx
              have := k3.1 r hr
              omega
            rwa [List.length_map] at this
        · refine y_bind (take_ok hp.2 (by omega) (by decide)) fun t101 h101 => y_eq (room_s (by show e'.length ≤ _; omega)) (y_some ⟨?_, ?_, ?_⟩)
          · show (e' ++ [_]).length = _
            rw [List.length_append, List.length_singleton, f1]
          · intro c hc
            rcases List.mem_append.mp hc with hc | hc
            · exact f2 c hc
            · rw [List.mem_singleton.mp hc]; exact ⟨⟨h101.1.1, by have := h101.1.2; show t101.1 ≤ _; omega, hp.1.1⟩, by show (sortI p.1).length ≤ _; rw [(sortI_perm _).length_eq]; exact hp.1.2⟩
          · exact h101.2.le (by omega)
      · obtain ⟨f1, f2, f3⟩ := hp
        rw [rng_len] at f1 f3
        exact ⟨⟨⟨by omega, by omega⟩, f2⟩, f3.le (by omega)⟩
    · refine y_eq (room_s (by show e.length ≤ _; omega)) (y_some ⟨?_, ?_, hp.2⟩)
      · show (e ++ [_]).length = _
        rw [List.length_append, List.length_singleton, g1]
      · intro cs hc
        rcases List.mem_append.mp hc with hc | hc
        · exact g2 cs hc
        · rw [List.mem_singleton.mp hc]; exact hp.1
  · obtain ⟨g1, g2, g3⟩ := hp
    rw [rng_len] at g1 g3
    exact ⟨⟨by omega, g2⟩, g3.le (by omega)⟩
end L3

namespace L3
open PySem L2
theorem y_fold2 {S α : Type} (f g : S → α → Option S) (I : Nat → S → Prop) {xs : List α} {s : S} (h0 : I 0 s) (hs : ∀ (i : Nat) x s, xs[i]? = some x → I i s → ∃ s', f s x = some s' ∧ g s x = some s' ∧ I (i + 1) s') : ∃ s', foldO f s xs = some s' ∧ foldO g s xs = some s' ∧ I xs.length s' := by
  induction xs generalizing s I with
  | nil => exact ⟨s, rfl, rfl, h0⟩
  | cons x xs ih =>
    obtain ⟨s', h1, h2, h3⟩ := hs 0 x s rfl h0
    unfold foldO
    rw [h1, h2]
    exact ih (fun i => I (i + 1)) h3 fun i y s hy hI => hs (i + 1) y s (by simpa using hy) hI
/-! ### means of chances -/
def In01 (x : Rat) : Prop := 0 ≤ x ∧ x ≤ 1
theorem wv_01 {xs : List Rat} (hx : ∀ x ∈ xs, In01 x) : ∀ {e : List (Int × Int)}, (∀ q ∈ e, 0 ≤ q.1 ∧ q.1 < (xs.length : Int) ∧ 1 ≤ q.2 ∧ q.2 ≤ 1000) → 0 ≤ wv xs e ∧ wv xs e ≤ (wsum e : Rat)
  | [], _ => by
    show (0 : Rat) ≤ 0 ∧ (0 : Rat) ≤ ((0 : Int) : Rat)
    exact ⟨Rat.le_refl, by simp⟩
  | q :: e, h => by
    obtain ⟨a, b, c, d⟩ := h q List.mem_cons_self
    have ih := wv_01 hx (e := e) fun r hr => h r (List.mem_cons_of_mem _ hr)
    obtain ⟨v0, v1⟩ := hx _ (at_mem a b)
    have c0 : (0 : Rat) ≤ (q.2 : Rat) := by have : 0 ≤ q.2 := by omega
                                            exact_mod_cast this
    have m0 := Rat.mul_nonneg c0 v0
    have m1 := Rat.mul_le_mul_of_nonneg_left v1 c0
    have ew : (wsum (q :: e) : Rat) = (q.2 : Rat) + (wsum e : Rat) := by
      have : wsum (q :: e) = q.2 + wsum e := by
        show ((q :: e).map (·.2)).sum = _
        rw [List.map_cons, List.sum_cons]
      rw [this]; push_cast; rfl
    rw [wv_cons, ew]
    constructor <;> grind
theorem inv_sz {W : Nat} (hW : 0 < W) : ((1 : Rat) / (W : Rat)).den ∣ W := by
  have e1 : (1 : Rat) / (W : Rat) = Rat.divInt 1 (W : Int) := by rw [Rat.divInt_eq_div, Rat.intCast_natCast]; rfl
  rw [e1]
  exact (dv_iff (by omega)).mpr ⟨_, rfl⟩
theorem meanQ_dv {xs : List Rat} {L C : Nat} {e : List (Int × Int)} (hL : 0 < L) (hx : ∀ x ∈ xs, Sz L C x) (he : EE xs.length e) : (meanQ e xs).den ∣ (wsum e).toNat * L := by
  have hs := we_sum he.1
  have hq : ∀ q ∈ e, 0 ≤ q.1 ∧ q.1 < (xs.length : Int) ∧ 1 ≤ q.2 ∧ q.2 ≤ 1000 := fun q hq => ⟨(he.2 q hq).1, (he.2 q hq).2, he.1.2.2 q hq⟩
  have s := wv_sz hL hx hq
  have eW : (((wsum e).toNat : Nat) : Rat) = (wsum e : Rat) := by
    rw [← Rat.intCast_natCast]
    congr 1
    omega
  have : meanQ e xs = (1 : Rat) / (((wsum e).toNat : Nat) : Rat) * wv xs e := by
    unfold meanQ; rw [eW]; grind
  rw [this]
  exact dv_mul (by omega) (by omega) (inv_sz (by omega)) s.dv
theorem meanQ_01 {xs : List Rat} {e : List (Int × Int)} (hx : ∀ x ∈ xs, In01 x) (he : EE xs.length e) : In01 (meanQ e xs) := by
  have hs := we_sum he.1
  have hq : ∀ q ∈ e, 0 ≤ q.1 ∧ q.1 < (xs.length : Int) ∧ 1 ≤ q.2 ∧ q.2 ≤ 1000 := fun q hq => ⟨(he.2 q hq).1, (he.2 q hq).2, he.1.2.2 q hq⟩
  obtain ⟨a, b⟩ := wv_01 hx hq
  have W0 : (0 : Rat) < (wsum e : Rat) := by
    have : 0 < wsum e := by omega
    exact_mod_cast this
  unfold meanQ
  refine ⟨?_, Rat.not_lt.mp fun z => ?_⟩
  · rw [Rat.div_def]; exact Rat.mul_nonneg a (Rat.le_of_lt (Rat.inv_pos.mpr W0))
  · have z := (Rat.lt_div_iff W0).mp z
    grind
theorem in01_sz {L : Nat} {x : Rat} (h : In01 x) (d : x.den ∣ L) : Sz L 1 x := ⟨d, by have := h.1; have : ((1 : Nat) : Rat) = 1 := rfl; grind, by have := h.2; have : ((1 : Nat) : Rat) = 1 := rfl; grind⟩
/-! ### the first best one -/
def bt (most : Bool) (a b : Rat) : Bool := if most = true then decide (a < b) else decide (b < a)
def bstep (most : Bool) (f : Int → Rat) (o : Option (Int × Rat)) (k : Int) : Option (Int × Rat) := match o with
  | none => some (k, f k)
  | some p => if bt most p.2 (f k) = true then some (k, f k) else some p
def best (most : Bool) (f : Int → Rat) (ks : List Int) : Option (Int × Rat) := ks.foldl (bstep most f) none
def qo (p : Int × Rat) : Int × (Int × Int) := (p.1, ofQ p.2)
theorem best_fold {cs : List (Int × List (Int × Int))} {vs : List (Int × Int)} {most : Bool} {f : Int → Rat} {m : Nat} (m0 : 0 < m) (m1 : m ≤ 1900) (F : Option (Int × (Int × Int)) → Int → Option (Option (Int × (Int × Int))))
    (hF : ∀ s4 x5, F s4 x5 = Option.bind (ixL cs x5) fun t27 => Option.bind (m_no_cost t27) fun t29 => Option.bind (ixL cs x5) fun t31 => Option.bind (m_mean t31.2 vs) fun t33 => Option.bind (m_plus t29 t33) fun t35 =>
      Option.bind ((if s4.isNone = true then (some (true)) else (Option.bind (s4) fun t40 => Option.bind (m_better t35 t40.2 most) fun t42 => some (t42)))) fun t44 =>
      Option.bind (if t44 = true then some ((some (x5, t35))) else some s4) fun (s48 : (Option (Int × (Int × Int)))) => some s48) :
    ∀ (ks : List Int) (o : Option (Int × Rat)), (∀ k ∈ ks, ∃ c, ixL cs k = some c ∧ m_mean c.2 vs = some (ofQ (f k)) ∧ Bd m (f k)) → (∀ p, o = some p → Bd m p.2) → foldO F (o.map qo) ks = some ((ks.foldl (bstep most f) o).map qo)
  | [], _, _, _ => rfl
  | k :: ks, o, h, ho => by
    obtain ⟨c, h1, h2, h3⟩ := h k List.mem_cons_self
    have step : F (o.map qo) k = some ((bstep most f o k).map qo) := by
      have nc : m_no_cost c = some (ofQ 0) := by
        unfold m_no_cost
        rw [mulI_l (by decide) (by decide), ofQ_0, Int.zero_mul]
        rfl
      rw [hF, h1]
      simp only [Option.bind_some, nc, h2]
      rw [ plus_q (k := 1) (l := m) ⟨by decide, by decide⟩ h3 (by decide) m0 (by omega), Rat.zero_add]
      cases o with
      | none => rfl
      | some p =>
        show Option.bind (Option.bind (m_better (ofQ (f k)) (ofQ p.2) most) _) _ = _
        rw [better_q h3 (ho p rfl) m0 m0 (by omega)]
        show Option.bind (if bt most p.2 (f k) = true then _ else _) _ = some (Option.map qo (if bt most p.2 (f k) = true then _ else _))
        cases bt most p.2 (f k) <;> rfl
    unfold foldO
    rw [step]
    refine best_fold m0 m1 F hF ks _ (fun j hj => h j (List.mem_cons_of_mem _ hj)) fun p hp => ?_
    cases o with
    | none =>
      have hp : some (k, f k) = some p := hp
      cases hp; exact h3
    | some q =>
      unfold bstep at hp
      dsimp only at hp
      split at hp
      · cases hp; exact h3
      · cases hp; exact ho _ rfl
theorem best_ok {cs : List (Int × List (Int × Int))} {vs : List (Int × Int)} {most : Bool} {f : Int → Rat} {m : Nat} {ks : List Int} (m0 : 0 < m) (m1 : m ≤ 1900) (h : ∀ k ∈ ks, ∃ c, ixL cs k = some c ∧ m_mean c.2 vs = some (ofQ (f k)) ∧ Bd m (f k)) :
    m_best_choice cs vs ks most = some ((best most f ks).map qo) := by
  unfold m_best_choice
  refine Eq.trans (congrArg (fun z => Option.bind z _) (best_fold (f := f) m0 m1 _ (fun _ _ => rfl) ks none h fun p hp => by cases hp)) rfl
def polOf (pol : List Int) (i : Nat) (o : Option (Int × Rat)) : List Int := match o with
  | none => pol
  | some p => pol.set i p.1
theorem l_best_fold {sys : List (List (Int × List (Int × Int)))} {cs : List (Int × List (Int × Int))} {vs : List (Int × Int)} {most : Bool} {f : Int → Rat} {m i : Nat} {pol : List Int} {x9 : Int} (m0 : 0 < m) (m1 : m ≤ 1900) (hx : ixL sys x9 = some cs) (hi : x9 = (i : Int)) (hl : i < pol.length)
    (F : (Option (Int × Int)) × List Int → Int → Option ((Option (Int × Int)) × List Int))
    (hF : ∀ s38 x39, F s38 x39 = Option.bind (ixL sys x9) fun t61 => Option.bind (ixL t61 x39) fun t63 => Option.bind (m_l_mean t63.2 vs) fun t65 =>
      Option.bind ((if s38.1.isNone = true then (some (true)) else (Option.bind ((if most = true then (Option.bind (s38.1) fun t70 => Option.bind (m_l_less t70 t65) fun t72 => some (t72)) else (some (false)))) fun t74 => Option.bind ((if t74 = true then (some (true)) else (Option.bind ((if (!most) = true then (Option.bind (s38.1) fun t77 => Option.bind (m_l_less t65 t77) fun t79 => some (t79)) else (some (false)))) fun t81 => some (t81)))) fun t84 => some (t84)))) fun t87 =>
      Option.bind (if t87 = true then Option.bind (ixO s38.2.length x9) fun t97 => some (((some t65), (s38.2.set t97 x39))) else some ((s38.1, s38.2))) fun (s91 : ((Option (Int × Int)) × (List Int))) => some ((s91.1, s91.2))) :
    ∀ (ks : List Int) (o : Option (Int × Rat)), (∀ k ∈ ks, ∃ c, ixL cs k = some c ∧ m_l_mean c.2 vs = some (ofQ (f k)) ∧ Bd m (f k)) → (∀ p, o = some p → Bd m p.2) → foldO F (o.map (fun p => ofQ p.2), polOf pol i o) ks = some ((ks.foldl (bstep most f) o).map (fun p => ofQ p.2), polOf pol i (ks.foldl (bstep most f) o))
  | [], _, _, _ => rfl
  | k :: ks, o, h, ho => by
    obtain ⟨c, h1, h2, h3⟩ := h k List.mem_cons_self
    have pl : (polOf pol i o).length = pol.length := by cases o <;> simp [polOf]
    have ix : ixO (polOf pol i o).length x9 = some i := by
      rw [pl, hi]
      unfold ixO ixN
      simp [hl]
    have ps : (polOf pol i o).set i k = pol.set i k := by
      cases o with
      | none => rfl
      | some p => show (pol.set i p.1).set i k = _; rw [List.set_set]
    have step : F (o.map (fun p => ofQ p.2), polOf pol i o) k = some ((bstep most f o k).map (fun p => ofQ p.2), polOf pol i (bstep most f o k)) := by
      rw [hF, hx]
      show Option.bind (ixL cs k) _ = _
      rw [h1]
      show Option.bind (m_l_mean c.2 vs) _ = _
      rw [h2]
      cases o with
      | none =>
        show Option.bind (Option.bind (ixO (polOf pol i none).length x9) _) _ = _
        rw [ix]
        rfl
      | some p =>
        have l1 := l_less_q (ho p rfl) h3 m0 m0 (by omega)
        have l2 := l_less_q h3 (ho p rfl) m0 m0 (by omega)
        have key : ∀ b : Bool, Option.bind (if b = true then Option.bind (ixO (polOf pol i (some p)).length x9) fun t97 => some (((some (ofQ (f k))), ((polOf pol i (some p)).set t97 k))) else some ((some (ofQ p.2), polOf pol i (some p)))) (fun (s91 : ((Option (Int × Int)) × (List Int))) => some ((s91.1, s91.2))) = some ((if b = true then some (k, f k) else some p).map (fun p => ofQ p.2), polOf pol i (if b = true then some (k, f k) else some p)) := by
          intro b
          cases b with
          | false => rfl
          | true =>
            show Option.bind (Option.bind (ixO _ _) _) _ = _
            rw [ix]
            show some (some (ofQ (f k)), (polOf pol i (some p)).set i k) = some (some (ofQ (f k)), pol.set i k)
            rw [ps]
        cases most with
        | true =>
          show Option.bind (Option.bind (Option.bind (m_l_less (ofQ p.2) (ofQ (f k))) _) _) _ = _
          rw [l1]
          have := key (decide (p.2 < f k))
          revert this
          show _ → _ = some (Option.map _ (if decide (p.2 < f k) = true then _ else _), polOf pol i (if decide (p.2 < f k) = true then _ else _))
          cases decide (p.2 < f k) <;> exact fun h => h
        | false =>
          show Option.bind (Option.bind (Option.bind (Option.bind (m_l_less (ofQ (f k)) (ofQ p.2)) _) _) _) _ = _
          rw [l2]
          have := key (decide (f k < p.2))
          revert this
          show _ → _ = some (Option.map _ (if decide (f k < p.2) = true then _ else _), polOf pol i (if decide (f k < p.2) = true then _ else _))
          cases decide (f k < p.2) <;> exact fun h => h
    unfold foldO
    rw [step]
    refine l_best_fold m0 m1 hx hi hl F hF ks _ (fun j hj => h j (List.mem_cons_of_mem _ hj)) fun p hp => ?_
    cases o with
    | none =>
      have hp : some (k, f k) = some p := hp
      cases hp; exact h3
    | some q =>
      unfold bstep at hp
      dsimp only at hp
      split at hp
      · cases hp; exact h3
      · cases hp; exact ho _ rfl
theorem best_mem {most : Bool} {f : Int → Rat} : ∀ (ks : List Int) (o : Option (Int × Rat)), (∀ p, o = some p → p.2 = f p.1) → (ks ≠ [] ∨ o.isSome) → ∃ p, ks.foldl (bstep most f) o = some p ∧ (p.1 ∈ ks ∨ o = some p) ∧ p.2 = f p.1
  | [], o, h, h' => by
    cases o with
    | none => exact absurd h' (by simp)
    | some p => exact ⟨p, rfl, .inr rfl, h p rfl⟩
  | k :: ks, o, h, _ => by
    have hb : bstep most f o k = some (k, f k) ∨ ∃ p, o = some p ∧ bstep most f o k = some p := by
      cases o with
      | none => exact .inl rfl
      | some p =>
        show (if _ = true then some (k, f k) else some p) = _ ∨ _
        by_cases q : bt most p.2 (f k) = true
        · left; rw [if_pos q]
        · right; exact ⟨p, rfl, by show (if _ = true then _ else _) = _; rw [if_neg q]⟩
    have hs : (bstep most f o k).isSome := by rcases hb with e | ⟨p, _, e⟩ <;> rw [e] <;> rfl
    obtain ⟨p, a, b, c⟩ := best_mem (most := most) (f := f) ks (bstep most f o k) (fun p hp => by
      rcases hb with e | ⟨q, e1, e⟩
      · rw [e] at hp; cases hp; rfl
      · rw [e] at hp; cases hp; exact h _ e1) (.inr hs)
    refine ⟨p, a, ?_, c⟩
    rcases b with b | b
    · exact .inl (List.mem_cons_of_mem _ b)
    · rcases hb with e | ⟨q, e1, e⟩
      · rw [e] at b; cases b; exact .inl List.mem_cons_self
      · rw [e] at b; cases b; exact .inr e1
end L3

namespace L3
open PySem L2
theorem bnd {α β : Type} {o : Option α} {f : α → Option β} {a : α} {r : Option β} (h : o = some a) (k : f a = r) : Option.bind o f = r := by rw [h]; exact k
def GS (n w : Nat) (sys : List (List (Int × List (Int × Int)))) : Prop := sys.length = n ∧ ∀ cs ∈ sys, (1 ≤ cs.length ∧ cs.length ≤ 1000) ∧ ∀ c ∈ cs, EE n c.2 ∧ (wsum c.2).toNat ≤ 2 ^ w
theorem rgO_s {b : Int} (h0 : 0 ≤ b) (h : b ≤ 1000000) : rgO 0 b = some (rng 0 b) := if_pos ⟨by decide, by decide, by omega, by omega, by omega⟩
theorem repL_s {x : Int} {n : Nat} (h : n ≤ 1000000) : repL [x] (n : Int) = some (List.replicate n [x]).flatten := by
  have e : ((n : Int)).toNat = n := by omega
  unfold repL
  rw [if_pos ⟨by omega, by omega, by rw [e, List.length_singleton, Nat.one_mul]; exact Nat.le_of_lt (Nat.lt_of_le_of_lt h (by decide))⟩, e]
theorem rep_flat {x : Int} (n : Nat) : (List.replicate n [x]).flatten = List.replicate n x := by simp
theorem ixO_s {n i : Nat} {x : Int} (h : x = (i : Int)) (hi : i < n) : ixO n x = some i := by
  subst h
  unfold ixO ixN
  simp [hi]
theorem step_ok {sys : List (List (Int × List (Int × Int)))} {n w L a : Nat} {xs : List Rat} {most : Bool} {rest : List Int} (hg : GS n w sys) (hn : n ≤ 1000) (hxl : xs.length = n) (h01 : ∀ x ∈ xs, In01 x) (hL : 0 < L) (hd : ∀ x ∈ xs, x.den ∣ L) (hb : 2 ^ w * L < 2 ^ a) (ha0 : 0 < a) (ha : a ≤ 472) (hr : ∀ r ∈ rest, 0 ≤ r ∧ r < (n : Int))
    (F : (List Int × List (Int × Int)) → Int → Option (List Int × List (Int × Int)))
    (hF : ∀ s79 x80, F s79 x80 = Option.bind (ixL sys x80) fun t100 => Option.bind (rgO 0 ((t100.length : Int))) fun t102 => Option.bind (ixL sys x80) fun t107 => Option.bind (m_best_choice t107 (xs.map ofQ) t102 most) fun t109 => Option.bind (t109) fun t111 =>
      Option.bind (ixO s79.1.length x80) fun t120 => Option.bind (ixO s79.2.length x80) fun t123 => some (((s79.1.set t120 t111.1), (s79.2.set t123 t111.2)))) :
    ∃ (pol : List Int) (ys : List Rat) (L' : Nat), foldO F (List.replicate n 0, xs.map ofQ) rest = some (pol, ys.map ofQ) ∧ m_l_step sys rest (xs.map ofQ) most = some (ys.map ofQ, pol) ∧ pol.length = n ∧ ys.length = n ∧ (∀ y ∈ ys, In01 y) ∧ 0 < L' ∧ L' ≤ L * 2 ^ (w * rest.length) ∧ ∀ y ∈ ys, y.den ∣ L' := by
  have W1 : ∀ W : Nat, W ≤ 2 ^ w → W * L < 2 ^ a := fun W h => Nat.lt_of_le_of_lt (Nat.mul_le_mul_right _ h) hb
  have La : L < 2 ^ a := by have := W1 1 (Nat.one_le_two_pow); rwa [Nat.one_mul] at this
  have hsz : ∀ x ∈ xs, Sz L 1 x := fun x hx => in01_sz (h01 x hx) (hd x hx)
  have hmean : ∀ e, EE n e → (wsum e).toNat ≤ 2 ^ w → m_mean e (xs.map ofQ) = some (ofQ (meanQ e xs)) ∧ m_l_mean e (xs.map ofQ) = some (ofQ (meanQ e xs)) ∧ Bd (a + 1) (meanQ e xs) ∧ In01 (meanQ e xs) ∧ (meanQ e xs).den ∣ (wsum e).toNat * L := by
    intro e he hW
    rw [← hxl] at he
    have dv := meanQ_dv hL hsz he
    have i01 := meanQ_01 h01 he
    have hs := we_sum he.1
    exact ⟨mean_ok hL hsz La (b := 18) (by decide) (by omega) ha0 (by decide) he, l_mean_ok hL hsz he (W1 _ hW) (b := 18) (by decide) (by omega) ha0 (by decide), (in01_sz i01 dv).bd (Nat.mul_pos (by omega) hL) (W1 _ hW) (by decide), i01, dv⟩
  let I : Nat → (List Int × List (Int × Int)) → Prop := fun j s => ∃ (ys : List Rat) (L' : Nat), s.2 = ys.map ofQ ∧ s.1.length = n ∧ ys.length = n ∧ (∀ y ∈ ys, In01 y) ∧ 0 < L' ∧ L ∣ L' ∧ L' ≤ L * 2 ^ (w * j) ∧ ∀ y ∈ ys, y.den ∣ L'
  have key := y_fold2 F (fun (s8 : ((List Int) × (List (Int × Int)))) (x9 : Int) => (
    Option.bind (ixL sys x9) fun t34 =>
    Option.bind (small62 ((t34.length : Int))) fun t36 =>
    Option.bind (foldO (S := ((Option (Int × Int)) × (List Int))) (α := Int) (fun (s38 : ((Option (Int × Int)) × (List Int))) (x39 : Int) => (
      Option.bind (ixL sys x9) fun t61 =>
      Option.bind (ixL t61 x39) fun t63 =>
      Option.bind (m_l_mean t63.2 (xs.map ofQ)) fun t65 =>
      Option.bind ((if s38.1.isNone = true then (some (true)) else (Option.bind ((if most = true then (Option.bind (s38.1) fun t70 => Option.bind (m_l_less t70 t65) fun t72 => some (t72)) else (some (false)))) fun t74 => Option.bind ((if t74 = true then (some (true)) else (Option.bind ((if (!most) = true then (Option.bind (s38.1) fun t77 => Option.bind (m_l_less t65 t77) fun t79 => some (t79)) else (some (false)))) fun t81 => some (t81)))) fun t84 => some (t84)))) fun t87 =>
      Option.bind (if t87 = true then
        Option.bind (ixO s38.2.length x9) fun t97 =>
        some (((some t65), (s38.2.set t97 x39)))
      else
        some ((s38.1, s38.2))
      ) fun (s91 : ((Option (Int × Int)) × (List Int))) =>
      some ((s91.1, s91.2))
    )) ((none, s8.1)) ((rng 0 ((t34.length : Int))))) fun s105 =>
    Option.bind (s105.1) fun t115 =>
    Option.bind (ixO s8.2.length x9) fun t117 =>
    some ((s105.2, (s8.2.set t117 t115))))) I (xs := rest) (s := (List.replicate n 0, xs.map ofQ)) ⟨xs, L, rfl, by simp, hxl, h01, hL, Nat.dvd_refl _, by simp, hd⟩ ?_
  · obtain ⟨⟨pol, vs⟩, h1, h2, ys, L', h3, h4, h5, h6, h7, _, h8, h9⟩ := key
    dsimp only at h3
    subst h3
    refine ⟨pol, ys, L', h1, ?_, h4, h5, h6, h7, h8, h9⟩
    unfold m_l_step
    rw [hg.1, repL_s (by omega), rep_flat]
    show Option.bind (foldO _ _ _) _ = _
    refine Eq.trans (congrArg (fun z => Option.bind z _) h2) rfl
  · rintro j x ⟨pol, vs⟩ hx ⟨ys, L', h3, h4, h5, h6, h7, h7d, h8, h9⟩
    dsimp only at h3 h4
    subst h3
    obtain ⟨r0, r1⟩ := hr x (List.mem_of_getElem? hx)
    obtain ⟨i, rfl⟩ := Int.eq_ofNat_of_zero_le r0
    have hi : i < sys.length := by have := hg.1; omega
    have hin : i < n := by omega
    have hix : ixL sys (i : Int) = some sys[i] := ixL_s (List.getElem?_eq_getElem hi) rfl
    obtain ⟨⟨c1, c2⟩, hc⟩ := hg.2 _ (List.getElem_mem hi)
    generalize sys[i] = cs at hix c1 c2 hc
    let f : Int → Rat := fun k => meanQ (cs.getD k.toNat (0, [])).2 xs
    have hf : ∀ k ∈ rng 0 (cs.length : Int), ∃ c ∈ cs, ixL cs k = some c ∧ f k = meanQ c.2 xs := by
      intro k hk
      obtain ⟨k0, k1⟩ := rng_mem hk
      obtain ⟨q, rfl⟩ := Int.eq_ofNat_of_zero_le k0
      have hq : q < cs.length := by omega
      refine ⟨cs[q], List.getElem_mem hq, ixL_s (List.getElem?_eq_getElem hq) rfl, ?_⟩
      show meanQ (cs.getD ((q : Int)).toNat (0, [])).2 xs = _
      rw [Int.toNat_natCast, List.getD_eq_getElem?_getD, List.getElem?_eq_getElem hq]
      rfl
    have hb1 : m_best_choice cs (xs.map ofQ) (rng 0 (cs.length : Int)) most = some ((best most f (rng 0 (cs.length : Int))).map qo) := by
      refine best_ok (m := a + 1) (by omega) (by omega) fun k hk => ?_
      obtain ⟨c, m1, m2, m3⟩ := hf k hk
      obtain ⟨g1, g2, g3, _⟩ := hmean c.2 (hc c m1).1 (hc c m1).2
      exact ⟨c, m2, by rw [m3]; exact g1, by rw [m3]; exact g3⟩
    have hb2 := l_best_fold (sys := sys) (cs := cs) (vs := xs.map ofQ) (most := most) (f := f) (m := a + 1) (i := i) (pol := pol) (x9 := (i : Int)) (by omega) (by omega) hix rfl (by omega) _ (fun _ _ => rfl) (rng 0 (cs.length : Int)) none (fun k hk => by
      obtain ⟨c, m1, m2, m3⟩ := hf k hk
      obtain ⟨g1, g2, g3, _⟩ := hmean c.2 (hc c m1).1 (hc c m1).2
      exact ⟨c, m2, by rw [m3]; exact g2, by rw [m3]; exact g3⟩) fun p hp => by cases hp
    have nn : rng 0 (cs.length : Int) ≠ [] := fun z => by
      have := rng_len 0 (cs.length : Int)
      rw [z] at this
      simp at this
      omega
    obtain ⟨p, p1, p2, p3⟩ := best_mem (most := most) (f := f) (rng 0 (cs.length : Int)) none (fun p hp => by cases hp) (.inl nn)
    have p2 : p.1 ∈ rng 0 (cs.length : Int) := p2.resolve_right fun z => by cases z
    obtain ⟨c, m1, m2, m3⟩ := hf p.1 p2
    obtain ⟨_, _, _, g4, g5⟩ := hmean c.2 (hc c m1).1 (hc c m1).2
    have hs := we_sum (hc c m1).1.1
    rw [← m3, ← p3] at g4 g5
    refine ⟨(pol.set i p.1, (ys.set i p.2).map ofQ), ?_, ?_, ys.set i p.2, (wsum c.2).toNat * L', rfl, by simp [h4], by simp [h5], ?_, Nat.mul_pos (by omega) h7, Nat.dvd_trans h7d (Nat.dvd_mul_left _ _), ?_, ?_⟩
    · have hb1 := hb1
      unfold best at hb1
      rw [p1] at hb1
      rw [hF]
      refine bnd hix (bnd (rgO_s (by omega) (by omega)) (bnd hix (bnd hb1 (bnd (a := qo p) rfl (bnd (a := i) (ixO_s rfl (by show i < pol.length; omega)) (bnd (a := i) (ixO_s rfl (by show i < (ys.map ofQ).length; rw [List.length_map]; omega)) ?_))))))
      rw [List.map_set]
      rfl
    · refine bnd hix (bnd (small62_s (by omega) (by omega)) (bnd hb2 ?_))
      rw [p1]
      simp only [Option.bind_some, Option.map_some]
      rw [ixO_s rfl (by rw [List.length_map]; omega), Option.bind_some, List.map_set]
      rfl
    · intro y hy
      rcases List.mem_or_eq_of_mem_set hy with h | h
      · exact h6 y h
      · rw [h]; exact g4
    · have e := (hc c m1).2
      calc (wsum c.2).toNat * L' ≤ 2 ^ w * (L * 2 ^ (w * j)) := Nat.mul_le_mul e h8
        _ = L * 2 ^ (w * (j + 1)) := by rw [Nat.mul_add, Nat.mul_one, Nat.pow_add]; simp [Nat.mul_comm, Nat.mul_left_comm]
    · intro y hy
      rcases List.mem_or_eq_of_mem_set hy with h | h
      · exact Nat.dvd_trans (h9 y h) (Nat.dvd_mul_left _ _)
      · rw [h]; exact Nat.dvd_trans g5 (Nat.mul_dvd_mul_left _ h7d)
end L3

namespace L3
open PySem L2
theorem compM_filter {α : Type} {f : Unit → α → Option (Option α × Unit)} {p : α → Bool} : ∀ {xs : List α}, (∀ x ∈ xs, f () x = if p x = true then some (some x, ()) else some (none, ())) → compM f () xs = some (xs.filter p, ())
  | [], _ => rfl
  | x :: xs, h => by
    have ih := compM_filter (f := f) (p := p) (xs := xs) fun u hu => h u (List.mem_cons_of_mem _ hu)
    unfold compM
    rw [h x List.mem_cons_self]
    cases hp : p x with
    | true => rw [if_pos rfl]; dsimp only; rw [ih, List.filter_cons, hp]; rfl
    | false => rw [if_neg (by decide)]; dsimp only; rw [ih, List.filter_cons, hp]; rfl
def restOf (n : Int) (al ta : List Int) : List Int := (rng 0 n).filter fun x => decide (x ∈ al) && !decide (x ∈ ta)
theorem rest_ok {sys : List (List (Int × List (Int × Int)))} {al ta : List Int} (h : sys.length ≤ 1000) : m_rest_of sys al ta = some (restOf sys.length al ta) := by
  unfold m_rest_of
  refine bnd (small62_s (by omega) (by omega)) (bnd (room_s (by rw [rng_len]; omega)) (bnd (compM_filter fun x _ => rfl) rfl))
theorem rest_in {n : Int} {al ta : List Int} {r : Int} (h : r ∈ restOf n al ta) : (0 ≤ r ∧ r < n) ∧ r ∈ al ∧ r ∉ ta := by
  obtain ⟨h1, h2⟩ := List.mem_filter.mp h
  simp at h2
  exact ⟨rng_mem h1, h2⟩
theorem rest_len {n : Nat} {al ta : List Int} : (restOf (n : Int) al ta).length ≤ n := by
  refine Nat.le_trans (List.length_filter_le _ _) ?_
  rw [rng_len]; omega
def start0 (n : Int) (ta : List Int) : List Rat := (rng 0 n).map fun x => if x ∈ ta then 1 else 0
theorem steps_ok {sys : List (List (Int × List (Int × Int)))} {n w s : Nat} {al ta : List Int} {most : Bool} (hg : GS n w sys) (hn : n ≤ 1000) (hs : s ≤ 1000) (hb : w + w * n * (s - 1) + 1 ≤ 471) (G : (List (Int × Int) × List (List Int)) → Int → Option (List (Int × Int) × List (List Int)))
    (hG : ∀ t x, G t x = Option.bind (m_l_step sys (restOf n al ta) t.1 most) fun t256 => Option.bind (room t.2.length) fun t265 => some ((t256.1, (t.2 ++ [t256.2])))) :
    ∃ (xs : List Rat) (pols : List (List Int)), m_bounded_chances sys al ta (s : Int) most = some (xs.map ofQ, pols) ∧ foldO G ((start0 n ta).map ofQ, []) (rng 0 (s : Int)) = some (xs.map ofQ, pols) ∧ xs.length = n ∧ (∀ x ∈ xs, In01 x) ∧ pols.length = s ∧ ∀ p ∈ pols, p.length = n := by
  have hsl := hg.1
  let I : Nat → (List (Int × Int) × List (List Int)) → Prop := fun j t => ∃ (xs : List Rat) (L : Nat), t.1 = xs.map ofQ ∧ xs.length = n ∧ (∀ x ∈ xs, In01 x) ∧ 0 < L ∧ L ≤ 2 ^ (w * n * j) ∧ (∀ x ∈ xs, x.den ∣ L) ∧ t.2.length = j ∧ ∀ p ∈ t.2, p.length = n
  have key := y_fold2 (fun (s46 : ((List (Int × Int)) × (List (List Int)))) (x47 : Int) => (
    Option.bind (repL ([(0 : Int)]) ((sys.length : Int))) fun t75 =>
    Option.bind (foldO (S := ((List Int) × (List (Int × Int)))) (α := Int) (fun (s79 : ((List Int) × (List (Int × Int)))) (x80 : Int) => (
      Option.bind (ixL sys x80) fun t100 =>
      Option.bind (rgO 0 ((t100.length : Int))) fun t102 =>
      Option.bind (ixL sys x80) fun t107 =>
      Option.bind (m_best_choice t107 s46.1 t102 most) fun t109 =>
      Option.bind (t109) fun t111 =>
      Option.bind (ixO s79.1.length x80) fun t120 =>
      Option.bind (ixO s79.2.length x80) fun t123 =>
      some (((s79.1.set t120 t111.1), (s79.2.set t123 t111.2)))
    )) ((t75, s46.1)) (restOf sys.length al ta)) fun s126 =>
    Option.bind (room s46.2.length) fun t137 =>
    some ((s126.2, (s46.2 ++ [s126.1]))))) G I (xs := rng 0 (s : Int)) (s := ((start0 n ta).map ofQ, [])) ⟨start0 n ta, 1, rfl, by unfold start0; rw [List.length_map, rng_len]; omega, fun x hx => ?_, Nat.one_pos, by simp, fun x hx => ?_, rfl, by simp⟩ ?_
  · obtain ⟨⟨vs, pols⟩, h1, h2, xs, L, h3, h4, h5, _, _, _, h6, h7⟩ := key
    dsimp only at h3 h6 h7
    subst h3
    rw [rng_len] at h6
    refine ⟨xs, pols, ?_, h2, h4, h5, by omega, h7⟩
    unfold m_bounded_chances
    refine bnd (rest_ok (by omega)) (bnd (small62_s (by omega) (by omega)) (bnd (room_s (by rw [rng_len]; omega)) (bnd (a := ((start0 sys.length ta).map ofQ, ())) ?_ (bnd (small62_s (by omega) (by omega)) ?_))))
    · unfold start0
      rw [List.map_map]
      refine compM_map fun x _ => ?_
      refine bnd (a := ofQ (if x ∈ ta then 1 else 0)) ?_ rfl
      by_cases h : x ∈ ta
      · rw [if_pos (decide_eq_true h), if_pos h]; rfl
      · rw [if_neg (by simp [h]), if_neg h]; rfl
    · rw [hsl]
      rw [hsl] at h1
      exact bnd h1 rfl
  · unfold start0 at hx
    obtain ⟨k, _, rfl⟩ := List.mem_map.mp hx
    split
    · exact ⟨by decide, by decide⟩
    · exact ⟨by decide, by decide⟩
  · unfold start0 at hx
    obtain ⟨k, _, rfl⟩ := List.mem_map.mp hx
    split <;> exact Nat.dvd_refl _
  · rintro j x ⟨vs, pols⟩ hx ⟨xs, L, h1, h2, h3, h4, h5, h6, h7, h8⟩
    dsimp only at h1 h7 h8
    subst h1
    have hj : j < s := by
      have := (rng_at hx).2
      omega
    have ea : 2 ^ w * L < 2 ^ (w + w * n * (s - 1) + 1) := by
      have e1 : w * n * j ≤ w * n * (s - 1) := Nat.mul_le_mul_left _ (by omega)
      calc 2 ^ w * L ≤ 2 ^ w * 2 ^ (w * n * j) := Nat.mul_le_mul_left _ h5
        _ ≤ 2 ^ w * 2 ^ (w * n * (s - 1)) := Nat.mul_le_mul_left _ (Nat.pow_le_pow_right (by decide) e1)
        _ = 2 ^ (w + w * n * (s - 1)) := (Nat.pow_add ..).symm
        _ < 2 ^ (w + w * n * (s - 1) + 1) := Nat.pow_lt_pow_right (by decide) (Nat.lt_succ_self _)
    obtain ⟨pol, ys, L', g1, g2, g3, g4, g5, g6, g7, g8⟩ := step_ok (most := most) (rest := restOf n al ta) hg hn h2 h3 h4 h6 ea (by omega) (by omega) (fun r hr => (rest_in hr).1) _ fun _ _ => rfl
    refine ⟨(ys.map ofQ, pols ++ [pol]), ?_, ?_, ys, L', rfl, g4, g5, g6, ?_, g8, by simp [h7], ?_⟩
    · rw [hsl]
      refine bnd (repL_s (by omega)) ?_
      rw [rep_flat]
      exact bnd g1 (bnd (room_s (by show pols.length ≤ _; omega)) rfl)
    · rw [hG]
      exact bnd g2 (bnd (room_s (by show pols.length ≤ _; omega)) rfl)
    · refine Nat.le_trans g7 ?_
      have : (restOf (n : Int) al ta).length ≤ n := rest_len
      calc L * 2 ^ (w * (restOf (n : Int) al ta).length) ≤ 2 ^ (w * n * j) * 2 ^ (w * n) := Nat.mul_le_mul h5 (Nat.pow_le_pow_right (by decide) (Nat.mul_le_mul_left _ this))
        _ = 2 ^ (w * n * (j + 1)) := by rw [Nat.mul_add, Nat.mul_one, Nat.pow_add]
    · intro p hp
      rcases List.mem_append.mp hp with hp | hp
      · exact h8 p hp
      · rw [List.mem_singleton.mp hp]; exact g3
theorem some_ok {st : List Int × Int} {n many share : Int} (hs : StOk st n) (hn : n < 2 ^ 50) (h0 : 0 ≤ many) (h1 : many ≤ 1000) (h2 : 0 < share) : Yes (m_l_some st many share) fun r => ((∀ x ∈ r.1, 0 ≤ x ∧ x < many) ∧ r.1.Nodup) ∧ StOk r.2 (n + many + 1) := by
  unfold m_l_some
  refine y_eq (small62_s (by omega) (by omega)) (y_eq (room_s (by rw [rng_len]; omega)) ?_)
  refine y_bind (Q := fun (r : List Int × (List Int × Int)) => ((∀ x ∈ r.1, 0 ≤ x ∧ x < many) ∧ r.1.Nodup) ∧ StOk r.2 (n + many)) ?_ fun r hr => ?_
  · refine (y_comp _ (fun i ys s => ((∀ x ∈ ys, 0 ≤ x ∧ x < (i : Int)) ∧ ys.Nodup) ∧ StOk s (n + i)) ⟨⟨by simp, by simp⟩, by simpa using hs⟩ ?_).mono fun r hr => ?_
    · rintro i x ys s hx ⟨⟨g1, g2⟩, g3⟩
      obtain ⟨e1, e2⟩ := rng_at hx
      refine y_bind (take_ok g3 (by omega) h2) fun t ht => ?_
      refine y_if (fun c => y_some ⟨⟨fun y hy => ?_, ?_⟩, ht.2.le (by omega)⟩) (fun c => y_some ⟨⟨fun y hy => ?_, ?_⟩, ht.2.le (by omega)⟩)
      · rcases List.mem_append.mp hy with hy | hy
        · have := g1 y hy; omega
        · have : y = x := by simpa using hy
          omega
      · refine List.nodup_append.mpr ⟨g2, by simp, fun a ha b hb => ?_⟩
        have : b = x := by simpa using hb
        have := g1 a ha
        omega
      · have hy : y ∈ ys := by simpa using hy
        have := g1 y hy; omega
      · simpa using g2
    · rw [rng_len] at hr
      obtain ⟨⟨a, b⟩, c⟩ := hr
      have e : (((many - 0).toNat : Nat) : Int) = many := by omega
      rw [e] at a c
      exact ⟨⟨a, b⟩, c⟩
  · refine y_bind (take_ok hr.2 (by omega) (by decide)) fun t ht => ?_
    refine y_bind (Q := fun (r : List Int × (List Int × Int)) => ((∀ x ∈ r.1, 0 ≤ x ∧ x < many) ∧ r.1.Nodup) ∧ StOk r.2 (n + many + 1)) (y_if (fun c => y_some ⟨⟨fun x hx => hr.1.1 x (List.mem_reverse.mp hx), (List.reverse_perm _).nodup_iff.mpr hr.1.2⟩, ht.2⟩) (fun c => y_some ⟨hr.1, ht.2⟩)) fun r hr => y_some hr
end L3

namespace L3
open PySem L2
abbrev Sys := List (List (Int × List (Int × Int)))
theorem ve_ee {n : Nat} {e : List (Int × Int)} (h : VE n e) (hn : n ≤ 100) : EE n e := by
  obtain ⟨h1, h2, h3, _⟩ := h
  refine ⟨⟨?_, by omega, fun q hq => (h3 q hq).2.2⟩, fun q hq => ⟨(h3 q hq).1, (h3 q hq).2.1⟩⟩
  cases e with
  | nil => exact absurd rfl h1
  | cons _ _ => simp
theorem wsum_le {n k : Nat} {e : List (Int × Int)} (h : EE n e) (hk : e.length ≤ k) : (wsum e).toNat ≤ 1000 * k := by
  have := sum_bd (e.map (·.2)) fun v hv => by
    obtain ⟨q, hq, rfl⟩ := List.mem_map.mp hv
    exact h.1.2.2 q hq
  rw [List.length_map] at this
  have h2 : wsum e ≤ 1000 * e.length := this.2
  omega
theorem gs_small {s : Sys} (h : VS 3 s) (hl : s.length ≤ 4) : GS s.length 12 s := by
  refine ⟨rfl, fun cs hc => ?_⟩
  obtain ⟨a1, a2, a3⟩ := h.2 cs hc
  refine ⟨⟨a1, by omega⟩, fun c hc => ?_⟩
  have ve := (a3 c hc).2.2
  have ee := ve_ee ve (by omega)
  refine ⟨ee, Nat.le_trans (wsum_le ee (k := 4) (by have := ve.2.1; omega)) (by decide)⟩
theorem gs_large {s : Sys} {n : Nat} (h : LS n s) (hn : n ≤ 20) : GS s.length 13 s := by
  obtain ⟨h1, h2⟩ := h
  refine ⟨rfl, fun cs hc => ?_⟩
  obtain ⟨⟨a1, a2⟩, a3⟩ := h2 cs hc
  refine ⟨⟨a1, by omega⟩, fun c hc => ?_⟩
  have ve := (a3 c hc).1.2.2
  rw [← h1] at ve
  have ee := ve_ee ve (by omega)
  refine ⟨ee, Nat.le_trans (wsum_le ee (a3 c hc).2) (by decide)⟩
def evenC (c : Int × List (Int × Int)) : Int × List (Int × Int) := (c.1, c.2.map fun q => (q.1, 1))
def evenS (s : Sys) : Sys := s.map fun cs => cs.map evenC
theorem even_ok {cs : List (Int × List (Int × Int))} (h1 : cs.length ≤ 1000) (h2 : ∀ c ∈ cs, c.2.length ≤ 1000) : m_l_even cs = some (cs.map evenC) := by
  unfold m_l_even
  refine bnd (room_s (by omega)) (bnd (compM_map (g := evenC) fun c hc => ?_) rfl)
  refine bnd (room_s (by have := h2 c hc; omega)) (bnd (compM_map (g := fun q => (q.1, (1 : Int))) fun q _ => rfl) rfl)
theorem ones : ∀ e : List (Int × Int), wsum (e.map fun q => (q.1, 1)) = e.length
  | [] => rfl
  | q :: e => by
    have ih := ones e
    show (((q :: e).map fun q => (q.1, (1 : Int))).map (·.2)).sum = _
    rw [List.map_cons, List.map_cons, List.sum_cons, List.length_cons]
    have ih : ((e.map fun q => (q.1, (1 : Int))).map (·.2)).sum = (e.length : Int) := ih
    rw [ih]
    omega
theorem gs_even {s : Sys} (h : VS 3 s) (hl : s.length ≤ 4) : GS s.length 2 (evenS s) := by
  refine ⟨by unfold evenS; rw [List.length_map], fun cs' hc' => ?_⟩
  obtain ⟨cs, hc, rfl⟩ := List.mem_map.mp hc'
  obtain ⟨a1, a2, a3⟩ := h.2 cs hc
  refine ⟨by rw [List.length_map]; omega, fun c' hc' => ?_⟩
  obtain ⟨c, hc, rfl⟩ := List.mem_map.mp hc'
  have ve := (a3 c hc).2.2
  have ee := ve_ee ve (by omega)
  refine ⟨⟨⟨by show 1 ≤ (c.2.map _).length; rw [List.length_map]; exact ee.1.1, by show (c.2.map _).length ≤ _; rw [List.length_map]; exact ee.1.2.1, fun q hq => ?_⟩, fun q hq => ?_⟩, ?_⟩
  · obtain ⟨r, hr, rfl⟩ := List.mem_map.mp hq
    exact ⟨Int.le_refl 1, by show (1 : Int) ≤ 1000; decide⟩
  · obtain ⟨r, hr, rfl⟩ := List.mem_map.mp hq
    exact ee.2 r hr
  · show (wsum (c.2.map fun q => (q.1, 1))).toNat ≤ _
    rw [ones]
    have := ve.2.1
    omega
theorem okD_tup {n : Nat} (p : List Int) (h : p.length ≤ 1000) : okD (n + 2) (dTup PyData.int p) := by
  refine ⟨by rw [List.length_map]; omega, fun x hx => ?_⟩
  obtain ⟨q, _, rfl⟩ := List.mem_map.mp hx
  trivial
theorem okD_q {n : Nat} (x : Int × Int) : okD (n + 2) (dT2 PyData.int PyData.int x) := by
  refine ⟨by show 2 < _; decide, fun z hz => ?_⟩
  have hz : z ∈ [PyData.int x.1, PyData.int x.2] := hz
  rcases List.mem_cons.mp hz with rfl | hz
  · trivial
  · rw [List.mem_singleton.mp hz]; trivial
theorem okD_lst {α : Type} {n : Nat} {f : α → PyData} {l : List α} (h : l.length ≤ 1000) (hf : ∀ x ∈ l, okD n (f x)) : okD (n + 1) (dLst f l) := by
  refine ⟨by rw [List.length_map]; omega, fun x hx => ?_⟩
  obtain ⟨q, hq, rfl⟩ := List.mem_map.mp hx
  exact hf q hq
theorem okD_T2 {α β : Type} {n : Nat} {f : α → PyData} {g : β → PyData} {x : α × β} (h1 : okD n (f x.1)) (h2 : okD n (g x.2)) : okD (n + 1) (dT2 f g x) := by
  refine ⟨by show 2 < _; decide, fun z hz => ?_⟩
  have hz : z ∈ [f x.1, g x.2] := hz
  rcases List.mem_cons.mp hz with rfl | hz
  · exact h1
  · rw [List.mem_singleton.mp hz]; exact h2
theorem eq_self {d : PyData} (h : okD 8 d) : m_l_equal 8 d d = some true := by
  obtain ⟨v, v1, v2⟩ := eq_ok 8 _ _ h h
  rw [v1, v2.mpr rfl]
theorem mul3 {w n s N S : Nat} (hn : n ≤ N) (hs : s ≤ S) : w * n * (s - 1) ≤ w * N * (S - 1) := Nat.mul_le_mul (Nat.mul_le_mul_left _ hn) (by omega)
theorem law_true (ns : List Int) (h : ns.length ≤ 63) : m_law ns = some true := by
  suffices hy : Yes (m_law ns) (· = true) by
    obtain ⟨c, h1, rfl⟩ := hy; exact h1
  unfold m_law
  refine y_bind (tape_ok h) fun t ht => ?_
  refine y_bind (Q := fun o => ∃ s, o = .inl s) ?_ fun o ho => ?_
  rotate_left
  · obtain ⟨s, rfl⟩ := ho; exact y_some rfl
  refine y_loopR _ (fun i s => StOk s (100000 * i)) _ ⟨ht, Int.le_refl 0, by simp⟩ ?_ fun s _ => ⟨s, rfl⟩
  rintro i x st hx hst
  obtain ⟨e1, e2⟩ := rng_at hx
  refine y_bind (system_ok hst (by omega) (by decide) (by decide)) fun t37 h37 => ?_
  refine y_bind (take_ok h37.2 (by omega) (by decide)) fun t42 h42 => ?_
  refine y_bind (Q := fun (s : Sys × (List Int × Int)) => ((VS 3 s.1 ∧ s.1.length ≤ 4 ∧ GS s.1.length 12 s.1) ∨ (5 ≤ s.1.length ∧ s.1.length ≤ 12 ∧ GS s.1.length 13 s.1)) ∧ StOk s.2 (100000 * i + 20000)) (y_if (fun c => ?_) fun c => y_some ?_) fun s45 h45 => ?_
  · refine y_bind (take_ok h42.2 (by omega) (by decide)) fun t48 h48 => ?_
    have r48 := h48.1
    refine y_bind (large_ok h48.2 (by omega) (by omega) (by omega)) fun t50 h50 => y_some ⟨.inr ?_, h50.2.le (by omega)⟩
    have l := h50.1.1
    show 5 ≤ t50.1.length ∧ t50.1.length ≤ 12 ∧ _
    exact ⟨by omega, by omega, gs_large h50.1 (by omega)⟩
  · have l4 : t37.1.length ≤ 4 := by have := h37.1.2; omega
    exact ⟨.inl ⟨h37.1.1, l4, gs_small h37.1.1 l4⟩, h42.2.le (by omega)⟩
  obtain ⟨hsys, hst2⟩ := h45
  have hlen : s45.1.length ≤ 12 := by
    rcases hsys with h | h
    · have := h.2.1; omega
    · exact h.2.1
  refine y_bind (take_ok hst2 (by omega) (by decide)) fun t63 h63 => ?_
  refine y_bind (Q := fun (r : List Int × (List Int × Int)) => r.1.length ≤ 1000 ∧ StOk r.2 (100000 * i + 20020)) (y_if (fun c => y_bind (some_ok h63.2 (by omega) (by omega) (by omega) (by decide)) fun t65 h65 => y_some ⟨?_, h65.2.le (by omega)⟩) (fun c => y_eq (rgO_s (by omega) (by omega)) (y_some ⟨?_, h63.2.le (by omega)⟩))) fun t69 h69 => ?_
  · have := nodup_le (many := s45.1.length) h65.1.2 h65.1.1
    show t65.1.length ≤ _
    omega
  · show (rng 0 _).length ≤ _
    rw [rng_len]; omega
  refine y_bind (some_ok h69.2 (by omega) (by omega) (by omega) (by decide)) fun t75 h75 => ?_
  refine y_bind (take_ok h75.2 (by omega) (by decide)) fun t80 h80 => ?_
  have r80 := h80.1
  refine y_bind (Q := fun (s : Int × Sys × (List Int × Int)) => (∃ w S : Nat, s.1 = (S : Int) ∧ S ≤ 30 ∧ GS s45.1.length w s.2.1 ∧ w + w * s45.1.length * (S - 1) + 1 ≤ 471) ∧ StOk s.2.2 (100000 * i + 30000)) ?_ fun s86 h86 => ?_
  · refine y_if (fun c => ?_) (fun c => ?_)
    · refine y_bind (take_ok h80.2 (by omega) (by decide)) fun t89 h89 => y_some ⟨?_, h89.2.le (by omega)⟩
      have r89 := h89.1
      have c := of_decide_eq_true c
      rcases hsys with h | ⟨_, h⟩
      · omega
      · refine ⟨13, t89.1.toNat, by show t89.1 = _; omega, by omega, h.2, ?_⟩
        have := mul3 (w := 13) (n := s45.1.length) (s := t89.1.toNat) (N := 12) (S := 3) h.1 (by omega)
        omega
    · have c : ¬ ((s45.1.length : Int) > 4) := fun z => c (decide_eq_true z)
      obtain ⟨hv, hl4, hg⟩ : VS 3 s45.1 ∧ s45.1.length ≤ 4 ∧ GS s45.1.length 12 s45.1 := by
        rcases hsys with h | h
        · exact h
        · omega
      refine y_bind (Q := fun (s : Bool × (List Int × Int)) => StOk s.2 (100000 * i + 25000)) (y_if (fun c => y_bind (take_ok h80.2 (by omega) (by decide)) fun t95 h95 => y_some (h95.2.le (by omega))) (fun c => y_some (h80.2.le (by omega)))) fun t97 h97 => ?_
      refine y_bind (Q := fun (s : Int × Sys × (List Int × Int)) => (∃ w S : Nat, s.1 = (S : Int) ∧ S ≤ 30 ∧ GS s45.1.length w s.2.1 ∧ w + w * s45.1.length * (S - 1) + 1 ≤ 471) ∧ StOk s.2.2 (100000 * i + 30000)) ?_ fun s hs => y_some hs
      refine y_if (fun c => ?_) (fun c => ?_)
      · refine y_eq (room_s (by omega)) (y_eq (a := (evenS s45.1, ())) (compM_map fun cs hcs => ?_) (y_some ⟨⟨2, 30, rfl, by decide, gs_even hv hl4, ?_⟩, h97.le (by omega)⟩))
        · obtain ⟨a1, a2, a3⟩ := hv.2 cs hcs
          refine bnd (even_ok (by omega) fun c hc => ?_) rfl
          have := (a3 c hc).2.2.2.1
          omega
        · have := mul3 (w := 2) (n := s45.1.length) (s := 30) (N := 4) (S := 30) hl4 (by omega)
          omega
      · refine y_some ⟨⟨12, t80.1.toNat, by show t80.1 = _; omega, by omega, hg, ?_⟩, h97.le (by omega)⟩
        have := mul3 (w := 12) (n := s45.1.length) (s := t80.1.toNat) (N := 4) (S := 8) hl4 (by omega)
        omega
  obtain ⟨⟨w, S, e86, hS, hg, hb⟩, hst3⟩ := h86
  refine y_bind (take_ok hst3 (by omega) (by decide)) fun t153 h153 => ?_
  refine y_eq (small62_s (by omega) (by omega)) (y_eq (room_s (by rw [rng_len]; omega)) (y_eq (a := (restOf s45.1.length t69.1 t75.1, ())) (compM_filter fun x _ => rfl) ?_))
  refine y_eq (small62_s (by omega) (by omega)) (y_eq (room_s (by rw [rng_len]; omega)) (y_eq (a := ((start0 s45.1.length t75.1).map ofQ, ())) ?_ ?_))
  · unfold start0
    rw [List.map_map]
    refine compM_map fun x _ => ?_
    show some (some (_, _), ()) = some (some (ofQ (if x ∈ t75.1 then 1 else 0)), ())
    by_cases h : x ∈ t75.1
    · rw [if_pos (decide_eq_true h), if_pos h]; rfl
    · rw [if_neg (by simp [h]), if_neg h]; rfl
  rw [e86]
  refine y_eq (small62_s (by omega) (by omega)) ?_
  obtain ⟨xs, pols, k1, k2, k3, k4, k5, k6⟩ := steps_ok (al := t69.1) (ta := t75.1) (most := decide (t153.1 = 0)) hg (by omega) (by omega) hb _ fun _ _ => rfl
  refine y_eq k2 (y_eq (a := t69.1) rfl (y_eq (a := t75.1) rfl (y_eq k1 (y_eq (eq_self ?_) (y_n rfl (y_n ?_ (y_some ?_)))))))
  · refine okD_T2 (n := 7) (okD_lst (n := 6) (by rw [List.length_map]; omega) fun x _ => okD_q (n := 4) x) (okD_lst (n := 6) (by show pols.length ≤ _; omega) fun p hp => okD_tup (n := 4) p (by have := k6 p hp; omega))
  · simp
  · exact h153.2.le (by omega)
end L3

namespace L3
open PySem PySem.Spec PyProof.Rows L2
/-! ### the end -/
namespace End
def d_ratio : He.DefD := ⟨("ratio", none), "ratio", "ratio", defArgs s_ratio, defBody s_ratio, defScope s_ratio, [], []⟩
def d_rest_of : He.DefD := ⟨("rest_of", none), "rest_of", "rest_of", defArgs s_rest_of, defBody s_rest_of, defScope s_rest_of, [], []⟩
def d_better : He.DefD := ⟨("better", none), "better", "better", defArgs s_better, defBody s_better, defScope s_better, [], []⟩
def d_no_cost : He.DefD := ⟨("no_cost", none), "no_cost", "no_cost", defArgs s_no_cost, defBody s_no_cost, defScope s_no_cost, [], []⟩
def d__law_tape : He.DefD := ⟨("_law_tape", none), "_law_tape", "_law_tape", defArgs s__law_tape, defBody s__law_tape, defScope s__law_tape, [], []⟩
def d__law_draw : He.DefD := ⟨("_law_draw", none), "_law_draw", "_law_draw", defArgs s__law_draw, defBody s__law_draw, defScope s__law_draw, [], []⟩
def d__law_ratio : He.DefD := ⟨("_law_ratio", none), "_law_ratio", "_law_ratio", defArgs s__law_ratio, defBody s__law_ratio, defScope s__law_ratio, [], []⟩
def d__law_less : He.DefD := ⟨("_law_less", none), "_law_less", "_law_less", defArgs s__law_less, defBody s__law_less, defScope s__law_less, [], []⟩
def d__law_even : He.DefD := ⟨("_law_even", none), "_law_even", "_law_even", defArgs s__law_even, defBody s__law_even, defScope s__law_even, [], []⟩
def d_plus : He.DefD := ⟨("plus", none), "plus", "plus", defArgs s_plus, defBody s_plus, defScope s_plus, [], []⟩
def d_times : He.DefD := ⟨("times", none), "times", "times", defArgs s_times, defBody s_times, defScope s_times, [], []⟩
def d_over : He.DefD := ⟨("over", none), "over", "over", defArgs s_over, defBody s_over, defScope s_over, [], []⟩
def d_total_weight : He.DefD := ⟨("total_weight", none), "total_weight", "total_weight", defArgs s_total_weight, defBody s_total_weight, defScope s_total_weight, [], []⟩
def d__law_take : He.DefD := ⟨("_law_take", none), "_law_take", "_law_take", defArgs s__law_take, defBody s__law_take, defScope s__law_take, [], []⟩
def d__law_plus : He.DefD := ⟨("_law_plus", none), "_law_plus", "_law_plus", defArgs s__law_plus, defBody s__law_plus, defScope s__law_plus, [], []⟩
def d__law_times : He.DefD := ⟨("_law_times", none), "_law_times", "_law_times", defArgs s__law_times, defBody s__law_times, defScope s__law_times, [], []⟩
def d_mean : He.DefD := ⟨("mean", none), "mean", "mean", defArgs s_mean, defBody s_mean, defScope s_mean, [], []⟩
def d__law_ends : He.DefD := ⟨("_law_ends", none), "_law_ends", "_law_ends", defArgs s__law_ends, defBody s__law_ends, defScope s__law_ends, [], []⟩
def d__law_some : He.DefD := ⟨("_law_some", none), "_law_some", "_law_some", defArgs s__law_some, defBody s__law_some, defScope s__law_some, [], []⟩
def d__law_mean : He.DefD := ⟨("_law_mean", none), "_law_mean", "_law_mean", defArgs s__law_mean, defBody s__law_mean, defScope s__law_mean, [], []⟩
def d__law_large : He.DefD := ⟨("_law_large", none), "_law_large", "_law_large", defArgs s__law_large, defBody s__law_large, defScope s__law_large, [], []⟩
def d_best_choice : He.DefD := ⟨("best_choice", none), "best_choice", "best_choice", defArgs s_best_choice, defBody s_best_choice, defScope s_best_choice, [], []⟩
def d__law_choices : He.DefD := ⟨("_law_choices", none), "_law_choices", "_law_choices", defArgs s__law_choices, defBody s__law_choices, defScope s__law_choices, [], []⟩
def d__law_step : He.DefD := ⟨("_law_step", none), "_law_step", "_law_step", defArgs s__law_step, defBody s__law_step, defScope s__law_step, [], []⟩
def d_bounded_chances : He.DefD := ⟨("bounded_chances", none), "bounded_chances", "bounded_chances", defArgs s_bounded_chances, defBody s_bounded_chances, defScope s_bounded_chances, [], []⟩
def d__law_system : He.DefD := ⟨("_law_system", none), "_law_system", "_law_system", defArgs s__law_system, defBody s__law_system, defScope s__law_system, [], []⟩
def d__law_equal : He.DefD := ⟨("_law_equal", none), "_law_equal", "_law_equal", defArgs s__law_equal, defBody s__law_equal, defScope s__law_equal, [], []⟩
def d_law : He.DefD := ⟨("law", none), "law", "law", defArgs s_law, defBody s_law, defScope s_law, [], []⟩
def fn : List He.DefD := [d_ratio, d_rest_of, d_better, d_no_cost, d__law_tape, d__law_draw, d__law_ratio, d__law_less, d__law_even, d_plus, d_times, d_over, d_total_weight, d__law_take, d__law_plus, d__law_times, d_mean, d__law_ends, d__law_some, d__law_mean, d__law_large, d_best_choice, d__law_choices, d__law_step, d_bounded_chances, d__law_system, d__law_equal, d_law]
def fa : List He.Fa := [.glo "ratio", .glo "rest_of", .glo "better", .glo "no_cost", .glo "_law_tape", .glo "_law_draw", .glo "_law_ratio", .glo "_law_less", .glo "_law_even", .glo "plus", .glo "times", .glo "over", .glo "total_weight", .glo "_law_take", .glo "_law_plus", .glo "_law_times", .glo "mean", .glo "_law_ends", .glo "_law_some", .glo "_law_mean", .glo "_law_large", .glo "best_choice", .glo "_law_choices", .glo "_law_step", .glo "bounded_chances", .glo "_law_system", .glo "_law_equal", .glo "law", .free "range", .free "len", .free "int", .free "abs", .free "tuple", .free "sum", .free "sorted", .free "list", .free "isinstance", .free "bool", .free "str"]
def tf : List He.Defn := [("total_weight", none)]
def ex : PySem.W.Frag → Bool := fun K => true && He.eqO (PySem.W.nsIn K mainGlobals "gcd") (some (some (.builtin "math.gcd"))) && pairG K "ZERO" 0 1 && pairG K "ONE" 1 1
def loose0 : List PySem.Str := ["ZERO", "ONE", "ratio", "plus", "times", "over", "total_weight", "mean", "rest_of", "better", "best_choice", "no_cost", "bounded_chances", "_law_tape", "_law_draw", "_law_equal", "_law_take", "_law_ratio", "_law_plus", "_law_times", "_law_over", "_law_ends", "_law_choices", "_law_system", "_law_some", "_law_mean", "_law_less", "_law_step", "_law_even", "_law_large"]
abbrev loose : List PySem.Str := loose0
abbrev R : PySem.W.OpenRow := PySem.W.OpenLaw.row PySem.Challenge.rw_bestodds_k20_chances_within_steps
abbrev hk : PySem.W.Hook := He.hookX 6 fa fn [] tf ex
def ob (s : PySem.W.SharedT) : He.AlX := He.obsX 6 fa fn [] tf ex (HandSHeadRun.getT s)
theorem ob_eq (s : PySem.W.SharedT) : ob s = hk.obs s.abs := He.obsX_eq (HandSHeadRun.getT_eq s)
theorem run (w : World) : HandSHeadRun.RunEqI R (PySem.W.view R.prog [0, 37]) hk ob 4000 loose w := by
  unfold HandSHeadRun.RunEqI
  kernel_rfl
theorem facts {w : World} {K : PySem.W.Frag} {h : Heap} {mg : Str → Option Value} {f : Addr} (X : K.In h) (G : h.Ns mainGlobals mg) (hfa : mg ("law" : Str) = some (.ref f)) (c : He.SaysX fa fn [] tf ex w h K) (hm : ∀ ns : List Int, ns.length ≤ 63 → m_law ns = some true) :
    LamX.LawAtS PySem.Challenge.rw_bestodds_k20_chances_within_steps w K CX0 9 63 "_law_script" mg f h := by
  obtain ⟨fd0, D0⟩ := c.t.d.def_ 0 (d := d_ratio) rfl
  have F0 : FunC K "ratio" s_ratio (He.fAd K ("ratio", none)) fd0 (He.codeOf K ("ratio", none)) := funC_of D0
  have n0 : mg "ratio" = some (.ref (He.fAd K ("ratio", none))) := He.glo_ok X G (c.t.d.fact 0 (f := .glo "ratio") rfl)
  obtain ⟨fd1, D1⟩ := c.t.d.def_ 1 (d := d_rest_of) rfl
  have F1 : FunC K "rest_of" s_rest_of (He.fAd K ("rest_of", none)) fd1 (He.codeOf K ("rest_of", none)) := funC_of D1
  have n1 : mg "rest_of" = some (.ref (He.fAd K ("rest_of", none))) := He.glo_ok X G (c.t.d.fact 1 (f := .glo "rest_of") rfl)
  obtain ⟨fd2, D2⟩ := c.t.d.def_ 2 (d := d_better) rfl
  have F2 : FunC K "better" s_better (He.fAd K ("better", none)) fd2 (He.codeOf K ("better", none)) := funC_of D2
  have n2 : mg "better" = some (.ref (He.fAd K ("better", none))) := He.glo_ok X G (c.t.d.fact 2 (f := .glo "better") rfl)
  obtain ⟨fd3, D3⟩ := c.t.d.def_ 3 (d := d_no_cost) rfl
  have F3 : FunC K "no_cost" s_no_cost (He.fAd K ("no_cost", none)) fd3 (He.codeOf K ("no_cost", none)) := funC_of D3
  have n3 : mg "no_cost" = some (.ref (He.fAd K ("no_cost", none))) := He.glo_ok X G (c.t.d.fact 3 (f := .glo "no_cost") rfl)
  obtain ⟨fd4, D4⟩ := c.t.d.def_ 4 (d := d__law_tape) rfl
  have F4 : FunC K "_law_tape" s__law_tape (He.fAd K ("_law_tape", none)) fd4 (He.codeOf K ("_law_tape", none)) := funC_of D4
  have n4 : mg "_law_tape" = some (.ref (He.fAd K ("_law_tape", none))) := He.glo_ok X G (c.t.d.fact 4 (f := .glo "_law_tape") rfl)
  obtain ⟨fd5, D5⟩ := c.t.d.def_ 5 (d := d__law_draw) rfl
  have F5 : FunC K "_law_draw" s__law_draw (He.fAd K ("_law_draw", none)) fd5 (He.codeOf K ("_law_draw", none)) := funC_of D5
  have n5 : mg "_law_draw" = some (.ref (He.fAd K ("_law_draw", none))) := He.glo_ok X G (c.t.d.fact 5 (f := .glo "_law_draw") rfl)
  obtain ⟨fd6, D6⟩ := c.t.d.def_ 6 (d := d__law_ratio) rfl
  have F6 : FunC K "_law_ratio" s__law_ratio (He.fAd K ("_law_ratio", none)) fd6 (He.codeOf K ("_law_ratio", none)) := funC_of D6
  have n6 : mg "_law_ratio" = some (.ref (He.fAd K ("_law_ratio", none))) := He.glo_ok X G (c.t.d.fact 6 (f := .glo "_law_ratio") rfl)
  obtain ⟨fd7, D7⟩ := c.t.d.def_ 7 (d := d__law_less) rfl
  have F7 : FunC K "_law_less" s__law_less (He.fAd K ("_law_less", none)) fd7 (He.codeOf K ("_law_less", none)) := funC_of D7
  have n7 : mg "_law_less" = some (.ref (He.fAd K ("_law_less", none))) := He.glo_ok X G (c.t.d.fact 7 (f := .glo "_law_less") rfl)
  obtain ⟨fd8, D8⟩ := c.t.d.def_ 8 (d := d__law_even) rfl
  have F8 : FunC K "_law_even" s__law_even (He.fAd K ("_law_even", none)) fd8 (He.codeOf K ("_law_even", none)) := funC_of D8
  have n8 : mg "_law_even" = some (.ref (He.fAd K ("_law_even", none))) := He.glo_ok X G (c.t.d.fact 8 (f := .glo "_law_even") rfl)
  obtain ⟨fd9, D9⟩ := c.t.d.def_ 9 (d := d_plus) rfl
  have F9 : FunC K "plus" s_plus (He.fAd K ("plus", none)) fd9 (He.codeOf K ("plus", none)) := funC_of D9
  have n9 : mg "plus" = some (.ref (He.fAd K ("plus", none))) := He.glo_ok X G (c.t.d.fact 9 (f := .glo "plus") rfl)
  obtain ⟨fd10, D10⟩ := c.t.d.def_ 10 (d := d_times) rfl
  have F10 : FunC K "times" s_times (He.fAd K ("times", none)) fd10 (He.codeOf K ("times", none)) := funC_of D10
  have n10 : mg "times" = some (.ref (He.fAd K ("times", none))) := He.glo_ok X G (c.t.d.fact 10 (f := .glo "times") rfl)
  obtain ⟨fd11, D11⟩ := c.t.d.def_ 11 (d := d_over) rfl
  have F11 : FunC K "over" s_over (He.fAd K ("over", none)) fd11 (He.codeOf K ("over", none)) := funC_of D11
  have n11 : mg "over" = some (.ref (He.fAd K ("over", none))) := He.glo_ok X G (c.t.d.fact 11 (f := .glo "over") rfl)
  obtain ⟨fd12, D12⟩ := c.t.d.def_ 12 (d := d_total_weight) rfl
  have F12 : FunC K "total_weight" s_total_weight (He.fAd K ("total_weight", none)) fd12 (He.codeOf K ("total_weight", none)) := funC_of D12
  have n12 : mg "total_weight" = some (.ref (He.fAd K ("total_weight", none))) := He.glo_ok X G (c.t.d.fact 12 (f := .glo "total_weight") rfl)
  obtain ⟨fd13, D13⟩ := c.t.d.def_ 13 (d := d__law_take) rfl
  have F13 : FunC K "_law_take" s__law_take (He.fAd K ("_law_take", none)) fd13 (He.codeOf K ("_law_take", none)) := funC_of D13
  have n13 : mg "_law_take" = some (.ref (He.fAd K ("_law_take", none))) := He.glo_ok X G (c.t.d.fact 13 (f := .glo "_law_take") rfl)
  obtain ⟨fd14, D14⟩ := c.t.d.def_ 14 (d := d__law_plus) rfl
  have F14 : FunC K "_law_plus" s__law_plus (He.fAd K ("_law_plus", none)) fd14 (He.codeOf K ("_law_plus", none)) := funC_of D14
  have n14 : mg "_law_plus" = some (.ref (He.fAd K ("_law_plus", none))) := He.glo_ok X G (c.t.d.fact 14 (f := .glo "_law_plus") rfl)
  obtain ⟨fd15, D15⟩ := c.t.d.def_ 15 (d := d__law_times) rfl
  have F15 : FunC K "_law_times" s__law_times (He.fAd K ("_law_times", none)) fd15 (He.codeOf K ("_law_times", none)) := funC_of D15
  have n15 : mg "_law_times" = some (.ref (He.fAd K ("_law_times", none))) := He.glo_ok X G (c.t.d.fact 15 (f := .glo "_law_times") rfl)
  obtain ⟨fd16, D16⟩ := c.t.d.def_ 16 (d := d_mean) rfl
  have F16 : FunC K "mean" s_mean (He.fAd K ("mean", none)) fd16 (He.codeOf K ("mean", none)) := funC_of D16
  have n16 : mg "mean" = some (.ref (He.fAd K ("mean", none))) := He.glo_ok X G (c.t.d.fact 16 (f := .glo "mean") rfl)
  obtain ⟨fd17, D17⟩ := c.t.d.def_ 17 (d := d__law_ends) rfl
  have F17 : FunC K "_law_ends" s__law_ends (He.fAd K ("_law_ends", none)) fd17 (He.codeOf K ("_law_ends", none)) := funC_of D17
  have n17 : mg "_law_ends" = some (.ref (He.fAd K ("_law_ends", none))) := He.glo_ok X G (c.t.d.fact 17 (f := .glo "_law_ends") rfl)
  obtain ⟨fd18, D18⟩ := c.t.d.def_ 18 (d := d__law_some) rfl
  have F18 : FunC K "_law_some" s__law_some (He.fAd K ("_law_some", none)) fd18 (He.codeOf K ("_law_some", none)) := funC_of D18
  have n18 : mg "_law_some" = some (.ref (He.fAd K ("_law_some", none))) := He.glo_ok X G (c.t.d.fact 18 (f := .glo "_law_some") rfl)
  obtain ⟨fd19, D19⟩ := c.t.d.def_ 19 (d := d__law_mean) rfl
  have F19 : FunC K "_law_mean" s__law_mean (He.fAd K ("_law_mean", none)) fd19 (He.codeOf K ("_law_mean", none)) := funC_of D19
  have n19 : mg "_law_mean" = some (.ref (He.fAd K ("_law_mean", none))) := He.glo_ok X G (c.t.d.fact 19 (f := .glo "_law_mean") rfl)
  obtain ⟨fd20, D20⟩ := c.t.d.def_ 20 (d := d__law_large) rfl
  have F20 : FunC K "_law_large" s__law_large (He.fAd K ("_law_large", none)) fd20 (He.codeOf K ("_law_large", none)) := funC_of D20
  have n20 : mg "_law_large" = some (.ref (He.fAd K ("_law_large", none))) := He.glo_ok X G (c.t.d.fact 20 (f := .glo "_law_large") rfl)
  obtain ⟨fd21, D21⟩ := c.t.d.def_ 21 (d := d_best_choice) rfl
  have F21 : FunC K "best_choice" s_best_choice (He.fAd K ("best_choice", none)) fd21 (He.codeOf K ("best_choice", none)) := funC_of D21
  have n21 : mg "best_choice" = some (.ref (He.fAd K ("best_choice", none))) := He.glo_ok X G (c.t.d.fact 21 (f := .glo "best_choice") rfl)
  obtain ⟨fd22, D22⟩ := c.t.d.def_ 22 (d := d__law_choices) rfl
  have F22 : FunC K "_law_choices" s__law_choices (He.fAd K ("_law_choices", none)) fd22 (He.codeOf K ("_law_choices", none)) := funC_of D22
  have n22 : mg "_law_choices" = some (.ref (He.fAd K ("_law_choices", none))) := He.glo_ok X G (c.t.d.fact 22 (f := .glo "_law_choices") rfl)
  obtain ⟨fd23, D23⟩ := c.t.d.def_ 23 (d := d__law_step) rfl
  have F23 : FunC K "_law_step" s__law_step (He.fAd K ("_law_step", none)) fd23 (He.codeOf K ("_law_step", none)) := funC_of D23
  have n23 : mg "_law_step" = some (.ref (He.fAd K ("_law_step", none))) := He.glo_ok X G (c.t.d.fact 23 (f := .glo "_law_step") rfl)
  obtain ⟨fd24, D24⟩ := c.t.d.def_ 24 (d := d_bounded_chances) rfl
  have F24 : FunC K "bounded_chances" s_bounded_chances (He.fAd K ("bounded_chances", none)) fd24 (He.codeOf K ("bounded_chances", none)) := funC_of D24
  have n24 : mg "bounded_chances" = some (.ref (He.fAd K ("bounded_chances", none))) := He.glo_ok X G (c.t.d.fact 24 (f := .glo "bounded_chances") rfl)
  obtain ⟨fd25, D25⟩ := c.t.d.def_ 25 (d := d__law_system) rfl
  have F25 : FunC K "_law_system" s__law_system (He.fAd K ("_law_system", none)) fd25 (He.codeOf K ("_law_system", none)) := funC_of D25
  have n25 : mg "_law_system" = some (.ref (He.fAd K ("_law_system", none))) := He.glo_ok X G (c.t.d.fact 25 (f := .glo "_law_system") rfl)
  obtain ⟨fd26, D26⟩ := c.t.d.def_ 26 (d := d__law_equal) rfl
  have F26 : FunC K "_law_equal" s__law_equal (He.fAd K ("_law_equal", none)) fd26 (He.codeOf K ("_law_equal", none)) := funC_of D26
  have n26 : mg "_law_equal" = some (.ref (He.fAd K ("_law_equal", none))) := He.glo_ok X G (c.t.d.fact 26 (f := .glo "_law_equal") rfl)
  obtain ⟨fd27, D27⟩ := c.t.d.def_ 27 (d := d_law) rfl
  have F27 : FunC K "law" s_law (He.fAd K ("law", none)) fd27 (He.codeOf K ("law", none)) := funC_of D27
  have n27 : mg "law" = some (.ref (He.fAd K ("law", none))) := He.glo_ok X G (c.t.d.fact 27 (f := .glo "law") rfl)
  have y_gcd : mg "gcd" = some (.builtin "math.gcd") := PySem.W.mg_of X G (He.eqO_ok (He.ba (He.ba (He.ba c.more).1).1).2)
  have y_range : mg "range" = none := He.free_ok X G (c.t.d.fact 28 (f := .free "range") rfl)
  have y_len : mg "len" = none := He.free_ok X G (c.t.d.fact 29 (f := .free "len") rfl)
  have y_int : mg "int" = none := He.free_ok X G (c.t.d.fact 30 (f := .free "int") rfl)
  have y_abs : mg "abs" = none := He.free_ok X G (c.t.d.fact 31 (f := .free "abs") rfl)
  have y_tuple : mg "tuple" = none := He.free_ok X G (c.t.d.fact 32 (f := .free "tuple") rfl)
  have y_sum : mg "sum" = none := He.free_ok X G (c.t.d.fact 33 (f := .free "sum") rfl)
  have y_sorted : mg "sorted" = none := He.free_ok X G (c.t.d.fact 34 (f := .free "sorted") rfl)
  have y_list : mg "list" = none := He.free_ok X G (c.t.d.fact 35 (f := .free "list") rfl)
  have y_isinstance : mg "isinstance" = none := He.free_ok X G (c.t.d.fact 36 (f := .free "isinstance") rfl)
  have y_bool : mg "bool" = none := He.free_ok X G (c.t.d.fact 37 (f := .free "bool") rfl)
  have y_str : mg "str" = none := He.free_ok X G (c.t.d.fact 38 (f := .free "str") rfl)
  have v_ZERO : GV K mg "ZERO" (rT2 rInt rInt) ((0 : Int), (1 : Int)) := pairG_ok X G (He.ba (He.ba c.more).1).2
  have v_ONE : GV K mg "ONE" (rT2 rInt rInt) ((1 : Int), (1 : Int)) := pairG_ok X G (He.ba c.more).2
  have e := hfa.symm.trans n27
  cases e
  have mem : ∀ p ∈ tf.map (He.cT K), ∃ q ∈ tf, He.cT K q = p := fun p hp => List.mem_map.mp hp
  refine ⟨fd27, tf.map (He.cT K), spV K ((tf.map (He.cT K)).map (·.2)) C_law, fun p hp => ?_, fun p hp => ?_, fun p hp => ?_, fun s v => ?_, fun H a ns hl _ hH hS => ?_, fun base KB GB hTB => ?_⟩
  · obtain ⟨q, hq, rfl⟩ := mem p hp; exact c.empty q hq
  · obtain ⟨q, hq, rfl⟩ := mem p hp; exact c.out q hq
  · obtain ⟨q, hq, rfl⟩ := mem p hp; exact PySem.W.codeHd_of_K X (c.hd q hq)
  · exact F27.bindsA (ps := ["_law_script"]) (fun _ _ _ _ _ _ us hl => match us, hl with | [_], _ => rfl) s [v] rfl
  · have hT : ∀ P ∈ (tf.map (He.cT K)).map (·.2), GxR.TabG H P := fun P hP => by
      obtain ⟨p, hp, rfl⟩ := List.mem_map.mp hP
      exact ⟨#[], hH p hp, trivial⟩
    exact ⟨noT H _, ⟨fun _ => none, _⟩, [], [⟨rLst rInt, ns⟩], ⟨rBool, true⟩, [], rfl, Own.start K H _ hT, ⟨⟨a, _, rfl, sq_noT hT hS, paired_ints ns⟩, trivial⟩, ⟨ns, true, rfl, rfl, hm ns hl, rfl, rfl⟩, fun v _ _ _ _ h => h⟩
  · have tbs : ∀ q ∈ tf, ∃ P0, GxR.TabB base mg (He.codeOf K q) P0 ∧ P0 ∈ (tf.map (He.cT K)).map (·.2) := fun q hq => by
      have t := hTB (He.cT K q) (List.mem_map.mpr ⟨q, hq, rfl⟩)
      exact ⟨(He.cT K q).2, ⟨t.code, t.bm, t.gP⟩, List.mem_map.mpr ⟨_, List.mem_map.mpr ⟨q, hq, rfl⟩, rfl⟩⟩
    have b0 := F0.binds (ps := ["n", "d"]) fun _ _ _ _ _ _ us hl => match us, hl with | [_, _], _ => rfl
    have C_0 : Cl PySem.Challenge.rw_bestodds_k20_chances_within_steps.prog w K mg base 1 "ratio" (spV K ((tf.map (He.cT K)).map (·.2)) C_ratio) [] := ⟨_, _, ["n", "d"], [], ok_ratio F0 y_gcd, n0, F0.kp, b0, .nil⟩
    have b1 := F1.binds (ps := ["system", "allowed", "targets"]) fun _ _ _ _ _ _ us hl => match us, hl with | [_, _, _], _ => rfl
    have C_1 : Cl PySem.Challenge.rw_bestodds_k20_chances_within_steps.prog w K mg base 1 "rest_of" (spV K ((tf.map (He.cT K)).map (·.2)) C_rest_of) [] := ⟨_, _, ["system", "allowed", "targets"], [], ok_rest_of F1 y_range y_len, n1, F1.kp, b1, .nil⟩
    have b2 := F2.binds (ps := ["one", "two", "most"]) fun _ _ _ _ _ _ us hl => match us, hl with | [_, _, _], _ => rfl
    have C_2 : Cl PySem.Challenge.rw_bestodds_k20_chances_within_steps.prog w K mg base 1 "better" (spV K ((tf.map (He.cT K)).map (·.2)) C_better) [] := ⟨_, _, ["one", "two", "most"], [], ok_better F2 , n2, F2.kp, b2, .nil⟩
    have b3 := F3.binds (ps := ["choice"]) fun _ _ _ _ _ _ us hl => match us, hl with | [_], _ => rfl
    have C_3 : Cl PySem.Challenge.rw_bestodds_k20_chances_within_steps.prog w K mg base 1 "no_cost" (spV K ((tf.map (He.cT K)).map (·.2)) C_no_cost) [] := ⟨_, _, ["choice"], [], ok_no_cost F3 , n3, F3.kp, b3, .nil⟩
    obtain ⟨q_no_cost, qm_no_cost, _, CA_no_cost⟩ := C_3.at
    have v_no_cost : GV K mg "no_cost" rRef q_no_cost := ⟨.ref q_no_cost, .ref q_no_cost, qm_no_cost, rfl, fun _ => rfl⟩
    have b4 := F4.binds (ps := ["_law_script"]) fun _ _ _ _ _ _ us hl => match us, hl with | [_], _ => rfl
    have C_4 : Cl PySem.Challenge.rw_bestodds_k20_chances_within_steps.prog w K mg base 1 "_law_tape" (spV K ((tf.map (He.cT K)).map (·.2)) C__law_tape) [] := ⟨_, _, ["_law_script"], [], ok__law_tape F4 y_int y_range, n4, F4.kp, b4, .nil⟩
    have b5 := F5.binds (ps := ["_law_tape_here", "_law_at", "_law_many"]) fun _ _ _ _ _ _ us hl => match us, hl with | [_, _, _], _ => rfl
    have C_5 : Cl PySem.Challenge.rw_bestodds_k20_chances_within_steps.prog w K mg base 1 "_law_draw" (spV K ((tf.map (He.cT K)).map (·.2)) C__law_draw) [] := ⟨_, _, ["_law_tape_here", "_law_at", "_law_many"], [], ok__law_draw F5 y_len y_int, n5, F5.kp, b5, .nil⟩
    have b6 := F6.binds (ps := ["_law_n", "_law_d"]) fun _ _ _ _ _ _ us hl => match us, hl with | [_, _], _ => rfl
    have C_6 : Cl PySem.Challenge.rw_bestodds_k20_chances_within_steps.prog w K mg base 1 "_law_ratio" (spV K ((tf.map (He.cT K)).map (·.2)) C__law_ratio) [] := ⟨_, _, ["_law_n", "_law_d"], [], ok__law_ratio F6 y_abs y_range y_int, n6, F6.kp, b6, .nil⟩
    have b7 := F7.binds (ps := ["_law_one", "_law_other"]) fun _ _ _ _ _ _ us hl => match us, hl with | [_, _], _ => rfl
    have C_7 : Cl PySem.Challenge.rw_bestodds_k20_chances_within_steps.prog w K mg base 1 "_law_less" (spV K ((tf.map (He.cT K)).map (·.2)) C__law_less) [] := ⟨_, _, ["_law_one", "_law_other"], [], ok__law_less F7 , n7, F7.kp, b7, .nil⟩
    have b8 := F8.binds (ps := ["_law_choices_here"]) fun _ _ _ _ _ _ us hl => match us, hl with | [_], _ => rfl
    have C_8 : Cl PySem.Challenge.rw_bestodds_k20_chances_within_steps.prog w K mg base 1 "_law_even" (spV K ((tf.map (He.cT K)).map (·.2)) C__law_even) [] := ⟨_, _, ["_law_choices_here"], [], ok__law_even F8 y_tuple, n8, F8.kp, b8, .nil⟩
    have b9 := F9.binds (ps := ["a", "b"]) fun _ _ _ _ _ _ us hl => match us, hl with | [_, _], _ => rfl
    have C_9 : Cl PySem.Challenge.rw_bestodds_k20_chances_within_steps.prog w K mg base 2 "plus" (spV K ((tf.map (He.cT K)).map (·.2)) C_plus) [] := ⟨_, _, ["a", "b"], [], ok_plus F9 C_0, n9, F9.kp, b9, .nil⟩
    have b10 := F10.binds (ps := ["a", "b"]) fun _ _ _ _ _ _ us hl => match us, hl with | [_, _], _ => rfl
    have C_10 : Cl PySem.Challenge.rw_bestodds_k20_chances_within_steps.prog w K mg base 2 "times" (spV K ((tf.map (He.cT K)).map (·.2)) C_times) [] := ⟨_, _, ["a", "b"], [], ok_times F10 C_0, n10, F10.kp, b10, .nil⟩
    have b11 := F11.binds (ps := ["a", "b"]) fun _ _ _ _ _ _ us hl => match us, hl with | [_, _], _ => rfl
    have C_11 : Cl PySem.Challenge.rw_bestodds_k20_chances_within_steps.prog w K mg base 2 "over" (spV K ((tf.map (He.cT K)).map (·.2)) C_over) [] := ⟨_, _, ["a", "b"], [], ok_over F11 C_0, n11, F11.kp, b11, .nil⟩
    have b12 := F12.binds (ps := ["ends"]) fun _ _ _ _ _ _ us hl => match us, hl with | [_], _ => rfl
    have C_12 : Cl PySem.Challenge.rw_bestodds_k20_chances_within_steps.prog w K mg base 2 "total_weight" (spV K ((tf.map (He.cT K)).map (·.2)) C_total_weight) [] := ⟨_, _, ["ends"], [], ok_total_weight F12 y_sum (tbs ("total_weight", none) (by unfold tf; simp)), n12, F12.kp, b12, .nil⟩
    have b13 := F13.binds (ps := ["_law_state", "_law_many"]) fun _ _ _ _ _ _ us hl => match us, hl with | [_, _], _ => rfl
    have C_13 : Cl PySem.Challenge.rw_bestodds_k20_chances_within_steps.prog w K mg base 2 "_law_take" (spV K ((tf.map (He.cT K)).map (·.2)) C__law_take) [] := ⟨_, _, ["_law_state", "_law_many"], [], ok__law_take F13 C_5, n13, F13.kp, b13, .nil⟩
    have b14 := F14.binds (ps := ["_law_a", "_law_b"]) fun _ _ _ _ _ _ us hl => match us, hl with | [_, _], _ => rfl
    have C_14 : Cl PySem.Challenge.rw_bestodds_k20_chances_within_steps.prog w K mg base 2 "_law_plus" (spV K ((tf.map (He.cT K)).map (·.2)) C__law_plus) [] := ⟨_, _, ["_law_a", "_law_b"], [], ok__law_plus F14 C_6, n14, F14.kp, b14, .nil⟩
    have b15 := F15.binds (ps := ["_law_a", "_law_b"]) fun _ _ _ _ _ _ us hl => match us, hl with | [_, _], _ => rfl
    have C_15 : Cl PySem.Challenge.rw_bestodds_k20_chances_within_steps.prog w K mg base 2 "_law_times" (spV K ((tf.map (He.cT K)).map (·.2)) C__law_times) [] := ⟨_, _, ["_law_a", "_law_b"], [], ok__law_times F15 C_6, n15, F15.kp, b15, .nil⟩
    have b16 := F16.binds (ps := ["ends", "values"]) fun _ _ _ _ _ _ us hl => match us, hl with | [_, _], _ => rfl
    have C_16 : Cl PySem.Challenge.rw_bestodds_k20_chances_within_steps.prog w K mg base 3 "mean" (spV K ((tf.map (He.cT K)).map (·.2)) C_mean) [] := ⟨_, _, ["ends", "values"], [], ok_mean F16 C_9 C_10 C_11 C_12 v_ZERO, n16, F16.kp, b16, .nil⟩
    have b17 := F17.binds (ps := ["_law_state", "_law_many"]) fun _ _ _ _ _ _ us hl => match us, hl with | [_, _], _ => rfl
    have C_17 : Cl PySem.Challenge.rw_bestodds_k20_chances_within_steps.prog w K mg base 3 "_law_ends" (spV K ((tf.map (He.cT K)).map (·.2)) C__law_ends) [] := ⟨_, _, ["_law_state", "_law_many"], [], ok__law_ends F17 C_13 y_range y_tuple, n17, F17.kp, b17, .nil⟩
    have b18 := F18.binds (ps := ["_law_state", "_law_many", "_law_share"]) fun _ _ _ _ _ _ us hl => match us, hl with | [_, _, _], _ => rfl
    have C_18 : Cl PySem.Challenge.rw_bestodds_k20_chances_within_steps.prog w K mg base 3 "_law_some" (spV K ((tf.map (He.cT K)).map (·.2)) C__law_some) [] := ⟨_, _, ["_law_state", "_law_many", "_law_share"], [], ok__law_some F18 C_13 y_range, n18, F18.kp, b18, .nil⟩
    have b19 := F19.binds (ps := ["_law_ends_here", "_law_values"]) fun _ _ _ _ _ _ us hl => match us, hl with | [_, _], _ => rfl
    have C_19 : Cl PySem.Challenge.rw_bestodds_k20_chances_within_steps.prog w K mg base 3 "_law_mean" (spV K ((tf.map (He.cT K)).map (·.2)) C__law_mean) [] := ⟨_, _, ["_law_ends_here", "_law_values"], [], ok__law_mean F19 C_14 C_15 C_6 y_sum, n19, F19.kp, b19, .nil⟩
    have b20 := F20.binds (ps := ["_law_state", "_law_many"]) fun _ _ _ _ _ _ us hl => match us, hl with | [_, _], _ => rfl
    have C_20 : Cl PySem.Challenge.rw_bestodds_k20_chances_within_steps.prog w K mg base 3 "_law_large" (spV K ((tf.map (He.cT K)).map (·.2)) C__law_large) [] := ⟨_, _, ["_law_state", "_law_many"], [], ok__law_large F20 C_13 y_range y_sorted y_tuple, n20, F20.kp, b20, .nil⟩
    have b21 := F21.binds (ps := ["choices", "values", "numbers", "base", "most"]) fun _ _ _ _ _ _ us hl => match us, hl with | [_, _, _, _, _], _ => rfl
    have C_21 : Cl PySem.Challenge.rw_bestodds_k20_chances_within_steps.prog w K mg base 4 "best_choice" (spV K ((tf.map (He.cT K)).map (·.2)) (C_best_choice q_no_cost)) [] := ⟨_, _, ["choices", "values", "numbers", "base", "most"], [], ok_best_choice F21 C_9 C_16 C_2 CA_no_cost, n21, F21.kp, b21, .nil⟩
    have b22 := F22.binds (ps := ["_law_state", "_law_many", "_law_most"]) fun _ _ _ _ _ _ us hl => match us, hl with | [_, _, _], _ => rfl
    have C_22 : Cl PySem.Challenge.rw_bestodds_k20_chances_within_steps.prog w K mg base 4 "_law_choices" (spV K ((tf.map (He.cT K)).map (·.2)) C__law_choices) [] := ⟨_, _, ["_law_state", "_law_many", "_law_most"], [], ok__law_choices F22 C_13 C_17 y_range y_tuple, n22, F22.kp, b22, .nil⟩
    have b23 := F23.binds (ps := ["_law_system_here", "_law_rest", "_law_values", "_law_most"]) fun _ _ _ _ _ _ us hl => match us, hl with | [_, _, _, _], _ => rfl
    have C_23 : Cl PySem.Challenge.rw_bestodds_k20_chances_within_steps.prog w K mg base 4 "_law_step" (spV K ((tf.map (He.cT K)).map (·.2)) C__law_step) [] := ⟨_, _, ["_law_system_here", "_law_rest", "_law_values", "_law_most"], [], ok__law_step F23 C_19 C_7 y_list y_len y_range y_tuple, n23, F23.kp, b23, .nil⟩
    have b24 := F24.binds (ps := ["system", "allowed", "targets", "steps", "most"]) fun _ _ _ _ _ _ us hl => match us, hl with | [_, _, _, _, _], _ => rfl
    have C_24 : Cl PySem.Challenge.rw_bestodds_k20_chances_within_steps.prog w K mg base 5 "bounded_chances" (spV K ((tf.map (He.cT K)).map (·.2)) C_bounded_chances) [] := ⟨_, _, ["system", "allowed", "targets", "steps", "most"], [], ok_bounded_chances F24 C_1 C_21 v_ONE v_ZERO v_no_cost y_range y_len y_list y_tuple, n24, F24.kp, b24, .nil⟩
    have b25 := F25.binds (ps := ["_law_state", "_law_most"]) fun _ _ _ _ _ _ us hl => match us, hl with | [_, _], _ => rfl
    have C_25 : Cl PySem.Challenge.rw_bestodds_k20_chances_within_steps.prog w K mg base 5 "_law_system" (spV K ((tf.map (He.cT K)).map (·.2)) C__law_system) [] := ⟨_, _, ["_law_state", "_law_most"], [], ok__law_system F25 C_13 C_22 y_range y_tuple, n25, F25.kp, b25, .nil⟩
    have b26 := F26.binds (ps := ["_law_actual", "_law_due"]) fun _ _ _ _ _ _ us hl => match us, hl with | [_, _], _ => rfl
    have C_26 : Cl PySem.Challenge.rw_bestodds_k20_chances_within_steps.prog w K mg base 8 "_law_equal" (spV K ((tf.map (He.cT K)).map (·.2)) (C__law_equal 8)) [] := ⟨_, _, ["_law_actual", "_law_due"], [], all__law_equal F26 y_isinstance y_bool y_int y_str y_tuple y_list y_len y_range n26 F26.kp b26 8, n26, F26.kp, b26, .nil⟩
    exact ok_law F27 C_4 C_25 C_13 C_20 C_18 C_8 C_23 C_26 C_24 y_range y_len y_list y_tuple y_int
end End
end L3
open PySem PySem.W PySem.Calls PyProof.Rows
set_option maxHeartbeats 0 in
theorem PySem.Challenge.cw_bestodds_k20_chances_within_steps_holds : PySem.Challenge.rw_bestodds_k20_chances_within_steps.Holds := by
  w_on; o_law
  refine HandSHeadRun.head_imp (r := OpenLaw.row PySem.Challenge.rw_bestodds_k20_chances_within_steps) (q := view (OpenLaw.row PySem.Challenge.rw_bestodds_k20_chances_within_steps).prog [0, 37]) (H := L3.End.hk) (ob := L3.End.ob) (M := 4000) (loose := L3.End.loose) (d := HandSHeadRun.topDef (OpenLaw.row PySem.Challenge.rw_bestodds_k20_chances_within_steps).prog 37) (kwd := []) L3.End.ob_eq
    L3.End.run (by kernel_rfl) (by kernel_rfl) (by kernel_rfl) (by rfl) (by first | assumption | decide +kernel) (by decide +kernel) ⟨rfl, rfl, rfl, rfl, rfl, by decide +kernel⟩ ?hw ?hc
  case hw => w_witness2
  case hc =>
    refine LamX.walk_ofTsE (l := PySem.Challenge.rw_bestodds_k20_chances_within_steps) (n := 63) (k := 9) (x := "_law_script") (CX := fun _ => L2.CX0) rfl (by decide) (by kernel_rfl) ⟨rfl, by decide, by decide⟩ ?F (fun _ _ _ _ _ z => z)
    intro w mg fa h Y G hmg0
    obtain ⟨K, KX, c⟩ := Y
    have hmg : mg ("law" : PySem.Str) = some (.ref fa) := by
      have e : (HandSHeadRun.topDef (OpenLaw.row PySem.Challenge.rw_bestodds_k20_chances_within_steps).prog 37).name = ("law" : PySem.Str) := by kernel_rfl
      rw [← e]
      exact hmg0
    exact ⟨K, KX, L3.End.facts KX G hmg c L3.law_true⟩
#print axioms PySem.Challenge.cw_bestodds_k20_chances_within_steps_holds

