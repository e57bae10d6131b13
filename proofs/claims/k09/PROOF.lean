import PyProof.Rows.All
import Wide.All
import OpenK.AllK
import Wide.FinOn
import HandS.ForMost
import HandS.Evl
import HandS.Gcd
import HandS.Wide
import HandS.Conv
import HandS.IsInst
import HandS.Codes
import PySem.Challenge.RW_bestodds_k09_closed_parts
import HandS.AnyAll
import HandS.Comp
import HandS.GenOver
import HandS.GenList
import HandS.HeadHook4
import HandS.HeadWalk
import HandS.Head0
import HandS.Head1
import HandS.Head2
import KE.GoesMore
import HandS.Iter
import HandS.TupAny
import HandS.TupMul
import HandS.Style
import HandS.ListItems
import HandS.SortRule
import HandS.CallLocal
import HandS.SortInts
import HandS.NoneIn
import HandS.HeadHook3
import HandS.DictComp
import HandS.Nested
import HandS.DictEq
import HandS.More
import HandS.Strs
import HandS.SetFor
import KE.SortCalls
import HandS.Head3
import HandS.HeadEnd
import HandS.HeadHook1
import HandS.HeadHook2
set_option Elab.async false
set_option linter.all false
set_option maxRecDepth 100000
set_option maxHeartbeats 4000000
namespace L3
open PySem L2
open Evl (Ex ex_rd ex_l ex_t sq_of st_of fresh_back)

abbrev Fg := PySem.W.Frag

/-! ### how data stands in the heap -/
structure Rep (α : Type) where
  is : Fg → Hp → V → α → Prop
  mono : ∀ {K : Fg} {B B' : Hp} {v : V} {a : α}, Ex B B' → is K B v a → is K B' v a
structure CRep (α : Type) where
  is : Fg → Hp → HO → α → Prop
  mono : ∀ {K : Fg} {B B' : Hp} {o : HO} {a : α}, Ex B B' → is K B o a → is K B' o a

theorem paired_mono {α : Type} {r : Rep α} {K : Fg} {B B' : Hp} (e : Ex B B') : ∀ {xs : List V} {as : List α}, Paired (r.is K B) xs as → Paired (r.is K B') xs as
  | _, _, .nil => .nil
  | _, _, .cons h t => .cons (r.mono e h) (paired_mono e t)
theorem paired_len {α β : Type} {F : α → β → Prop} : ∀ {xs : List α} {as : List β}, Paired F xs as → xs.length = as.length
  | _, _, .nil => rfl
  | _, _, .cons _ t => congrArg (· + 1) (paired_len t)
theorem paired_get {α β : Type} {F : α → β → Prop} : ∀ {xs : List α} {as : List β} {i : Nat} {a : β}, Paired F xs as → as[i]? = some a → ∃ x, xs[i]? = some x ∧ F x a
  | _, _, _, _, .nil, e => by simp at e
  | _, _, 0, _, .cons r _, e => by simp at e; subst e; exact ⟨_, rfl, r⟩
  | _, _, i + 1, a, .cons _ t, e => by
    obtain ⟨u, h1, h2⟩ := paired_get (i := i) (a := a) t (by simpa using e)
    exact ⟨u, by simpa using h1, h2⟩
theorem paired_app {α β : Type} {F : α → β → Prop} : ∀ {xs ys : List α} {as bs : List β}, Paired F xs as → Paired F ys bs → Paired F (xs ++ ys) (as ++ bs)
  | _, _, _, _, .nil, s => s
  | _, _, _, _, .cons r t, s => .cons r (paired_app t s)
theorem paired_set {α β : Type} {F : α → β → Prop} {x : α} {a : β} (r : F x a) : ∀ {xs : List α} {as : List β} (i : Nat), Paired F xs as → Paired F (xs.set i x) (as.set i a)
  | _, _, _, .nil => .nil
  | _, _, 0, .cons _ t => .cons r t
  | _, _, i + 1, .cons q t => .cons q (paired_set r i t)
theorem paired_drop {α β : Type} {F : α → β → Prop} : ∀ {xs : List α} {as : List β} (n : Nat), Paired F xs as → Paired F (xs.drop n) (as.drop n)
  | _, _, 0, r => r
  | _, _, _ + 1, .nil => .nil
  | _, _, n + 1, .cons _ t => paired_drop n t
theorem paired_take {α β : Type} {F : α → β → Prop} : ∀ {xs : List α} {as : List β} (n : Nat), Paired F xs as → Paired F (xs.take n) (as.take n)
  | _, _, 0, _ => .nil
  | _, _, _ + 1, .nil => .nil
  | _, _, n + 1, .cons r t => .cons r (paired_take n t)
theorem paired_rev {α β : Type} {F : α → β → Prop} : ∀ {xs : List α} {as : List β}, Paired F xs as → Paired F xs.reverse as.reverse
  | _, _, .nil => .nil
  | _, _, .cons r t => by
    rw [List.reverse_cons, List.reverse_cons]
    exact paired_app (paired_rev t) (.cons r .nil)
theorem paired_map {α β γ : Type} {F : γ → β → Prop} {f : α → γ} {g : α → β} (h : ∀ a, F (f a) (g a)) : ∀ (l : List α), Paired F (l.map f) (l.map g)
  | [] => .nil
  | a :: l => .cons (h a) (paired_map h l)
theorem paired_imp {α β : Type} {F G : α → β → Prop} (h : ∀ a b, F a b → G a b) : ∀ {xs : List α} {as : List β}, Paired F xs as → Paired G xs as
  | _, _, .nil => .nil
  | _, _, .cons r t => .cons (h _ _ r) (paired_imp h t)

def rInt : Rep Int := ⟨fun _ _ v a => v = .int a, fun _ h => h⟩
def rBool : Rep Bool := ⟨fun _ _ v a => v = .bl a, fun _ h => h⟩
def rStr : Rep Str := ⟨fun _ _ v a => v = .str a, fun _ h => h⟩
def rNon : Rep Unit := ⟨fun _ _ v _ => v = .non, fun _ h => h⟩
def rRef : Rep Addr := ⟨fun _ _ v a => v = .ref a, fun _ h => h⟩
def rVal : Rep V := ⟨fun _ _ v a => v = a, fun _ h => h⟩
def rOpt {α : Type} (r : Rep α) : Rep (Option α) := ⟨fun K B v a => match a with | none => v = .non | some x => r.is K B v x, fun {K B B' v a} e h => by
  cases a with
  | none => exact h
  | some x => exact r.mono e h⟩
def rTup {α : Type} (r : Rep α) : Rep (List α) := ⟨fun K B v as => ∃ p xs, v = .ref p ∧ SqT K B p xs ∧ Paired (r.is K B) xs as, fun e ⟨p, xs, h1, h2, h3⟩ => ⟨p, xs, h1, ex_t e h2, paired_mono e h3⟩⟩
/-- the script -/
def rScr {α : Type} (r : Rep α) : Rep (List α) := ⟨fun K B v as => ∃ p xs, v = .ref p ∧ SqL K B p xs ∧ Paired (r.is K B) xs as, fun e ⟨p, xs, h1, h2, h3⟩ => ⟨p, xs, h1, ex_l e h2, paired_mono e h3⟩⟩
def rLst {α : Type} (r : Rep α) : Rep (List α) := ⟨fun K B v as => ∃ p xs, v = .ref p ∧ B p = some (.lst xs) ∧ Paired (r.is K B) xs as, fun e ⟨p, xs, h1, h2, h3⟩ => ⟨p, xs, h1, e _ _ h2, paired_mono e h3⟩⟩
def rSeq {α : Type} (r : Rep α) : Rep (List α) := ⟨fun K B v as => ∃ p xs, v = .ref p ∧ (SqL K B p xs ∨ SqT K B p xs) ∧ Paired (r.is K B) xs as, fun e ⟨p, xs, h1, h2, h3⟩ => ⟨p, xs, h1, h2.imp (ex_l e) (ex_t e), paired_mono e h3⟩⟩
def rT2 {α β : Type} (r : Rep α) (s : Rep β) : Rep (α × β) := ⟨fun K B v a => ∃ p x y, v = .ref p ∧ SqT K B p [x, y] ∧ r.is K B x a.1 ∧ s.is K B y a.2,
  fun e ⟨p, x, y, h1, h2, h3, h4⟩ => ⟨p, x, y, h1, ex_t e h2, r.mono e h3, s.mono e h4⟩⟩
def rT3 {α β γ : Type} (r : Rep α) (s : Rep β) (t : Rep γ) : Rep (α × β × γ) := ⟨fun K B v a => ∃ p x y z, v = .ref p ∧ SqT K B p [x, y, z] ∧ r.is K B x a.1 ∧ s.is K B y a.2.1 ∧ t.is K B z a.2.2,
  fun e ⟨p, x, y, z, h1, h2, h3, h4, h5⟩ => ⟨p, x, y, z, h1, ex_t e h2, r.mono e h3, s.mono e h4, t.mono e h5⟩⟩
def cLst {α : Type} (r : Rep α) : CRep (List α) := ⟨fun K B o as => ∃ xs, o = .lst xs ∧ Paired (r.is K B) xs as, fun e ⟨xs, h1, h2⟩ => ⟨xs, h1, paired_mono e h2⟩⟩
/-- a list [u, v] of two kinds -/
def cL2 {α β : Type} (r : Rep α) (s : Rep β) : CRep (α × β) := ⟨fun K B o a => ∃ x y, o = .lst [x, y] ∧ r.is K B x a.1 ∧ s.is K B y a.2, fun e ⟨x, y, h1, h2, h3⟩ => ⟨x, y, h1, r.mono e h2, s.mono e h3⟩⟩
theorem rTup_seq {α : Type} {r : Rep α} {K : Fg} {B : Hp} {v : V} {as : List α} (h : (rTup r).is K B v as) : (rSeq r).is K B v as := by
  obtain ⟨p, xs, h1, h2, h3⟩ := h
  exact ⟨p, xs, h1, .inr h2, h3⟩
theorem rLst_seq {α : Type} {r : Rep α} {K : Fg} {B : Hp} {v : V} {as : List α} (h : (rLst r).is K B v as) : (rSeq r).is K B v as := by
  obtain ⟨p, xs, h1, h2, h3⟩ := h
  exact ⟨p, xs, h1, .inl (sq_of h2), h3⟩
theorem rl_sc {α : Type} {r : Rep α} {K : Fg} {B : Hp} {v : V} {as : List α} (h : (rLst r).is K B v as) : (rScr r).is K B v as := by
  obtain ⟨p, xs, h1, h2, h3⟩ := h
  exact ⟨p, xs, h1, sq_of h2, h3⟩
theorem rScr_seq {α : Type} {r : Rep α} {K : Fg} {B : Hp} {v : V} {as : List α} (h : (rScr r).is K B v as) : (rSeq r).is K B v as := by
  obtain ⟨p, xs, h1, h2, h3⟩ := h
  exact ⟨p, xs, h1, .inl h2, h3⟩

/-! ### the heap in three: B stays, M is not ours, L may change -/
structure Cell : Type 1 where
  {α : Type}
  p : Addr
  c : CRep α
  a : α
def Cell.ok (K : Fg) (B H : Hp) (x : Cell) : Prop := ∃ o, H x.p = some o ∧ x.c.is K B o x.a
/-- what is not ours; the code objects' tables that may grow -/
structure Fr where
  h : Hp
  T : List Addr
instance : CoeFun Fr fun _ => Addr → Option HO := ⟨Fr.h⟩
instance : CoeOut Fr Hp := ⟨Fr.h⟩
structure Own (K : Fg) (B : Hp) (M : Fr) (L : List Cell) (H : Hp) : Prop where
  b : Ex B H
  m : Ex M.h H
  bm : ∀ a, B a = none ∨ M a = none
  l : ∀ x ∈ L, x.ok K B H ∧ B x.p = none ∧ M x.p = none
  nd : (L.map (·.p)).Nodup
  t : ∀ P ∈ M.T, GxR.TabG H P ∧ B P = none ∧ M P = none ∧ P ∉ L.map (·.p)
section
variable {K : Fg} {B B' H H' : Hp} {M : Fr} {L L' : List Cell} {p : Addr} {o : HO} {α : Type} {c : CRep α} {a a' : α}
theorem Cell.ok.mono {x : Cell} (e : Ex B B') (h : x.ok K B H) : x.ok K B' H := by
  obtain ⟨o, h1, h2⟩ := h
  exact ⟨o, h1, x.c.mono e h2⟩
theorem tab_upd {H : Hp} {P p : Addr} {o : HO} (h : GxR.TabG H P) (ne : P ≠ p) : GxR.TabG (upd H p o) P := by
  obtain ⟨ps, h1, h2⟩ := h
  exact ⟨ps, by rw [upd_ne ne]; exact h1, h2⟩
theorem tab_ne {H : Hp} {P p : Addr} (h : GxR.TabG H P) (hp : H p = none) : P ≠ p := fun e => by
  obtain ⟨ps, h1, _⟩ := h
  rw [e, hp] at h1
  cases h1
/-- without the tables -/
def noT (H : Hp) (T : List Addr) : Hp := fun a => if a ∈ T then none else H a
theorem Own.start (K : Fg) (H : Hp) (T : List Addr) (hT : ∀ P ∈ T, GxR.TabG H P) : Own K (noT H T) ⟨fun _ => none, T⟩ [] H := ⟨fun a u h => by
    unfold noT at h
    split at h
    · cases h
    · exact h, fun _ _ h => (by cases h), fun _ => .inr rfl, fun _ h => absurd h (by simp), by simp, fun P hP => ⟨hT P hP, by unfold noT; rw [if_pos hP], rfl, by simp⟩⟩
theorem sq_noT {K : Fg} {H : Hp} {T : List Addr} {a : Addr} {xs : List V} (hT : ∀ P ∈ T, GxR.TabG H P) (h : SqL K H a xs) : SqL K (noT H T) a xs := by
  have ne : ∀ u, H a = some u → (∀ ps, u ≠ .tbl ps) → noT H T a = some u := fun u e n => by
    unfold noT
    split
    · rename_i hm
      obtain ⟨ps, h1, _⟩ := hT a hm
      rw [e] at h1
      exact absurd (Option.some.inj h1) (n ps)
    · exact e
  rcases h with (h | ⟨o, h⟩) | h
  · exact .inl (.inl (ne _ h fun _ e => by cases e))
  · exact .inl (.inr ⟨o, ne _ h fun _ e => by cases e⟩)
  · exact .inr h
/-- a new thing that stays -/
theorem Own.ext (w : Own K B M L H) (hp : H p = none) : Own K (upd B p o) M L (upd H p o) := by
  have hB : B p = none := fresh_back w.b hp
  have hM : M p = none := fresh_back w.m hp
  refine ⟨fun b u e => ?_, fun b u e => ?_, fun b => ?_, fun x hx => ?_, w.nd, fun P hP => ?_⟩
  rotate_right
  · obtain ⟨h1, h2, h3, h4⟩ := w.t P hP
    have ne := tab_ne h1 hp
    exact ⟨tab_upd h1 ne, by rw [upd_ne ne]; exact h2, h3, h4⟩
  · by_cases hb : b = p
    · rw [hb, upd_same] at e; rw [hb, upd_same]; exact e
    · rw [upd_ne hb] at e; rw [upd_ne hb]; exact w.b b u e
  · rw [upd_ne (ne_of_none e hM)]; exact w.m b u e
  · by_cases hb : b = p
    · right; rw [hb]; exact hM
    · rw [upd_ne hb]; exact w.bm b
  · obtain ⟨⟨u, h1, h2⟩, h3, h4⟩ := w.l x hx
    have ne : x.p ≠ p := ne_of_none h1 hp
    exact ⟨⟨u, by rw [upd_ne ne]; exact h1, x.c.mono (Ex.new hB) h2⟩, by rw [upd_ne ne]; exact h3, h4⟩
/-- a new thing that may change -/
theorem Own.new (w : Own K B M L H) (hp : H p = none) (h : c.is K B o a) : Own K B M (⟨p, c, a⟩ :: L) (upd H p o) := by
  have hB : B p = none := fresh_back w.b hp
  have hM : M p = none := fresh_back w.m hp
  refine ⟨fun b u e => ?_, fun b u e => ?_, w.bm, fun x hx => ?_, ?_, fun P hP => ?_⟩
  rotate_right
  · obtain ⟨h1, h2, h3, h4⟩ := w.t P hP
    have ne := tab_ne h1 hp
    exact ⟨tab_upd h1 ne, h2, h3, fun z => (List.mem_cons.mp z).elim ne h4⟩
  · rw [upd_ne (ne_of_none e hB)]; exact w.b b u e
  · rw [upd_ne (ne_of_none e hM)]; exact w.m b u e
  · rcases List.mem_cons.mp hx with rfl | hx
    · exact ⟨⟨o, upd_same, h⟩, hB, hM⟩
    · obtain ⟨⟨u, h1, h2⟩, h3, h4⟩ := w.l x hx
      exact ⟨⟨u, by rw [upd_ne (ne_of_none h1 hp)]; exact h1, h2⟩, h3, h4⟩
  · rw [List.map_cons, List.nodup_cons]
    refine ⟨fun hm => ?_, w.nd⟩
    obtain ⟨x, hx, e⟩ := List.mem_map.mp hm
    obtain ⟨⟨u, h1, _⟩, _⟩ := w.l x hx
    rw [e, show (Cell.mk p c a).p = p from rfl, hp] at h1
    cases h1
theorem nodup_at : ∀ {l : List Addr} {i j : Nat} {x : Addr}, l.Nodup → l[i]? = some x → l[j]? = some x → i = j := fun {l i j x} h a b => by
  obtain ⟨h1, e1⟩ := List.getElem?_eq_some_iff.mp a
  obtain ⟨h2, e2⟩ := List.getElem?_eq_some_iff.mp b
  exact (List.getElem_inj h).mp (e1.trans e2.symm)
theorem Own.at {i : Nat} {x : Cell} (w : Own K B M L H) (h : L[i]? = some x) : x.ok K B H ∧ B x.p = none ∧ M x.p = none := w.l x (List.mem_of_getElem? h)
theorem Own.ne {i j : Nat} {x y : Cell} (w : Own K B M L H) (h : L[i]? = some x) (h' : L[j]? = some y) (hij : i ≠ j) : x.p ≠ y.p := fun e => hij (nodup_at w.nd (by rw [List.getElem?_map, h]; rfl) (by rw [List.getElem?_map, h']; exact congrArg some e.symm))
/-- a change in place -/
theorem Own.set {i : Nat} (w : Own K B M L H) (h : L[i]? = some ⟨p, c, a⟩) {β : Type} {c' : CRep β} {a' : β} (h' : c'.is K B o a') : Own K B M (L.set i ⟨p, c', a'⟩) (upd H p o) := by
  obtain ⟨_, hB, hM⟩ := w.at h
  have ek : (L.set i ⟨p, c', a'⟩).map (·.p) = L.map (·.p) := by
    rw [List.map_set]
    refine List.ext_getElem? fun j => ?_
    by_cases hij : i = j
    · subst hij
      have hl : i < (L.map (·.p)).length := by rw [List.length_map]; exact (List.getElem?_eq_some_iff.mp h).1
      rw [List.getElem?_set_self hl, List.getElem?_map, h]; rfl
    · rw [List.getElem?_set_ne hij]
  refine ⟨fun b u e => ?_, fun b u e => ?_, w.bm, fun x hx => ?_, ?_, fun P hP => ?_⟩
  rotate_right
  · obtain ⟨h1, h2, h3, h4⟩ := w.t P hP
    have ne : P ≠ p := fun e => h4 (by rw [e]; exact List.mem_map.mpr ⟨_, List.mem_of_getElem? h, rfl⟩)
    exact ⟨tab_upd h1 ne, h2, h3, by rw [ek]; exact h4⟩
  · rw [upd_ne (ne_of_none e hB)]; exact w.b b u e
  · rw [upd_ne (ne_of_none e hM)]; exact w.m b u e
  · obtain ⟨j, hj⟩ := List.getElem?_of_mem hx
    by_cases hij : i = j
    · subst hij
      have hl : i < L.length := (List.getElem?_eq_some_iff.mp h).1
      rw [List.getElem?_set_self hl] at hj
      cases hj
      exact ⟨⟨o, upd_same, h'⟩, hB, hM⟩
    · rw [List.getElem?_set_ne hij] at hj
      obtain ⟨⟨u, h1, h2⟩, h3, h4⟩ := w.at hj
      have ne : x.p ≠ p := w.ne hj h (Ne.symm hij)
      exact ⟨⟨u, by rw [upd_ne ne]; exact h1, h2⟩, h3, h4⟩
  · have e : (L.set i ⟨p, c', a'⟩).map (·.p) = L.map (·.p) := by
      rw [List.map_set]
      refine List.ext_getElem? fun j => ?_
      by_cases hij : i = j
      · subst hij
        have hl : i < (L.map (·.p)).length := by rw [List.length_map]; exact (List.getElem?_eq_some_iff.mp h).1
        rw [List.getElem?_set_self hl, List.getElem?_map, h]; rfl
      · rw [List.getElem?_set_ne hij]
    rw [e]; exact w.nd
theorem Own.perm {L' : List Cell} (w : Own K B M L H) (h : ∀ x ∈ L', x ∈ L) (nd : (L'.map (·.p)).Nodup) : Own K B M L' H := ⟨w.b, w.m, w.bm, fun x hx => w.l x (h x hx), nd, fun P hP => by
  obtain ⟨h1, h2, h3, h4⟩ := w.t P hP
  refine ⟨h1, h2, h3, fun z => h4 ?_⟩
  obtain ⟨x, hx, e⟩ := List.mem_map.mp z
  exact List.mem_map.mpr ⟨x, h x hx, e⟩⟩
theorem Own.erase (w : Own K B M L H) (i : Nat) : Own K B M (L.eraseIdx i) H := by
  refine w.perm (fun x hx => List.mem_of_mem_eraseIdx hx) ?_
  exact w.nd.sublist ((List.eraseIdx_sublist L i).map _)
theorem Own.tail {x : Cell} (w : Own K B M (x :: L) H) : Own K B M L H := w.erase 0
theorem Own.nil (w : Own K B M L H) : Own K B M [] H := w.perm (fun _ h => absurd h (by simp)) (by simp)
/-- what may change stays from now on -/
theorem Own.freeze {i : Nat} {x : Cell} (w : Own K B M L H) (h : L[i]? = some x) : ∃ o, H x.p = some o ∧ x.c.is K B o x.a ∧ B x.p = none ∧ Own K (upd B x.p o) M (L.eraseIdx i) H := by
  obtain ⟨⟨o, h1, h2⟩, hB, hM⟩ := w.at h
  refine ⟨o, h1, h2, hB, fun b u e => ?_, w.m, fun b => ?_, fun y hy => ?_, w.nd.sublist ((List.eraseIdx_sublist L i).map _), fun P hP => ?_⟩
  rotate_right
  · obtain ⟨t1, t2, t3, t4⟩ := w.t P hP
    have ne : P ≠ x.p := fun e => t4 (by rw [e]; exact List.mem_map.mpr ⟨_, List.mem_of_getElem? h, rfl⟩)
    exact ⟨t1, by rw [upd_ne ne]; exact t2, t3, fun z => t4 (((List.eraseIdx_sublist L i).map _).subset z)⟩
  · by_cases hb : b = x.p
    · rw [hb, upd_same] at e; rw [hb, h1]; exact e
    · rw [upd_ne hb] at e; exact w.b b u e
  · by_cases hb : b = x.p
    · right; rw [hb]; exact hM
    · rw [upd_ne hb]; exact w.bm b
  · obtain ⟨⟨u, h3, h4⟩, h5, h6⟩ := w.l y (List.mem_of_mem_eraseIdx hy)
    have ne : y.p ≠ x.p := by
      obtain ⟨j, hj, hne⟩ := List.mem_eraseIdx_iff_getElem?.mp hy
      exact w.ne hne h hj
    exact ⟨⟨u, h3, y.c.mono (Ex.new hB) h4⟩, by rw [upd_ne ne]; exact h5, h6⟩
/-- what is ours as a part of what is not ours -/
def absorb (M : Fr) (L : List Cell) (H : Hp) : Fr := ⟨fun a => if a ∈ L.map (·.p) then H a else M a, M.T⟩
theorem absorb_in {x : Cell} (h : x ∈ L) : absorb M L H x.p = H x.p := by
  exact if_pos (List.mem_map.mpr ⟨x, h, rfl⟩)
theorem absorb_out (h : p ∉ L.map (·.p)) : absorb M L H p = M p := by
  exact if_neg h
/-- L1 is lent, L2 is set aside -/
theorem Own.lend {L1 L2 : List Cell} (w : Own K B M L H) (h1 : ∀ x ∈ L1, x ∈ L) (h2 : ∀ x ∈ L2, x ∈ L) (nd1 : (L1.map (·.p)).Nodup) (dj : ∀ x ∈ L1, x.p ∉ L2.map (·.p)) : Own K B (absorb M L2 H) L1 H := by
  refine ⟨w.b, fun b u e => ?_, fun b => ?_, fun x hx => ?_, nd1, fun P hP => ?_⟩
  rotate_right
  · obtain ⟨t1, t2, t3, t4⟩ := w.t P hP
    have sub : ∀ {L' : List Cell}, (∀ x ∈ L', x ∈ L) → P ∉ L'.map (·.p) := fun {L'} hs z => by
      obtain ⟨x, hx, e⟩ := List.mem_map.mp z
      exact t4 (List.mem_map.mpr ⟨x, hs x hx, e⟩)
    exact ⟨t1, t2, by rw [absorb_out (sub h2)]; exact t3, sub h1⟩
  · by_cases hb : b ∈ L2.map (·.p)
    · have e : (if b ∈ L2.map (·.p) then H b else M b) = some u := e; rw [if_pos hb] at e; exact e
    · rw [absorb_out hb] at e; exact w.m b u e
  · by_cases hb : b ∈ L2.map (·.p)
    · left
      obtain ⟨x, hx, rfl⟩ := List.mem_map.mp hb
      exact (w.l x (h2 x hx)).2.1
    · rw [absorb_out hb]; exact w.bm b
  · obtain ⟨a1, a2, a3⟩ := w.l x (h1 x hx)
    refine ⟨a1, a2, ?_⟩
    rw [absorb_out (dj x hx)]; exact a3
/-- it comes back changed -/
theorem Own.back {L1' L2 : List Cell} (w : Own K B M L H) (h2 : ∀ x ∈ L2, x ∈ L) (nd2 : (L2.map (·.p)).Nodup) (e : Ex B B') (w' : Own K B' (absorb M L2 H) L1' H') (dj : ∀ x ∈ L1', x.p ∉ L2.map (·.p)) : Own K B' M (L1' ++ L2) H' := by
  have inL : ∀ x ∈ L2, ∃ o, H x.p = some o ∧ H' x.p = some o ∧ x.c.is K B o x.a := fun x hx => by
    obtain ⟨⟨o, a1, a2⟩, _⟩ := w.l x (h2 x hx)
    exact ⟨o, a1, w'.m x.p o (by rw [absorb_in hx]; exact a1), a2⟩
  have Min : ∀ b u, M b = some u → b ∉ L2.map (·.p) := fun b u hm hb => by
    obtain ⟨x, hx, rfl⟩ := List.mem_map.mp hb
    rw [(w.l x (h2 x hx)).2.2] at hm
    cases hm
  refine ⟨w'.b, fun b u hm => w'.m b u (by rw [absorb_out (Min b u hm)]; exact hm), fun b => ?_, fun x hx => ?_, ?_, fun P hP => ?_⟩
  rotate_right
  · obtain ⟨t1, t2, t3, t4⟩ := w.t P hP
    obtain ⟨s1, s2, s3, s4⟩ := w'.t P hP
    refine ⟨s1, s2, t3, fun z => ?_⟩
    rw [List.map_append, List.mem_append] at z
    rcases z with z | z
    · exact s4 z
    · obtain ⟨x, hx, e⟩ := List.mem_map.mp z
      exact t4 (List.mem_map.mpr ⟨x, h2 x hx, e⟩)
  · rcases w'.bm b with h | h
    · exact .inl h
    · right
      by_cases hb : b ∈ L2.map (·.p)
      · obtain ⟨x, hx, rfl⟩ := List.mem_map.mp hb
        exact (w.l x (h2 x hx)).2.2
      · rw [absorb_out hb] at h; exact h
  · rcases List.mem_append.mp hx with hx | hx
    · obtain ⟨a1, a2, a3⟩ := w'.l x hx
      refine ⟨a1, a2, ?_⟩
      rw [absorb_out (dj x hx)] at a3; exact a3
    · obtain ⟨o, a1, a2, a3⟩ := inL x hx
      refine ⟨⟨o, a2, x.c.mono e a3⟩, ?_, (w.l x (h2 x hx)).2.2⟩
      rcases w'.bm x.p with h | h
      · exact h
      · rw [absorb_in hx, a1] at h; cases h
  · rw [List.map_append, List.nodup_append]
    refine ⟨w'.nd, nd2, fun a ha b hb hab => ?_⟩
    obtain ⟨x, hx, rfl⟩ := List.mem_map.mp ha
    exact dj x hx (by rw [hab]; exact hb)
end
end L3

namespace L3
open PySem L2
open Evl (Ex ex_rd ex_l ex_t sq_of st_of fresh_back)

/-! ### what an expression gives -/
def EV (K : Fg) (M : Fr) {α : Type} (te : TE) (σ : St) (B : Hp) (L : List Cell) (r : Rep α) (a : α) (L' : List Cell) : Prop :=
  ∀ B1 H, Ex B B1 → Own K B1 M L H → ∀ Q : VK, (∀ v B2 H2, Ex B1 B2 → Own K B2 M L' H2 → r.is K B2 v a → Q v H2) → te σ H Q
/-- a new list that may change -/
def EVL (K : Fg) (M : Fr) {α : Type} (te : TE) (σ : St) (B : Hp) (L : List Cell) (r : Rep α) (as : List α) (L' : List Cell) : Prop :=
  ∀ B1 H, Ex B B1 → Own K B1 M L H → ∀ Q : VK, (∀ p B2 H2, Ex B1 B2 → Own K B2 M (⟨p, cLst r, as⟩ :: L') H2 → Q (.ref p) H2) → te σ H Q
def ET (K : Fg) (M : Fr) (tt : TT) (σ : St) (B : Hp) (L : List Cell) (b : Bool) (L' : List Cell) : Prop :=
  ∀ B1 H, Ex B B1 → Own K B1 M L H → ∀ Q : Bool → Hp → Prop, (∀ B2 H2, Ex B1 B2 → Own K B2 M L' H2 → Q b H2) → tt σ H Q
structure Arg : Type 1 where
  {α : Type}
  r : Rep α
  a : α
def Arg.is (K : Fg) (B : Hp) (v : V) (x : Arg) : Prop := x.r.is K B v x.a
def ArgsIs (K : Fg) (B : Hp) : List V → List Arg → Prop
  | [], [] => True
  | v :: vs, a :: as => a.is K B v ∧ ArgsIs K B vs as
  | _, _ => False
theorem args_mono {K : Fg} {B B' : Hp} (e : Ex B B') : ∀ {vs : List V} {as : List Arg}, ArgsIs K B vs as → ArgsIs K B' vs as
  | [], [], _ => trivial
  | _ :: _, a :: _, h => ⟨a.r.mono e h.1, args_mono e h.2⟩
  | [], _ :: _, h => h
  | _ :: _, [], h => h
def EA (K : Fg) (M : Fr) (ta : TA) (σ : St) (B : Hp) (L : List Cell) (as : List Arg) (L' : List Cell) : Prop :=
  ∀ B1 H, Ex B B1 → Own K B1 M L H → ∀ Q : List V → Hp → Prop, (∀ vs B2 H2, Ex B1 B2 → Own K B2 M L' H2 → ArgsIs K B2 vs as → Q vs H2) → ta σ H Q

/-! ### partial operations of the mirrors -/
theorem bindS {α β : Type} {o : Option α} {f : α → Option β} {b : β} (h : Option.bind o f = some b) : ∃ a, o = some a ∧ f a = some b := by
  cases o with
  | none => cases h
  | some a => exact ⟨a, rfl, h⟩
def CMulX (i j : Int) : Prop := ((-(2 ^ 64) < i ∧ i < 2 ^ 64) ∨ (-(2 ^ 64) < j ∧ j < 2 ^ 64)) ∨ i.natAbs.log2 + j.natAbs.log2 < 1000000
instance (i j : Int) : Decidable (CMulX i j) := by unfold CMulX; infer_instance
theorem op_mulX {X : Cx} : OpR X (binaryOp .Mult) (rI CMulX fun i j => .int (i * j)) := opI fun _ _ _ _ _ _ _ hc q => PyProof.Rows.mul_int q (Or.elim hc CMul.ok CMulW.ok)
def mulI (i j : Int) : Option Int := if CMulX i j then some (i * j) else none
def divI (i j : Int) : Option Int := if 0 < j ∧ j.natAbs.log2 < 9000 then some (i / j) else none
def modI (i j : Int) : Option Int := if 0 < j then some (i % j) else none
def powI (i j : Int) : Option Int := if 0 ≤ j ∧ j ≤ 1000000 ∧ i.natAbs < 2 ^ 64 then some (i ^ j.toNat) else none
def ixL {α : Type} (xs : List α) (i : Int) : Option α := atI xs i
def room (n : Nat) : Option Unit := if n < sizeLine then some () else none
theorem mulI_some {i j k : Int} (h : mulI i j = some k) : CMulX i j ∧ k = i * j := by
  unfold mulI at h
  split at h
  · rename_i hc; exact ⟨hc, (Option.some.inj h).symm⟩
  · cases h
theorem divI_some {i j k : Int} (h : divI i j = some k) : CDivW i j ∧ k = i / j := by
  unfold divI at h
  split at h
  · rename_i hc; exact ⟨hc, (Option.some.inj h).symm⟩
  · cases h
theorem modI_some {i j k : Int} (h : modI i j = some k) : 0 < j ∧ k = i % j := by
  unfold modI at h
  split at h
  · rename_i hc; exact ⟨hc, (Option.some.inj h).symm⟩
  · cases h
theorem powI_some {i j k : Int} (h : powI i j = some k) : CPow i j ∧ k = i ^ j.toNat := by
  unfold powI at h
  split at h
  · rename_i hc; exact ⟨hc, (Option.some.inj h).symm⟩
  · cases h
theorem room_some {n : Nat} {u : Unit} (h : room n = some u) : n < sizeLine := by
  unfold room at h
  split at h
  · rename_i hc; exact hc
  · cases h
/-- an index in the mirror's list is one in the heap's -/
theorem atI_paired {α : Type} {F : V → α → Prop} {xs : List V} {as : List α} {i : Int} {a : α} (h : Paired F xs as) (e : atI as i = some a) : ∃ x, atI xs i = some x ∧ F x a := by
  unfold atI at e ⊢
  rw [paired_len h]
  revert e
  cases ixN as.length i with
  | none => intro e; simp at e
  | some j => intro e; exact paired_get h (by simpa using e)

section
variable {K : Fg} {M : Fr} {σ : St} {B : Hp} {L L1 L2 L' : List Cell} {α β γ δ : Type} {r : Rep α} {s : Rep β} {t : Rep γ} {ta tb tc te : TE} {tt tu : TT} {tA : TA} {i j k : Int} {b c : Bool}
/-! ### expressions -/
theorem ev_var {n : Nat} {v : V} {a : α} (h : σ[n]? = some (some v)) (hr : r.is K B v a) : EV K M (tVar n) σ B L r a L := fun B1 H e w Q q => ⟨v, h, q v B1 H (Ex.refl _) w (r.mono e hr)⟩
theorem ev_varI {n : Nat} {v : V} (h : σ[n]? = some (some v)) (hr : v = .int i) : EV K M (tVar n) σ B L rInt i L := ev_var h hr
theorem ev_varB {n : Nat} {v : V} (h : σ[n]? = some (some v)) (hr : v = .bl b) : EV K M (tVar n) σ B L rBool b L := ev_var h hr
theorem ev_varS {n : Nat} {v : V} {x : Str} (h : σ[n]? = some (some v)) (hr : v = .str x) : EV K M (tVar n) σ B L rStr x L := ev_var h hr
theorem ev_varR {n : Nat} {p : Addr} (h : σ[n]? = some (some (.ref p))) : EV K M (tVar n) σ B L rRef p L := ev_var h rfl
theorem ev_k {v : V} {a : α} (hr : ∀ B, r.is K B v a) : EV K M (tC v) σ B L r a L := fun B1 H e w Q q => q v B1 H (Ex.refl _) w (hr B1)
theorem ev_int : EV K M (tC (.int i)) σ B L rInt i L := ev_k fun _ => rfl
theorem ev_bl : EV K M (tC (.bl b)) σ B L rBool b L := ev_k fun _ => rfl
theorem ev_str {x : Str} : EV K M (tC (.str x)) σ B L rStr x L := ev_k fun _ => rfl
theorem ev_non : EV K M (tC .non) σ B L (rOpt r) none L := ev_k fun _ => rfl
theorem ev_as {a : α} {b : β} (h : EV K M te σ B L r a L') (f : ∀ B v, r.is K B v a → s.is K B v b) : EV K M te σ B L s b L' := fun B1 H e w Q q => h B1 H e w Q fun v B2 H2 e2 w2 h2 => q v B2 H2 e2 w2 (f _ _ h2)
theorem ev_seqT {as : List α} (h : EV K M te σ B L (rTup r) as L') : EV K M te σ B L (rSeq r) as L' := ev_as h fun _ _ => rTup_seq
theorem ev_seqS {as : List α} (h : EV K M te σ B L (rScr r) as L') : EV K M te σ B L (rSeq r) as L' := ev_as h fun _ _ => rScr_seq
theorem ev_scr {as : List α} (h : EV K M te σ B L (rLst r) as L') : EV K M te σ B L (rScr r) as L' := ev_as h fun _ _ => rl_sc
theorem ev_seqL {as : List α} (h : EV K M te σ B L (rLst r) as L') : EV K M te σ B L (rSeq r) as L' := ev_as h fun _ _ => rLst_seq
theorem ev_sm {a : α} (h : EV K M te σ B L r a L') : EV K M te σ B L (rOpt r) (some a) L' := ev_as h fun _ _ h => h
/-- a new list, left as it is -/
theorem ev_frz {as : List α} (h : EVL K M te σ B L r as L') : EV K M te σ B L (rLst r) as L' := fun B1 H e w Q q => h B1 H e w Q fun p B2 H2 e2 w2 => by
  obtain ⟨o, h1, ⟨xs, h2, h3⟩, h4, w3⟩ := w2.freeze (i := 0) rfl
  have h4 : B2 p = none := h4
  have e3 : Ex B2 (upd B2 p o) := Ex.new h4
  refine q _ (upd B2 p o) H2 (e2.trans e3) w3 ⟨p, xs, rfl, ?_, paired_mono e3 h3⟩
  rw [upd_same, h2]
/-- two values, one operation -/
theorem ev_op {R : R2} {a : α} {b : β} {c : γ} (ha : EV K M ta σ B L r a L1) (hb : EV K M tb σ B L1 s b L2)
    (h : ∀ B1 H1 x y (Q : VK), Own K B1 M L2 H1 → r.is K B1 x a → s.is K B1 y b → (∀ v, t.is K B1 v c → Q v H1) → R x y H1 Q) : EV K M (tOp R ta tb) σ B L t c L2 := fun B1 H e w Q q =>
  ha B1 H e w _ fun x B2 H2 e2 w2 hx => hb B2 H2 (e.trans e2) w2 _ fun y B3 H3 e3 w3 hy => h B3 H3 x y Q w3 (r.mono e3 hx) hy fun v hv => q v B3 H3 (e2.trans e3) w3 hv
theorem ev_un {R : V → Hp → VK → Prop} {a : α} {c : γ} (ha : EV K M ta σ B L r a L1) (h : ∀ B1 H1 x (Q : VK), Own K B1 M L1 H1 → r.is K B1 x a → (∀ v, t.is K B1 v c → Q v H1) → R x H1 Q) : EV K M (tUn R ta) σ B L t c L1 := fun B1 H e w Q q =>
  ha B1 H e w _ fun x B2 H2 e2 w2 hx => h B2 H2 x Q w2 hx fun v hv => q v B2 H2 e2 w2 hv
theorem ev_I0 {g : Int → Int → Int} (ha : EV K M ta σ B L rInt i L1) (hb : EV K M tb σ B L1 rInt j L2) : EV K M (tOp (rI0 fun i j => .int (g i j)) ta tb) σ B L rInt (g i j) L2 :=
  ev_op ha hb fun _ _ _ _ _ _ hx hy q => ⟨i, j, hx, hy, q _ rfl⟩
theorem ev_B0 {g : Int → Int → Bool} (ha : EV K M ta σ B L rInt i L1) (hb : EV K M tb σ B L1 rInt j L2) : EV K M (tOp (rI0 fun i j => .bl (g i j)) ta tb) σ B L rBool (g i j) L2 :=
  ev_op ha hb fun _ _ _ _ _ _ hx hy q => ⟨i, j, hx, hy, q _ rfl⟩
theorem ev_mul (ha : EV K M ta σ B L rInt i L1) (hb : EV K M tb σ B L1 rInt j L2) (h : mulI i j = some k) : EV K M (tOp (rI CMulX fun i j => .int (i * j)) ta tb) σ B L rInt k L2 :=
  ev_op ha hb fun _ _ _ _ _ _ hx hy q => ⟨i, j, hx, hy, (mulI_some h).1, q _ (by rw [(mulI_some h).2]; rfl)⟩
theorem ev_div (ha : EV K M ta σ B L rInt i L1) (hb : EV K M tb σ B L1 rInt j L2) (h : divI i j = some k) : EV K M (tOp (rI CDivW fun i j => .int (i / j)) ta tb) σ B L rInt k L2 :=
  ev_op ha hb fun _ _ _ _ _ _ hx hy q => ⟨i, j, hx, hy, (divI_some h).1, q _ (by rw [(divI_some h).2]; rfl)⟩
theorem ev_mod (ha : EV K M ta σ B L rInt i L1) (hb : EV K M tb σ B L1 rInt j L2) (h : modI i j = some k) : EV K M (tOp (rI (fun _ j => 0 < j) fun i j => .int (i % j)) ta tb) σ B L rInt k L2 :=
  ev_op ha hb fun _ _ _ _ _ _ hx hy q => ⟨i, j, hx, hy, (modI_some h).1, q _ (by rw [(modI_some h).2]; rfl)⟩
theorem ev_pow (ha : EV K M ta σ B L rInt i L1) (hb : EV K M tb σ B L1 rInt j L2) (h : powI i j = some k) : EV K M (tOp (rI CPow fun i j => .int (i ^ j.toNat)) ta tb) σ B L rInt k L2 :=
  ev_op ha hb fun _ _ _ _ _ _ hx hy q => ⟨i, j, hx, hy, (powI_some h).1, q _ (by rw [(powI_some h).2]; rfl)⟩
theorem ev_neg (ha : EV K M ta σ B L rInt i L1) : EV K M (tUn (rU fun i => .int (-i)) ta) σ B L rInt (-i) L1 := ev_un ha fun _ _ _ _ _ hx q => ⟨i, hx, q _ rfl⟩
theorem ev_eqI (ha : EV K M ta σ B L rInt i L1) (hb : EV K M tb σ B L1 rInt j L2) : EV K M (tOp rEq ta tb) σ B L rBool (decide (i = j)) L2 :=
  ev_op ha hb fun _ _ _ _ _ _ hx hy q => by
    have hx : _ = V.int i := hx
    have hy : _ = V.int j := hy
    subst hx hy
    exact ⟨rfl, q _ (by show V.bl _ = V.bl _; congr 1; simp)⟩
theorem ev_neI (ha : EV K M ta σ B L rInt i L1) (hb : EV K M tb σ B L1 rInt j L2) : EV K M (tOp rNe ta tb) σ B L rBool (!decide (i = j)) L2 :=
  ev_op ha hb fun _ _ _ _ _ _ hx hy q => by
    have hx : _ = V.int i := hx
    have hy : _ = V.int j := hy
    subst hx hy
    exact ⟨rfl, q _ (by show V.bl _ = V.bl _; congr 1; simp)⟩
theorem ev_eqS {x y : Str} (ha : EV K M ta σ B L rStr x L1) (hb : EV K M tb σ B L1 rStr y L2) : EV K M (tOp rEq ta tb) σ B L rBool (decide (x = y)) L2 :=
  ev_op ha hb fun _ _ _ _ _ _ hx hy q => by
    have hx : _ = V.str x := hx
    have hy : _ = V.str y := hy
    subst hx hy
    exact ⟨rfl, q _ (by show V.bl _ = V.bl _; congr 1; simp)⟩
theorem ev_neS {x y : Str} (ha : EV K M ta σ B L rStr x L1) (hb : EV K M tb σ B L1 rStr y L2) : EV K M (tOp rNe ta tb) σ B L rBool (!decide (x = y)) L2 :=
  ev_op ha hb fun _ _ _ _ _ _ hx hy q => by
    have hx : _ = V.str x := hx
    have hy : _ = V.str y := hy
    subst hx hy
    exact ⟨rfl, q _ (by show V.bl _ = V.bl _; congr 1; simp)⟩
theorem ev_eqB {x y : Bool} (ha : EV K M ta σ B L rBool x L1) (hb : EV K M tb σ B L1 rBool y L2) : EV K M (tOp rEq ta tb) σ B L rBool (decide (x = y)) L2 :=
  ev_op ha hb fun _ _ _ _ _ _ hx hy q => by
    have hx : _ = V.bl x := hx
    have hy : _ = V.bl y := hy
    subst hx hy
    exact ⟨rfl, q _ (by show V.bl _ = V.bl _; congr 1; simp)⟩
/-- x is None -/
theorem ev_isN {a : Option α} (ha : EV K M ta σ B L (rOpt r) a L1) (hn : ∀ B v x, r.is K B v x → v ≠ .non) : EV K M (tIsN ta) σ B L rBool a.isNone L1 := fun B1 H e w Q q =>
  ha B1 H e w _ fun x B2 H2 e2 w2 hx => q _ B2 H2 e2 w2 (by
    show V.bl _ = V.bl _
    congr 1
    cases a with
    | none => exact decide_eq_true (show x = V.non from hx)
    | some a => exact decide_eq_false (hn _ _ _ hx))
theorem ev_notN {a : Option α} (ha : EV K M ta σ B L (rOpt r) a L1) (hn : ∀ B v x, r.is K B v x → v ≠ .non) : EV K M (tNotN ta) σ B L rBool a.isSome L1 := fun B1 H e w Q q =>
  ha B1 H e w _ fun x B2 H2 e2 w2 hx => q _ B2 H2 e2 w2 (by
    show V.bl _ = V.bl _
    congr 1
    cases a with
    | none => rw [decide_eq_true (show x = V.non from hx)]; rfl
    | some a => rw [decide_eq_false (hn _ _ _ hx)]; rfl)
/-! ### tuples and lists -/
theorem ea_nil : EA K M tNil σ B L [] L := fun B1 H e w Q q => q [] B1 H (Ex.refl _) w trivial
theorem ea_cons {a : α} {as : List Arg} (ha : EV K M ta σ B L r a L1) (hr : EA K M tA σ B L1 as L2) : EA K M (tCons ta tA) σ B L (⟨r, a⟩ :: as) L2 := fun B1 H e w Q q =>
  ha B1 H e w _ fun x B2 H2 e2 w2 hx => hr B2 H2 (e.trans e2) w2 _ fun vs B3 H3 e3 w3 hvs => q (x :: vs) B3 H3 (e2.trans e3) w3 ⟨r.mono e3 hx, hvs⟩
theorem ev_T2 {a : α} {b : β} (h : EA K M tA σ B L [⟨r, a⟩, ⟨s, b⟩] L') : EV K M (tTup tA) σ B L (rT2 r s) (a, b) L' := fun B1 H e w Q q =>
  h B1 H e w _ fun vs B2 H2 e2 w2 hv => by
    match vs, hv with
    | [_, _], ⟨h1, h2, _⟩ => exact ⟨by show 2 ≤ sizeLine; decide, fun p hp => q _ (upd B2 p _) _ (e2.trans (Ex.new (fresh_back w2.b hp))) (w2.ext hp) ⟨p, _, _, rfl, st_of upd_same, r.mono (Ex.new (fresh_back w2.b hp)) h1, s.mono (Ex.new (fresh_back w2.b hp)) h2⟩⟩
theorem ev_T3 {a : α} {b : β} {c : γ} (h : EA K M tA σ B L [⟨r, a⟩, ⟨s, b⟩, ⟨t, c⟩] L') : EV K M (tTup tA) σ B L (rT3 r s t) (a, b, c) L' := fun B1 H e w Q q =>
  h B1 H e w _ fun vs B2 H2 e2 w2 hv => by
    match vs, hv with
    | [_, _, _], ⟨h1, h2, h3, _⟩ => exact ⟨by show 3 ≤ sizeLine; decide, fun p hp => q _ (upd B2 p _) _ (e2.trans (Ex.new (fresh_back w2.b hp))) (w2.ext hp) ⟨p, _, _, _, rfl, st_of upd_same, r.mono (Ex.new (fresh_back w2.b hp)) h1, s.mono (Ex.new (fresh_back w2.b hp)) h2, t.mono (Ex.new (fresh_back w2.b hp)) h3⟩⟩
theorem homog : ∀ {as : List α} {vs : List V}, ArgsIs K B vs (as.map (Arg.mk r)) → Paired (r.is K B) vs as
  | [], [], _ => .nil
  | _ :: _, _ :: _, h => .cons h.1 (homog h.2)
  | [], _ :: _, h => h.elim
  | _ :: _, [], h => h.elim
theorem ev_tup (as : List α) (h : EA K M tA σ B L (as.map (Arg.mk r)) L') (hl : Nat.ble as.length 100000 = true := by rfl) : EV K M (tTup tA) σ B L (rTup r) as L' := fun B1 H e w Q q =>
  h B1 H e w _ fun vs B2 H2 e2 w2 hv => ⟨by rw [paired_len (homog hv)]; exact Evl.sz_of (Nat.le_of_ble_eq_true hl), fun p hp => q _ (upd B2 p _) _ (e2.trans (Ex.new (fresh_back w2.b hp))) (w2.ext hp) ⟨p, _, rfl, st_of upd_same, paired_mono (Ex.new (fresh_back w2.b hp)) (homog hv)⟩⟩
theorem el_lst (as : List α) (h : EA K M tA σ B L (as.map (Arg.mk r)) L') (hl : Nat.ble as.length 100000 = true := by rfl) : EVL K M (tLst tA) σ B L r as L' := fun B1 H e w Q q =>
  h B1 H e w _ fun vs B2 H2 e2 w2 hv => ⟨by rw [paired_len (homog hv)]; exact Evl.sz_of (Nat.le_of_ble_eq_true hl), fun p hp => q p B2 _ e2 (w2.new hp ⟨vs, rfl, homog hv⟩)⟩
theorem ev_fst {a : α × β} (ha : EV K M ta σ B L (rT2 r s) a L1) : EV K M (tOp (rIx K) ta (tC (.int 0))) σ B L r a.1 L1 := fun B1 H e w Q q =>
  ha B1 H e w _ fun x B2 H2 e2 w2 hx => by
    obtain ⟨p, x0, x1, rfl, hs, h0, h1⟩ := hx
    exact .inr (.inl ⟨p, _, 0, x0, rfl, rfl, ex_t w2.b hs, rfl, q _ B2 H2 e2 w2 h0⟩)
theorem ev_snd {a : α × β} (ha : EV K M ta σ B L (rT2 r s) a L1) : EV K M (tOp (rIx K) ta (tC (.int 1))) σ B L s a.2 L1 := fun B1 H e w Q q =>
  ha B1 H e w _ fun x B2 H2 e2 w2 hx => by
    obtain ⟨p, x0, x1, rfl, hs, h0, h1⟩ := hx
    exact .inr (.inl ⟨p, _, 1, x1, rfl, rfl, ex_t w2.b hs, rfl, q _ B2 H2 e2 w2 h1⟩)
theorem ev_ix {xs : List α} {a : α} (ha : EV K M ta σ B L (rSeq r) xs L1) (hb : EV K M tb σ B L1 rInt i L2) (h : ixL xs i = some a) : EV K M (tOp (rIx K) ta tb) σ B L r a L2 :=
  ev_op ha hb fun B1 H1 x y Q w hx hy q => by
    obtain ⟨p, vs, rfl, hs, hv⟩ := hx
    obtain ⟨x, e, hx⟩ := atI_paired hv h
    rcases hs with hs | hs
    · exact .inl ⟨p, vs, i, x, rfl, hy, ex_l w.b hs, e, q _ hx⟩
    · exact .inr (.inl ⟨p, vs, i, x, rfl, hy, ex_t w.b hs, e, q _ hx⟩)
/-- of a list that may change -/
theorem ev_ixC {n : Nat} {p : Addr} {xs : List α} {a : α} (ha : EV K M ta σ B L rRef p L1) (hb : EV K M tb σ B L1 rInt i L2) (hc : L2[n]? = some ⟨p, cLst r, xs⟩) (h : ixL xs i = some a) : EV K M (tOp (rIx K) ta tb) σ B L r a L2 :=
  ev_op ha hb fun B1 H1 x y Q w hx hy q => by
    obtain ⟨⟨o, h1, vs, h2, hv⟩, _⟩ := w.at hc
    obtain ⟨x, e, hx'⟩ := atI_paired hv h
    exact .inl ⟨p, vs, i, x, hx, hy, sq_of (by rw [h1, h2]), e, q _ hx'⟩
def rLen (K : Fg) : List V → Hp → VK → Prop := fun xs H Q => ∃ p ys, xs = [.ref p] ∧ (SqL K H p ys ∨ SqT K H p ys) ∧ Q (.int ys.length) H
theorem ev_cb {R : List V → Hp → VK → Prop} {as : List Arg} {c : γ} (ha : EA K M tA σ B L as L1) (h : ∀ B1 H1 vs (Q : VK), Own K B1 M L1 H1 → ArgsIs K B1 vs as → (∀ v, t.is K B1 v c → Q v H1) → R vs H1 Q) : EV K M (tCB R tA) σ B L t c L1 := fun B1 H e w Q q =>
  ha B1 H e w _ fun vs B2 H2 e2 w2 hv => h B2 H2 vs Q w2 hv fun v hr => q v B2 H2 e2 w2 hr
theorem ev_cb1 {R : List V → Hp → VK → Prop} {a : α} {c : γ} (ha : EV K M ta σ B L r a L1) (h : ∀ B1 H1 x (Q : VK), Own K B1 M L1 H1 → r.is K B1 x a → (∀ v, t.is K B1 v c → Q v H1) → R [x] H1 Q) : EV K M (tCB R (tCons ta tNil)) σ B L t c L1 := fun B1 H e w Q q =>
  ha B1 H e w _ fun v B2 H2 e2 w2 hv => h B2 H2 v Q w2 hv fun v hr => q v B2 H2 e2 w2 hr
theorem ev_len {xs : List α} (ha : EV K M ta σ B L (rSeq r) xs L1) : EV K M (tCB (rLen K) (tCons ta tNil)) σ B L rInt (xs.length : Int) L1 :=
  ev_cb1 ha fun B1 H1 x Q w hx q => by
    obtain ⟨p, vs, rfl, hs, hv⟩ := hx
    exact ⟨p, vs, rfl, hs.imp (ex_l w.b) (ex_t w.b), q _ (by rw [paired_len hv]; rfl)⟩
theorem ev_lenC {n : Nat} {p : Addr} {xs : List α} (ha : EV K M ta σ B L rRef p L1) (hc : L1[n]? = some ⟨p, cLst r, xs⟩) : EV K M (tCB (rLen K) (tCons ta tNil)) σ B L rInt (xs.length : Int) L1 :=
  ev_cb1 ha fun B1 H1 x Q w hx q => by
    obtain ⟨⟨o, h1, vs, h2, hv⟩, _⟩ := w.at hc
    have h1 : H1 p = some o := h1
    exact ⟨p, vs, congrArg (fun z => [z]) hx, .inl (sq_of (by rw [h1, h2])), q _ (by rw [paired_len hv]; rfl)⟩
theorem ev_abs (ha : EV K M ta σ B L rInt i L1) : EV K M (tCB (fun xs H Q => ∃ i, xs = [.int i] ∧ Q (.int (if i < 0 then -i else i)) H) (tCons ta tNil)) σ B L rInt (if i < 0 then -i else i) L1 :=
  ev_cb1 ha fun B1 H1 x Q w hx q => ⟨i, congrArg (fun z => [z]) hx, q _ rfl⟩
def rInt1 : List V → Hp → VK → Prop := fun xs H Q => (∃ i, xs = [.int i] ∧ Q (.int i) H) ∨ ∃ k, xs = [.bl k] ∧ Q (.int (if k then 1 else 0)) H
theorem ev_intI (ha : EV K M ta σ B L rInt i L1) : EV K M (tCB rInt1 (tCons ta tNil)) σ B L rInt i L1 := ev_cb1 ha fun B1 H1 x Q w hx q => .inl ⟨i, congrArg (fun z => [z]) hx, q _ rfl⟩
theorem ev_intB (ha : EV K M ta σ B L rBool b L1) : EV K M (tCB rInt1 (tCons ta tNil)) σ B L rInt (if b then 1 else 0) L1 := ev_cb1 ha fun B1 H1 x Q w hx q => .inr ⟨b, congrArg (fun z => [z]) hx, q _ rfl⟩
theorem ev_gcd (ha : EV K M ta σ B L rInt i L1) (hb : EV K M tb σ B L1 rInt j L2) : EV K M (tCB rGcd (tCons ta (tCons tb tNil))) σ B L rInt ((Nat.gcd i.natAbs j.natAbs : Nat) : Int) L2 :=
  ev_cb (ea_cons ha (ea_cons hb ea_nil)) fun B1 H1 vs Q w hv q => by
    match vs, hv with
    | [_, _], ⟨h1, h2, _⟩ => exact ⟨i, j, by rw [show _ = V.int i from h1, show _ = V.int j from h2], q _ rfl⟩
/-! ### tests, and, or, not -/
theorem et_test (h : EV K M te σ B L rBool b L') : ET K M (tTest te) σ B L b L' := fun B1 H e w Q q => h B1 H e w _ fun v B2 H2 e2 w2 hv => ⟨b, hv, q B2 H2 e2 w2⟩
theorem et_B (h : EV K M te σ B L rBool b L') : ET K M (tB te) σ B L b L' := fun B1 H e w Q q => h B1 H e w _ fun v B2 H2 e2 w2 hv => ⟨b, hv, q B2 H2 e2 w2⟩
theorem et_not (h : ET K M tt σ B L b L') : ET K M (tNot tt) σ B L (!b) L' := fun B1 H e w Q q => h B1 H e w _ fun B2 H2 e2 w2 => q B2 H2 e2 w2
theorem et_and {b c : Bool} (h1 : ET K M tt σ B L b L1) (h2 : b = true → ET K M tu σ B L1 c L1) : ET K M (tAnd tt tu) σ B L (b && c) L1 := fun B1 H e w Q q => h1 B1 H e w _ fun B2 H2 e2 w2 => by
  cases b with
  | true => exact h2 rfl B2 H2 (e.trans e2) w2 Q fun B3 H3 e3 w3 => q B3 H3 (e2.trans e3) w3
  | false => exact q B2 H2 e2 w2
theorem et_or {b c : Bool} (h1 : ET K M tt σ B L b L1) (h2 : b = false → ET K M tu σ B L1 c L1) : ET K M (tOr tt tu) σ B L (b || c) L1 := fun B1 H e w Q q => h1 B1 H e w _ fun B2 H2 e2 w2 => by
  cases b with
  | true => exact q B2 H2 e2 w2
  | false => exact h2 rfl B2 H2 (e.trans e2) w2 Q fun B3 H3 e3 w3 => q B3 H3 (e2.trans e3) w3
/-- where the right side changes things -/
theorem et_and' {b d : Bool} (h1 : ET K M tt σ B L b L1) (h2 : b = true → ET K M tu σ B L1 d L2) (h3 : b = false → d = false ∧ L2 = L1) : ET K M (tAnd tt tu) σ B L d L2 := fun B1 H e w Q q => h1 B1 H e w _ fun B2 H2 e2 w2 => by
  cases b with
  | true => exact h2 rfl B2 H2 (e.trans e2) w2 Q fun B3 H3 e3 w3 => q B3 H3 (e2.trans e3) w3
  | false => obtain ⟨rfl, rfl⟩ := h3 rfl; exact q B2 H2 e2 w2
theorem et_or' {b d : Bool} (h1 : ET K M tt σ B L b L1) (h2 : b = false → ET K M tu σ B L1 d L2) (h3 : b = true → d = true ∧ L2 = L1) : ET K M (tOr tt tu) σ B L d L2 := fun B1 H e w Q q => h1 B1 H e w _ fun B2 H2 e2 w2 => by
  cases b with
  | true => obtain ⟨rfl, rfl⟩ := h3 rfl; exact q B2 H2 e2 w2
  | false => exact h2 rfl B2 H2 (e.trans e2) w2 Q fun B3 H3 e3 w3 => q B3 H3 (e2.trans e3) w3
theorem ev_andV {b d : Bool} (h1 : EV K M ta σ B L rBool b L1) (h2 : b = true → EV K M tb σ B L1 rBool d L2) (h3 : b = false → d = false ∧ L2 = L1) : EV K M (tAndV ta tb) σ B L rBool d L2 := fun B1 H e w Q q => h1 B1 H e w _ fun x B2 H2 e2 w2 hx => ⟨b, hx, by
  cases b with
  | true => exact h2 rfl B2 H2 (e.trans e2) w2 Q fun v B3 H3 e3 w3 hv => q v B3 H3 (e2.trans e3) w3 hv
  | false => obtain ⟨rfl, rfl⟩ := h3 rfl; exact q _ B2 H2 e2 w2 rfl⟩
theorem ev_orV {b d : Bool} (h1 : EV K M ta σ B L rBool b L1) (h2 : b = false → EV K M tb σ B L1 rBool d L2) (h3 : b = true → d = true ∧ L2 = L1) : EV K M (tOrV ta tb) σ B L rBool d L2 := fun B1 H e w Q q => h1 B1 H e w _ fun x B2 H2 e2 w2 hx => ⟨b, hx, by
  cases b with
  | true => obtain ⟨rfl, rfl⟩ := h3 rfl; exact q _ B2 H2 e2 w2 rfl
  | false => exact h2 rfl B2 H2 (e.trans e2) w2 Q fun v B3 H3 e3 w3 hv => q v B3 H3 (e2.trans e3) w3 hv⟩
theorem ev_notV (h : EV K M ta σ B L rBool b L1) : EV K M (tNotV ta) σ B L rBool (!b) L1 := fun B1 H e w Q q => h B1 H e w _ fun x B2 H2 e2 w2 hx => ⟨b, hx, q _ B2 H2 e2 w2 rfl⟩
theorem ev_if {a : α} (h : ET K M tt σ B L b L1) (h1 : b = true → EV K M ta σ B L1 r a L2) (h2 : b = false → EV K M tb σ B L1 r a L2) : EV K M (tIf tt ta tb) σ B L r a L2 := fun B1 H e w Q q => h B1 H e w _ fun B2 H2 e2 w2 => by
  cases b with
  | true => exact h1 rfl B2 H2 (e.trans e2) w2 Q fun v B3 H3 e3 w3 hv => q v B3 H3 (e2.trans e3) w3 hv
  | false => exact h2 rfl B2 H2 (e.trans e2) w2 Q fun v B3 H3 e3 w3 hv => q v B3 H3 (e2.trans e3) w3 hv
end
end L3

namespace L3
open PySem L2
open Evl (Ex ex_rd ex_l ex_t sq_of st_of fresh_back)

/-! ### promises -/
def spV (K : Fg) (T : List Addr) (C : List Arg → List Cell → Arg → List Cell → Prop) : Sp := fun vs H Q _ => ∃ B M L as r L', M.T = T ∧ Own K B M L H ∧ ArgsIs K B vs as ∧ C as L r L' ∧
  ∀ v B' H', Ex B B' → Own K B' M L' H' → r.is K B' v → Q v H'
theorem args_len {K : Fg} {B : Hp} : ∀ {vs : List V} {as : List Arg}, ArgsIs K B vs as → vs.length = as.length
  | [], [], _ => rfl
  | _ :: _, _ :: _, h => congrArg (· + 1) (args_len h.2)
  | [], _ :: _, h => h.elim
  | _ :: _, [], h => h.elim
theorem FnScope.of {N ps : List Str} {sc : Scope} (h1 : sc.kind = .function) (h2 : sc.isCoroutine = false) (h3 : sc.isGenerator = false) (h : FnScope N ps sc) : FnScope N ps sc := h

section
variable {K : Fg} {M : Fr} {σ : St} {B : Hp} {L L1 L2 L' : List Cell} {α β γ δ : Type} {r : Rep α} {s : Rep β} {t : Rep γ} {ta tb tc te : TE} {tt tu : TT} {tA : TA} {i j k : Int} {b c : Bool}
theorem nodup_one {x : Cell} : ([x].map (·.p)).Nodup := by simp
/-- a def that changes nothing of ours -/
theorem ev_call {C : List Arg → List Cell → Arg → List Cell → Prop} {E : XK} {as : List Arg} {a : α} (ha : EA K M tA σ B L as L1) (h : C as [] ⟨r, a⟩ []) : EV K M (tCall (spV K M.T C) [] E tA) σ B L r a L1 := fun B1 H e w Q q =>
  ha B1 H e w _ fun vs B2 H2 e2 w2 hv => by
    show spV K M.T C (vs ++ []) H2 Q E
    rw [List.append_nil]
    refine ⟨B2, absorb M L1 H2, [], as, ⟨r, a⟩, [], rfl, w2.lend (L1 := []) (L2 := L1) (fun _ h => absurd h (by simp)) (fun _ h => h) (by simp) (fun _ h => absurd h (by simp)), hv, h, fun v B' H' e3 w3 hr => ?_⟩
    exact q v B' H' (e2.trans e3) (w2.back (L1' := []) (fun _ h => h) w2.nd e3 w3 (fun _ h => absurd h (by simp))) hr
theorem erase_mem {x : Cell} {n : Nat} (w : (L.map (·.p)).Nodup) (h : L[n]? = some x) : x.p ∉ (L.eraseIdx n).map (·.p) := fun hm => by
  obtain ⟨y, hy, e⟩ := List.mem_map.mp hm
  obtain ⟨j, hj, hne⟩ := List.mem_eraseIdx_iff_getElem?.mp hy
  exact hj (nodup_at w (by rw [List.getElem?_map, hne]; rfl) (by rw [List.getElem?_map, h]; exact congrArg some e.symm))
theorem set_perm {x x' : Cell} {n : Nat} (h : L[n]? = some x) : ∀ y ∈ L.set n x', y ∈ x' :: L.eraseIdx n := fun y hy => by
  obtain ⟨m, hm⟩ := List.getElem?_of_mem hy
  by_cases e : n = m
  · subst e
    rw [List.getElem?_set_self (List.getElem?_eq_some_iff.mp h).1] at hm
    cases hm
    exact List.mem_cons_self
  · rw [List.getElem?_set_ne e] at hm
    exact List.mem_cons_of_mem _ (List.mem_eraseIdx_iff_getElem?.mpr ⟨m, Ne.symm e, hm⟩)
theorem set_keys {x x' : Cell} {n : Nat} (h : L[n]? = some x) (hp : x'.p = x.p) : (L.set n x').map (·.p) = L.map (·.p) := by
  rw [List.map_set, hp]
  refine List.ext_getElem? fun j => ?_
  by_cases hij : n = j
  · subst hij
    have hl : n < (L.map (·.p)).length := by rw [List.length_map]; exact (List.getElem?_eq_some_iff.mp h).1
    rw [List.getElem?_set_self hl, List.getElem?_map, h]; rfl
  · rw [List.getElem?_set_ne hij]
/-- a def that changes the one at n -/
theorem ev_callC {C : List Arg → List Cell → Arg → List Cell → Prop} {E : XK} {as : List Arg} {a : α} (n : Nat) {x x' : Cell} (ha : EA K M tA σ B L as L1) (hx : L1[n]? = some x) (h : C as [x] ⟨r, a⟩ [x']) (hp : x'.p = x.p) : EV K M (tCall (spV K M.T C) [] E tA) σ B L r a (L1.set n x') := fun B1 H e w Q q =>
  ha B1 H e w _ fun vs B2 H2 e2 w2 hv => by
    show spV K M.T C (vs ++ []) H2 Q E
    rw [List.append_nil]
    have nd := w2.nd
    have hn := erase_mem nd hx
    have sub : ∀ y ∈ L1.eraseIdx n, y ∈ L1 := fun y hy => List.mem_of_mem_eraseIdx hy
    refine ⟨B2, absorb M (L1.eraseIdx n) H2, [x], as, ⟨r, a⟩, [x'], rfl, w2.lend (L1 := [x]) (L2 := L1.eraseIdx n) (fun y h => by rw [List.mem_singleton.mp h]; exact List.mem_of_getElem? hx) sub nodup_one (fun y h => by rw [List.mem_singleton.mp h]; exact hn), hv, h, fun v B' H' e3 w3 hr => ?_⟩
    have w4 : Own K B' M ([x'] ++ L1.eraseIdx n) H' := w2.back (L1' := [x']) sub (nd.sublist ((List.eraseIdx_sublist L1 n).map _)) e3 w3 (fun y h => by rw [List.mem_singleton.mp h, hp]; exact hn)
    exact q v B' H' (e2.trans e3) (w4.perm (set_perm hx) (by rw [set_keys hx hp]; exact nd)) hr

/-! ### statements -/
variable {D : Ends} {tz t1 t2 : TS} {H : Hp}
theorem q_asg {n : Nat} {a : α} (w : Own K B M L H) (h : EV K M te σ B L r a L') (q : ∀ v B' H', Ex B B' → Own K B' M L' H' → r.is K B' v a → tz D (σ.set n (some v)) H') : tSeq (tAsg te (gName n)) tz D σ H := h B H (Ex.refl _) w _ q
theorem q_asgL {n : Nat} {as : List α} (w : Own K B M L H) (h : EVL K M te σ B L r as L') (q : ∀ p B' H', Ex B B' → Own K B' M (⟨p, cLst r, as⟩ :: L') H' → tz D (σ.set n (some (.ref p))) H') : tSeq (tAsg te (gName n)) tz D σ H := h B H (Ex.refl _) w _ q
theorem q_drop {a : α} (w : Own K B M L H) (h : EV K M te σ B L r a L') (q : ∀ B' H', Ex B B' → Own K B' M L' H' → tz D σ H') : tSeq (tDrop te) tz D σ H := h B H (Ex.refl _) w _ fun _ B' H' e w' _ => q B' H' e w'
theorem q_ret {a : α} (w : Own K B M L H) (h : EV K M te σ B L r a L') (q : ∀ v B' H', Ex B B' → Own K B' M L' H' → r.is K B' v a → D.rt v H') : tSeq (tRet te) tz D σ H := h B H (Ex.refl _) w _ q
theorem q_retN (w : Own K B M L H) (q : D.rt .non H) : tSeq tRetN tz D σ H := q
/-- a list of ours goes out -/
theorem q_retC {n m : Nat} {p : Addr} {as : List α} (w : Own K B M L H) (hs : σ[m]? = some (some (.ref p))) (hc : L[n]? = some ⟨p, cLst r, as⟩) (q : ∀ v B', Ex B B' → Own K B' M (L.eraseIdx n) H → (rLst r).is K B' v as → D.rt v H) : tSeq (tRet (tVar m)) tz D σ H := by
  obtain ⟨o, h1, ⟨xs, h2, h3⟩, h4, w'⟩ := w.freeze hc
  have h4 : B p = none := h4
  refine ⟨_, hs, q _ _ (Ex.new h4) w' ⟨p, xs, rfl, ?_, paired_mono (Ex.new h4) h3⟩⟩
  show upd B p o p = _
  rw [upd_same, h2]
theorem q_if (w : Own K B M L H) (h : ET K M tt σ B L b L') (h1 : b = true → ∀ B' H', Ex B B' → Own K B' M L' H' → t1 { D with nx := tz D } σ H') (h2 : b = false → ∀ B' H', Ex B B' → Own K B' M L' H' → t2 { D with nx := tz D } σ H') : tSeq (tIfS tt t1 t2) tz D σ H :=
  h B H (Ex.refl _) w _ fun B' H' e w' => by
    cases b with
    | true => exact h1 rfl B' H' e w'
    | false => exact h2 rfl B' H' e w'
theorem q_ifc (w : Own K B M L H) (h : ET K M tt σ B L b L') (h1 : b = true → ∀ B' H', Ex B B' → Own K B' M L' H' → t1 D σ H') (h2 : b = false → ∀ B' H', Ex B B' → Own K B' M L' H' → t2 D σ H') : tIfS tt t1 t2 D σ H :=
  h B H (Ex.refl _) w _ fun B' H' e w' => by
    cases b with
    | true => exact h1 rfl B' H' e w'
    | false => exact h2 rfl B' H' e w'
theorem q_cut {t : TS} (Mid : St → Hp → Prop) (h : t { D with nx := Mid } σ H) (k : ∀ σ' H', Mid σ' H' → tz D σ' H') : Evl.tCut t tz D σ H := ⟨Mid, h, k⟩
theorem q_app {n m : Nat} {p : Addr} {as : List α} {a : α} (w : Own K B M L H) (hs : σ[m]? = some (some (.ref p))) (h : EV K M te σ B L r a L') (hc : L'[n]? = some ⟨p, cLst r, as⟩) (hc0 : ∃ n0 : Nat, ∃ a0 : List α, L[n0]? = some ⟨p, cLst r, a0⟩) (hr : room as.length = some ())
    (q : ∀ B' H', Ex B B' → Own K B' M (L'.set n ⟨p, cLst r, as ++ [a]⟩) H' → tz D σ H') : tSeq (tDrop (tBM K "list" rAppend (tVar m) (tCons te tNil))) tz D σ H := by
  obtain ⟨n0, a0, hc0⟩ := hc0
  obtain ⟨⟨o, h1, ys, h2, h3⟩, _⟩ := w.at hc0
  have h1 : H p = some o := h1
  refine ⟨_, hs, .inl ⟨rfl, _, sq_of (xs := ys) (by rw [h1, h2])⟩, h B H (Ex.refl _) w _ fun v B' H' e w' hv => ?_⟩
  obtain ⟨⟨o', g1, xs, g2, g3⟩, _⟩ := w'.at hc
  have g1 : H' p = some o' := g1
  exact ⟨p, xs, v, rfl, rfl, by rw [g1, g2], by rw [paired_len g3]; exact room_some hr, q B' _ e (w'.set hc ⟨_, rfl, paired_app g3 (.cons hv .nil)⟩)⟩
/-- l[i] = e -/
theorem q_setC {n m : Nat} {p : Addr} {as : List α} {a : α} {l : Nat} (w : Own K B M L H) (h : EV K M te σ B L r a L1) (hs : σ[m]? = some (some (.ref p))) (hb : EV K M tb σ B L1 rInt i L2) (hc : L2[n]? = some ⟨p, cLst r, as⟩) (hi : ixN as.length i = some l)
    (q : ∀ B' H', Ex B B' → Own K B' M (L2.set n ⟨p, cLst r, as.set l a⟩) H' → tz D σ H') : tSeq (tAsg te (gSub (tVar m) tb rSetL)) tz D σ H :=
  h B H (Ex.refl _) w _ fun v B1 H1 e1 w1 hv => ⟨_, hs, hb B1 H1 e1 w1 _ fun y B2 H2 e2 w2 hy => by
    obtain ⟨⟨o', g1, xs, g2, g3⟩, _⟩ := w2.at hc
    have g1 : H2 p = some o' := g1
    refine ⟨p, xs, i, l, rfl, hy, by rw [g1, g2], by rw [paired_len g3]; exact hi, q B2 _ (e1.trans e2) (w2.set hc ⟨_, rfl, paired_set (r.mono e2 hv) l g3⟩)⟩⟩
/-- l[1] = e of a list [u, v] -/
theorem q_set1 {n m : Nat} {p : Addr} {a : α × β} {x : β} (w : Own K B M L H) (h : EV K M te σ B L s x L1) (hs : σ[m]? = some (some (.ref p))) (hc : L1[n]? = some ⟨p, cL2 r s, a⟩)
    (q : ∀ B' H', Ex B B' → Own K B' M (L1.set n ⟨p, cL2 r s, (a.1, x)⟩) H' → tz D σ H') : tSeq (tAsg te (gSub (tVar m) (tC (.int 1)) rSetL)) tz D σ H :=
  h B H (Ex.refl _) w _ fun v B1 H1 e1 w1 hv => ⟨_, hs, by
    obtain ⟨⟨o', g1, x0, x1, g2, g3, g4⟩, _⟩ := w1.at hc
    have g1 : H1 p = some o' := g1
    exact ⟨p, [x0, x1], 1, 1, rfl, rfl, by rw [g1, g2], rfl, q B1 _ e1 (w1.set hc ⟨x0, v, rfl, g3, hv⟩)⟩⟩
theorem ev_l2fst {n m : Nat} {p : Addr} {a : α × β} (hs : σ[m]? = some (some (.ref p))) (hc : L[n]? = some ⟨p, cL2 r s, a⟩) : EV K M (tOp (rIx K) (tVar m) (tC (.int 0))) σ B L r a.1 L := fun B1 H e w Q q => by
  obtain ⟨⟨o', g1, x0, x1, g2, g3, g4⟩, _⟩ := w.at hc
  have g1 : H p = some o' := g1
  exact ⟨_, hs, .inl ⟨p, [x0, x1], 0, x0, rfl, rfl, sq_of (by rw [g1, g2]), rfl, q _ B1 H (Ex.refl _) w g3⟩⟩
theorem ev_l2snd {n m : Nat} {p : Addr} {a : α × β} (hs : σ[m]? = some (some (.ref p))) (hc : L[n]? = some ⟨p, cL2 r s, a⟩) : EV K M (tOp (rIx K) (tVar m) (tC (.int 1))) σ B L s a.2 L := fun B1 H e w Q q => by
  obtain ⟨⟨o', g1, x0, x1, g2, g3, g4⟩, _⟩ := w.at hc
  have g1 : H p = some o' := g1
  exact ⟨_, hs, .inl ⟨p, [x0, x1], 1, x1, rfl, rfl, sq_of (by rw [g1, g2]), rfl, q _ B1 H (Ex.refl _) w g4⟩⟩
/-- a new list [u, v] -/
theorem q_asgL2 {n : Nat} {a : α} {b : β} (w : Own K B M L H) (h : EA K M tA σ B L [⟨r, a⟩, ⟨s, b⟩] L') (q : ∀ p B' H', Ex B B' → Own K B' M (⟨p, cL2 r s, (a, b)⟩ :: L') H' → tz D (σ.set n (some (.ref p))) H') : tSeq (tAsg (tLst tA) (gName n)) tz D σ H :=
  h B H (Ex.refl _) w _ fun vs B' H' e w' hv => by
    match vs, hv with
    | [_, _], ⟨h1, h2, _⟩ => exact ⟨by show 2 ≤ sizeLine; decide, fun p hp => q p B' _ e (w'.new hp ⟨_, _, rfl, h1, h2⟩)⟩
theorem q_par {n m : Nat} {a : α} {b : β} (w : Own K B M L H) (h : EA K M tA σ B L [⟨r, a⟩, ⟨s, b⟩] L') (q : ∀ u v B' H', Ex B B' → Own K B' M L' H' → r.is K B' u a → s.is K B' v b → tz D ((σ.set n (some u)).set m (some v)) H') : tSeq (tPar n m tA) tz D σ H :=
  h B H (Ex.refl _) w _ fun vs B' H' e w' hv => by
    match vs, hv with
    | [_, _], ⟨h1, h2, _⟩ => exact ⟨_, _, rfl, q _ _ B' H' e w' h1 h2⟩

/-! ### loops -/
inductive Stp (S R : Type) where
  | nx (s : S)
  | bk (s : S)
  | rt (r : R)
def loopM {S R α : Type} (f : S → α → Option (Stp S R)) : S → List α → Option (Stp S R)
  | s, [] => some (.nx s)
  | s, x :: xs => match f s x with
    | some (.nx s') => loopM f s' xs
    | o => o
def foldO {S α : Type} (f : S → α → Option S) : S → List α → Option S
  | s, [] => some s
  | s, x :: xs => match f s x with
    | some s' => foldO f s' xs
    | none => none
theorem loop_fold {S R α : Type} (f : S → α → Option S) : ∀ (xs : List α) (s : S), loopM (R := R) (fun s x => (f s x).map Stp.nx) s xs = (foldO f s xs).map Stp.nx
  | [], _ => rfl
  | x :: xs, s => by
    unfold loopM foldO
    cases f s x with
    | none => rfl
    | some s' => exact loop_fold f xs s'
/-- what is walked: xs, item by item, whatever is ours -/
structure Wk (K : Fg) (M : Fr) (J : It) (B : Hp) (r : Rep α) (xs : List α) : Prop where
  go : ∀ (i : Nat) a B' L' H', Ex B B' → Own K B' M L' H' → xs[i]? = some a → J.go i H' ∧ ∀ x H2, J.yld i H' x H2 → ∃ B2, Ex B' B2 ∧ Own K B2 M L' H2 ∧ r.is K B2 x a
  stop : ∀ B' L' H', Ex B B' → Own K B' M L' H' → J.stop xs.length H'
def EI (K : Fg) (M : Fr) (wi : TI) (σ : St) (B : Hp) (L : List Cell) (r : Rep α) (xs : List α) (L' : List Cell) : Prop :=
  ∀ B1 H, Ex B B1 → Own K B1 M L H → ∀ R : It → Hp → Prop, (∀ J B2 H2, Ex B1 B2 → Own K B2 M L' H2 → Wk K M J B2 r xs → R J H2) → wi σ H R
theorem ei_tup {xs : List α} (h : EV K M te σ B L (rTup r) xs L') : EI K M (iTup K te) σ B L r xs L' := fun B1 H e w R q => h B1 H e w _ fun v B2 H2 e2 w2 hv => by
  obtain ⟨p, vs, rfl, hs, hp⟩ := hv
  refine ⟨p, rfl, ⟨vs, ex_t w2.b hs⟩, q _ B2 H2 e2 w2 ⟨fun i a B' L' H' e' w' hi => ?_, fun B' L' H' e' w' => ⟨vs, ex_t (e'.trans w'.b) hs, by rw [paired_len hp]; exact Nat.le_refl _⟩⟩⟩
  obtain ⟨x, hx, hr⟩ := paired_get hp hi
  refine ⟨⟨vs, x, ex_t (e'.trans w'.b) hs, hx⟩, fun y H3 hy => ?_⟩
  obtain ⟨rfl, hy⟩ := hy
  have := hy vs (ex_t (e'.trans w'.b) hs)
  rw [hx] at this
  cases this
  exact ⟨B', Ex.refl _, w', r.mono e' hr⟩
theorem ei_scr {xs : List α} (h : EV K M te σ B L (rScr r) xs L') : EI K M (iList K te) σ B L r xs L' := fun B1 H e w R q => h B1 H e w _ fun v B2 H2 e2 w2 hv => by
  obtain ⟨p, vs, rfl, hs, hp⟩ := hv
  refine ⟨p, rfl, ⟨vs, ex_l w2.b hs⟩, q _ B2 H2 e2 w2 ⟨fun i a B' L' H' e' w' hi => ?_, fun B' L' H' e' w' => ⟨vs, ex_l (e'.trans w'.b) hs, by rw [paired_len hp]; exact Nat.le_refl _⟩⟩⟩
  obtain ⟨x, hx, hr⟩ := paired_get hp hi
  refine ⟨⟨vs, x, ex_l (e'.trans w'.b) hs, hx⟩, fun y H3 hy => ?_⟩
  obtain ⟨rfl, hy⟩ := hy
  have := hy vs (ex_l (e'.trans w'.b) hs)
  rw [hx] at this
  cases this
  exact ⟨B', Ex.refl _, w', r.mono e' hr⟩
theorem ei_lst {xs : List α} (h : EV K M te σ B L (rLst r) xs L') : EI K M (iList K te) σ B L r xs L' := ei_scr (ev_scr h)
/-- lo, lo + 1, .. below hi -/
def rng (lo hi : Int) : List Int := (List.range (hi - lo).toNat).map fun (k : Nat) => lo + (k : Int)
theorem rng_len (lo hi : Int) : (rng lo hi).length = (hi - lo).toNat := by simp [rng]
theorem rng_get {lo hi : Int} {i : Nat} {a : Int} (h : (rng lo hi)[i]? = some a) : i < (hi - lo).toNat ∧ a = lo + (i : Int) := by
  unfold rng at h
  rw [List.getElem?_map] at h
  cases e : (List.range (hi - lo).toNat)[i]? with
  | none => rw [e] at h; cases h
  | some k =>
    rw [e] at h
    obtain ⟨h1, h2⟩ := List.getElem?_eq_some_iff.mp e
    rw [List.getElem_range] at h2
    rw [List.length_range] at h1
    subst h2
    exact ⟨h1, (Option.some.inj h).symm⟩
def small62 (i : Int) : Option Unit := if -(2 ^ 62) ≤ i ∧ i < 2 ^ 62 then some () else none
theorem small62_some {u : Unit} (h : small62 i = some u) : -(2 ^ 62) ≤ i ∧ i < 2 ^ 62 := by
  unfold small62 at h
  split at h
  · assumption
  · cases h
theorem wk_rng {lo hi : Int} : Wk K M (Itr lo (hi - lo).toNat) B rInt (rng lo hi) :=
  ⟨fun i a B' L' H' e' w' hi => by
    obtain ⟨h1, rfl⟩ := rng_get hi
    exact ⟨h1, fun x H2 hy => ⟨B', Ex.refl _, by rw [hy.1]; exact w', hy.2⟩⟩, fun B' L' H' e' w' => by rw [rng_len]; exact Nat.le_refl _⟩
theorem ei_rng1 (h : EA K M tA σ B L [⟨rInt, j⟩] L') (hj : small62 j = some ()) : EI K M (iRng1 tA) σ B L rInt (rng 0 j) L' := fun B1 H e w R q => h B1 H e w _ fun vs B2 H2 e2 w2 hv => by
  match vs, hv with
  | [_], ⟨h1, _⟩ =>
    refine ⟨j, by rw [show _ = V.int j from h1], (small62_some hj).1, (small62_some hj).2, q _ B2 H2 e2 w2 ?_⟩
    have := wk_rng (K := K) (M := M) (B := B2) (lo := 0) (hi := j)
    rw [show j - 0 = j by omega] at this
    exact this
theorem ei_rng2 (h : EA K M tA σ B L [⟨rInt, i⟩, ⟨rInt, j⟩] L') (hi : small62 i = some ()) (hj : small62 j = some ()) : EI K M (iRng2 tA) σ B L rInt (rng i j) L' := fun B1 H e w R q => h B1 H e w _ fun vs B2 H2 e2 w2 hv => by
  match vs, hv with
  | [_, _], ⟨h1, h2, _⟩ => exact ⟨i, j, by rw [show _ = V.int i from h1, show _ = V.int j from h2], ⟨(small62_some hi).1, (small62_some hi).2, (small62_some hj).1, (small62_some hj).2⟩, q _ B2 H2 e2 w2 wk_rng⟩

theorem loopM_drop {S R : Type} {f : S → α → Option (Stp S R)} {s s' : S} {xs : List α} {i : Nat} {a : α} (h : xs[i]? = some a) : loopM f s (xs.drop i) = (match f s a with | some (.nx s') => loopM f s' (xs.drop (i + 1)) | o => o) := by
  obtain ⟨h1, h2⟩ := List.getElem?_eq_some_iff.mp h
  rw [List.drop_eq_getElem_cons h1, h2]
  rfl
theorem q_for {S R : Type} {wi : TI} {g : TG} {tb : TS} {xs : List α} (w : Own K B M L H) (hi : EI K M wi σ B L r xs L1) (f : S → α → Option (Stp S R)) (P : S → Hp → St → Prop) (Lf : S → List Cell) (s0 : S) {o : Stp S R} (hm : loopM f s0 xs = some o)
    (h0 : ∀ B', Ex B B' → P s0 B' σ) (hL : Lf s0 = L1)
    (hs : ∀ s x st v B0 B' H' σ', f s x = some st → Ex B B0 → P s B0 σ' → Ex B0 B' → Own K B' M (Lf s) H' → r.is K B' v x → (∀ q, st = .rt q → o = .rt q) → ∀ (N : St → Hp → Prop) (BK : St → Hp → Prop),
      (∀ s3 B3 H3 σ3, st = .nx s3 → Ex B' B3 → Own K B3 M (Lf s3) H3 → P s3 B3 σ3 → N σ3 H3) → (∀ s3 B3 H3 σ3, st = .bk s3 → Ex B' B3 → Own K B3 M (Lf s3) H3 → P s3 B3 σ3 → BK σ3 H3) →
      g v σ' H' fun σ2 H2 => tb { D with nx := N, ct := N, bk := BK } σ2 H2)
    (hd : ∀ s B' H' σ', (o = .nx s ∨ o = .bk s) → Ex B B' → Own K B' M (Lf s) H' → P s B' σ' → tz D σ' H') : tSeq (tFor wi g tb) tz D σ H :=
  hi B H (Ex.refl _) w _ fun J B1 H1 e1 w1 k => by
    refine ⟨fun i m σ' H' => m = xs.length - i ∧ i ≤ xs.length ∧ ∃ s B', Ex B1 B' ∧ Own K B' M (Lf s) H' ∧ P s B' σ' ∧ loopM f s (xs.drop i) = some o, ⟨xs.length, by simp, Nat.zero_le _, s0, B1, Ex.refl _, by rw [hL]; exact w1, h0 B1 e1, hm⟩, ?_⟩
    rintro i m σ' H' ⟨rfl, hle, s, B', e', w', hP, hl⟩
    by_cases hlt : i < xs.length
    · right
      obtain ⟨a, ha⟩ : ∃ a, xs[i]? = some a := ⟨xs[i], List.getElem?_eq_getElem hlt⟩
      obtain ⟨hgo, hy⟩ := k.go i a B' _ H' e' w' ha
      rw [loopM_drop (s' := s) ha] at hl
      cases hst : f s a with
      | none => rw [hst] at hl; cases hl
      | some st =>
        rw [hst] at hl
        refine ⟨hgo, fun σ3 H3 => ∃ s3 B3, st = .nx s3 ∧ Ex B1 B3 ∧ Own K B3 M (Lf s3) H3 ∧ P s3 B3 σ3, fun σ3 H3 ⟨s3, B3, e3, a1, a2, a3⟩ => ?_, fun x H2 hy2 => ?_⟩
        · subst e3
          exact ⟨_, (by omega : xs.length - (i + 1) < xs.length - i), rfl, hlt, s3, B3, a1, a2, a3, hl⟩
        · obtain ⟨B2, e2, w2, hr⟩ := hy x H2 hy2
          refine hs s a st x B' B2 H2 σ' hst (e1.trans e') hP e2 w2 hr (fun q e => by rw [e] at hl; exact (Option.some.inj hl).symm) _ _ (fun s3 B3 H3 σ3 e3 e4 w3 p3 => ⟨s3, B3, e3, (e'.trans e2).trans e4, w3, p3⟩) (fun s3 B3 H3 σ3 e3 e4 w3 p3 => ?_)
          rw [e3] at hl
          exact hd s3 B3 H3 σ3 (.inr (Option.some.inj hl).symm) (((e1.trans e').trans e2).trans e4) w3 p3
    · left
      have : i = xs.length := by omega
      subst this
      rw [List.drop_length] at hl
      have ho : o = .nx s := (Option.some.inj hl).symm
      exact ⟨k.stop B' _ H' e' w', hd s B' H' σ' (.inl ho) (e1.trans e') w' hP⟩
end
end L3

namespace L3
open PySem L2
open Evl (Ex ex_rd ex_l ex_t sq_of st_of fresh_back)

theorem args1 {K : Fg} {B : Hp} {vs : List V} {x : Arg} (h : ArgsIs K B vs [x]) : ∃ u, vs = [u] ∧ x.is K B u := by
  match vs, h with
  | [_], ⟨h1, _⟩ => exact ⟨_, rfl, h1⟩
theorem args2 {K : Fg} {B : Hp} {vs : List V} {x y : Arg} (h : ArgsIs K B vs [x, y]) : ∃ u v, vs = [u, v] ∧ x.is K B u ∧ y.is K B v := by
  match vs, h with
  | [_, _], ⟨h1, h2, _⟩ => exact ⟨_, _, rfl, h1, h2⟩
theorem args3 {K : Fg} {B : Hp} {vs : List V} {x y z : Arg} (h : ArgsIs K B vs [x, y, z]) : ∃ u v w, vs = [u, v, w] ∧ x.is K B u ∧ y.is K B v ∧ z.is K B w := by
  match vs, h with
  | [_, _, _], ⟨h1, h2, h3, _⟩ => exact ⟨_, _, _, rfl, h1, h2, h3⟩
theorem args4 {K : Fg} {B : Hp} {vs : List V} {x y z a : Arg} (h : ArgsIs K B vs [x, y, z, a]) : ∃ u v w t, vs = [u, v, w, t] ∧ x.is K B u ∧ y.is K B v ∧ z.is K B w ∧ a.is K B t := by
  match vs, h with
  | [_, _, _, _], ⟨h1, h2, h3, h4, _⟩ => exact ⟨_, _, _, _, rfl, h1, h2, h3, h4⟩
theorem args5 {K : Fg} {B : Hp} {vs : List V} {x y z a b : Arg} (h : ArgsIs K B vs [x, y, z, a, b]) : ∃ u v w t s, vs = [u, v, w, t, s] ∧ x.is K B u ∧ y.is K B v ∧ z.is K B w ∧ a.is K B t ∧ b.is K B s := by
  match vs, h with
  | [_, _, _, _, _], ⟨h1, h2, h3, h4, h5, _⟩ => exact ⟨_, _, _, _, _, rfl, h1, h2, h3, h4, h5⟩
theorem args6 {K : Fg} {B : Hp} {vs : List V} {x y z a b c : Arg} (h : ArgsIs K B vs [x, y, z, a, b, c]) : ∃ u v w t s r, vs = [u, v, w, t, s, r] ∧ x.is K B u ∧ y.is K B v ∧ z.is K B w ∧ a.is K B t ∧ b.is K B s ∧ c.is K B r := by
  match vs, h with
  | [_, _, _, _, _, _], ⟨h1, h2, h3, h4, h5, h6, _⟩ => exact ⟨_, _, _, _, _, _, rfl, h1, h2, h3, h4, h5, h6⟩
/-- a constant of the module -/
structure GV (K : Fg) (mg : Str → Option Value) (x : Str) {α : Type} (r : Rep α) (a : α) : Prop where
  ex : ∃ (u : Value) (v : V), mg x = some u ∧ RelV v u ∧ ∀ B, r.is K B v a
def absI (i : Int) : Int := if i < 0 then -i else i
def gcdI (i j : Int) : Int := ((Nat.gcd i.natAbs j.natAbs : Nat) : Int)
def ixO (n : Nat) (i : Int) : Option Nat := ixN n i

section
variable {K : Fg} {M : Fr} {σ : St} {B : Hp} {L L1 L2 L' : List Cell} {α β γ δ : Type} {r : Rep α} {s : Rep β} {t : Rep γ} {ta tb tc te : TE} {tt tu : TT} {tA : TA} {i j k : Int} {b c : Bool}
theorem ev_add (ha : EV K M ta σ B L rInt i L1) (hb : EV K M tb σ B L1 rInt j L2) : EV K M (tOp (rI0 fun i j => .int (i + j)) ta tb) σ B L rInt (i + j) L2 := ev_I0 (g := fun i j => i + j) ha hb
theorem ev_sub (ha : EV K M ta σ B L rInt i L1) (hb : EV K M tb σ B L1 rInt j L2) : EV K M (tOp (rI0 fun i j => .int (i - j)) ta tb) σ B L rInt (i - j) L2 := ev_I0 (g := fun i j => i - j) ha hb
theorem ev_bitand (ha : EV K M ta σ B L rInt i L1) (hb : EV K M tb σ B L1 rInt j L2) : EV K M (tOp (rI0 fun i j => .int (Builtin.bitAnd i j)) ta tb) σ B L rInt (Builtin.bitAnd i j) L2 := ev_I0 (g := fun i j => Builtin.bitAnd i j) ha hb
abbrev rLt : R2 := rI0 fun i j => .bl (decide (i < j))
abbrev rLe : R2 := rI0 fun i j => .bl (decide (i ≤ j))
abbrev rGt : R2 := rI0 fun i j => .bl (decide (j < i))
abbrev rGe : R2 := rI0 fun i j => .bl (decide (j ≤ i))
theorem ev_lt (ha : EV K M ta σ B L rInt i L1) (hb : EV K M tb σ B L1 rInt j L2) : EV K M (tOp rLt ta tb) σ B L rBool (decide (i < j)) L2 := ev_B0 (g := fun i j => decide (i < j)) ha hb
theorem ev_le (ha : EV K M ta σ B L rInt i L1) (hb : EV K M tb σ B L1 rInt j L2) : EV K M (tOp rLe ta tb) σ B L rBool (decide (i ≤ j)) L2 := ev_B0 (g := fun i j => decide (i ≤ j)) ha hb
theorem ev_gt (ha : EV K M ta σ B L rInt i L1) (hb : EV K M tb σ B L1 rInt j L2) : EV K M (tOp rGt ta tb) σ B L rBool (decide (i > j)) L2 := ev_B0 (g := fun i j => decide (j < i)) ha hb
theorem ev_ge (ha : EV K M ta σ B L rInt i L1) (hb : EV K M tb σ B L1 rInt j L2) : EV K M (tOp rGe ta tb) σ B L rBool (decide (i ≥ j)) L2 := ev_B0 (g := fun i j => decide (j ≤ i)) ha hb
theorem ev_ch {g g' : Int → Int → Bool} (ha : EV K M ta σ B L rInt i L1) (hb : EV K M tb σ B L1 rInt j L2) (hc : EV K M tc σ B L2 rInt k L2) : EV K M (tChain (rI0 fun i j => .bl (g i j)) (rI0 fun i j => .bl (g' i j)) ta tb tc) σ B L rBool (g i j && g' j k) L2 := fun B1 H e w Q q =>
  ha B1 H e w _ fun x B2 H2 e2 w2 hx => hb B2 H2 (e.trans e2) w2 _ fun y B3 H3 e3 w3 hy => ⟨i, j, hx, hy, g i j, rfl, by
    cases hg : g i j with
    | true => exact hc B3 H3 ((e.trans e2).trans e3) w3 _ fun z B4 H4 e4 w4 hz => ⟨j, k, hy, hz, q _ B4 H4 ((e2.trans e3).trans e4) w4 (by show V.bl _ = V.bl _; rw [hg]; rfl)⟩
    | false => exact q _ B3 H3 (e2.trans e3) w3 (by show V.bl _ = V.bl _; rw [hg]; rfl)⟩
theorem ev_ch_lt_lt (ha : EV K M ta σ B L rInt i L1) (hb : EV K M tb σ B L1 rInt j L2) (hc : EV K M tc σ B L2 rInt k L2) : EV K M (tChain rLt rLt ta tb tc) σ B L rBool (decide (i < j) && decide (j < k)) L2 := ev_ch (g := fun i j => decide (i < j)) (g' := fun i j => decide (i < j)) ha hb hc
theorem ev_ch_le_lt (ha : EV K M ta σ B L rInt i L1) (hb : EV K M tb σ B L1 rInt j L2) (hc : EV K M tc σ B L2 rInt k L2) : EV K M (tChain rLe rLt ta tb tc) σ B L rBool (decide (i ≤ j) && decide (j < k)) L2 := ev_ch (g := fun i j => decide (i ≤ j)) (g' := fun i j => decide (i < j)) ha hb hc
theorem ev_ch_lt_le (ha : EV K M ta σ B L rInt i L1) (hb : EV K M tb σ B L1 rInt j L2) (hc : EV K M tc σ B L2 rInt k L2) : EV K M (tChain rLt rLe ta tb tc) σ B L rBool (decide (i < j) && decide (j ≤ k)) L2 := ev_ch (g := fun i j => decide (i < j)) (g' := fun i j => decide (i ≤ j)) ha hb hc
theorem ev_ch_le_le (ha : EV K M ta σ B L rInt i L1) (hb : EV K M tb σ B L1 rInt j L2) (hc : EV K M tc σ B L2 rInt k L2) : EV K M (tChain rLe rLe ta tb tc) σ B L rBool (decide (i ≤ j) && decide (j ≤ k)) L2 := ev_ch (g := fun i j => decide (i ≤ j)) (g' := fun i j => decide (i ≤ j)) ha hb hc
theorem ev_and0 {d : Bool} (h1 : EV K M ta σ B L rBool b L1) (h2 : b = true → EV K M tb σ B L1 rBool d L1) : EV K M (tAndV ta tb) σ B L rBool (b && d) L1 := fun B1 H e w Q q => h1 B1 H e w _ fun x B2 H2 e2 w2 hx => ⟨b, hx, by
  cases b with
  | true => exact h2 rfl B2 H2 (e.trans e2) w2 Q fun v B3 H3 e3 w3 hv => q v B3 H3 (e2.trans e3) w3 hv
  | false => exact q _ B2 H2 e2 w2 rfl⟩
theorem ev_or0 {d : Bool} (h1 : EV K M ta σ B L rBool b L1) (h2 : b = false → EV K M tb σ B L1 rBool d L1) : EV K M (tOrV ta tb) σ B L rBool (b || d) L1 := fun B1 H e w Q q => h1 B1 H e w _ fun x B2 H2 e2 w2 hx => ⟨b, hx, by
  cases b with
  | true => exact q _ B2 H2 e2 w2 rfl
  | false => exact h2 rfl B2 H2 (e.trans e2) w2 Q fun v B3 H3 e3 w3 hv => q v B3 H3 (e2.trans e3) w3 hv⟩
/-! ### targets -/
variable {H : Hp} {Qs : St → Hp → Prop} {g : TG} {gs : TGs}
theorem g_T2 {a : α × β} {v : V} {gs : TGs} (h : (rT2 r s).is K B v a) (w : Own K B M L H) (q : ∀ x y, r.is K B x a.1 → s.is K B y a.2 → gs [x, y] σ H Qs) : gTup K 2 gs v σ H Qs := by
  obtain ⟨p, x, y, rfl, h1, h2, h3⟩ := h
  exact ⟨p, _, rfl, ex_t w.b h1, rfl, q x y h2 h3⟩
theorem g_T3 {a : α × β × γ} {v : V} {gs : TGs} (h : (rT3 r s t).is K B v a) (w : Own K B M L H) (q : ∀ x y z, r.is K B x a.1 → s.is K B y a.2.1 → t.is K B z a.2.2 → gs [x, y, z] σ H Qs) : gTup K 3 gs v σ H Qs := by
  obtain ⟨p, x, y, z, rfl, h1, h2, h3, h4⟩ := h
  exact ⟨p, _, rfl, ex_t w.b h1, rfl, q x y z h2 h3 h4⟩
theorem g_cons {v : V} {vs : List V} (h : g v σ H fun σ' H' => gs vs σ' H' Qs) : gCons g gs (v :: vs) σ H Qs := ⟨v, vs, rfl, h⟩
theorem g_name {n : Nat} {v : V} (h : Qs (σ.set n (some v)) H) : gName n v σ H Qs := h
theorem g_nil (h : Qs σ H) : gNil [] σ H Qs := ⟨rfl, h⟩
/-! ### more statements -/
variable {D : Ends} {tz t1 t2 : TS}
theorem q_aug {n : Nat} {v : V} {f : Int → Int → Int} (w : Own K B M L H) (hs : σ[n]? = some (some v)) (hv : v = .int i) (h : EV K M te σ B L rInt j L') (q : ∀ v B' H', Ex B B' → Own K B' M L' H' → rInt.is K B' v (f i j) → tz D (σ.set n (some v)) H') : tSeq (tAug n te (ipI f)) tz D σ H :=
  ⟨v, hs, h B H (Ex.refl _) w _ fun y B' H' e w' hy => ⟨i, j, hv, hy, q _ B' H' e w' rfl⟩⟩
theorem q_unp {a : α} (w : Own K B M L H) (h : EV K M te σ B L r a L') (q : ∀ v B' H', Ex B B' → Own K B' M L' H' → r.is K B' v a → g v σ H' (tz D)) : tSeq (tAsg te g) tz D σ H := h B H (Ex.refl _) w _ q
def Stp.out {S R : Type} : Stp S R → S ⊕ R
  | .nx s => .inl s
  | .bk s => .inl s
  | .rt q => .inr q
def Stp.st {S : Type} : Stp S Empty → S
  | .nx s => s
  | .bk s => s
  | .rt q => nomatch q
def loopR {S R α : Type} (f : S → α → Option (Stp S R)) (s : S) (xs : List α) : Option (S ⊕ R) := (loopM f s xs).map Stp.out
def loopB {S α : Type} (f : S → α → Option (Stp S Empty)) (s : S) (xs : List α) : Option S := (loopM f s xs).map Stp.st
theorem q_forR {S R : Type} {wi : TI} {g : TG} {tb : TS} {xs : List α} (w : Own K B M L H) (hi : EI K M wi σ B L r xs L1) (f : S → α → Option (Stp S R)) (P : S → Hp → St → Prop) (Lf : S → List Cell) (s0 : S) {o : S ⊕ R} (hm : loopR f s0 xs = some o)
    (h0 : ∀ B', Ex B B' → P s0 B' σ) (hL : Lf s0 = L1)
    (hs : ∀ s x st v B0 B' H' σ', f s x = some st → Ex B B0 → P s B0 σ' → Ex B0 B' → Own K B' M (Lf s) H' → r.is K B' v x → (∀ q, st = .rt q → o = .inr q) → ∀ (N : St → Hp → Prop) (BK : St → Hp → Prop),
      (∀ s3 B3 H3 σ3, st = .nx s3 → Ex B' B3 → Own K B3 M (Lf s3) H3 → P s3 B3 σ3 → N σ3 H3) → (∀ s3 B3 H3 σ3, st = .bk s3 → Ex B' B3 → Own K B3 M (Lf s3) H3 → P s3 B3 σ3 → BK σ3 H3) →
      g v σ' H' fun σ2 H2 => tb { D with nx := N, ct := N, bk := BK } σ2 H2)
    (hd : ∀ s B' H' σ', o = .inl s → Ex B B' → Own K B' M (Lf s) H' → P s B' σ' → tz D σ' H') : tSeq (tFor wi g tb) tz D σ H := by
  unfold loopR at hm
  cases h : loopM f s0 xs with
  | none => rw [h] at hm; cases hm
  | some o' =>
    rw [h] at hm
    have hm : o'.out = o := Option.some.inj hm
    refine q_for w hi f P Lf s0 h h0 hL (fun s x st v B0 B' H' σ' a1 a2 a3 a4 a5 a6 a7 => hs s x st v B0 B' H' σ' a1 a2 a3 a4 a5 a6 fun q e => ?_) fun s B' H' σ' a1 => hd s B' H' σ' ?_
    · rw [← hm, a7 q e]; rfl
    · rcases a1 with rfl | rfl
      · exact hm.symm
      · exact hm.symm
theorem q_forB {S : Type} {wi : TI} {g : TG} {tb : TS} {xs : List α} (w : Own K B M L H) (hi : EI K M wi σ B L r xs L1) (f : S → α → Option (Stp S Empty)) (P : S → Hp → St → Prop) (Lf : S → List Cell) (s0 : S) {s1 : S} (hm : loopB f s0 xs = some s1)
    (h0 : ∀ B', Ex B B' → P s0 B' σ) (hL : Lf s0 = L1)
    (hs : ∀ s x st v B0 B' H' σ', f s x = some st → Ex B B0 → P s B0 σ' → Ex B0 B' → Own K B' M (Lf s) H' → r.is K B' v x → ∀ (N : St → Hp → Prop) (BK : St → Hp → Prop),
      (∀ s3 B3 H3 σ3, st = .nx s3 → Ex B' B3 → Own K B3 M (Lf s3) H3 → P s3 B3 σ3 → N σ3 H3) → (∀ s3 B3 H3 σ3, st = .bk s3 → Ex B' B3 → Own K B3 M (Lf s3) H3 → P s3 B3 σ3 → BK σ3 H3) →
      g v σ' H' fun σ2 H2 => tb { D with nx := N, ct := N, bk := BK } σ2 H2)
    (hd : ∀ B' H' σ', Ex B B' → Own K B' M (Lf s1) H' → P s1 B' σ' → tz D σ' H') : tSeq (tFor wi g tb) tz D σ H := by
  unfold loopB at hm
  cases h : loopM f s0 xs with
  | none => rw [h] at hm; cases hm
  | some o' =>
    rw [h] at hm
    have hm : o'.st = s1 := Option.some.inj hm
    refine q_for w hi f P Lf s0 h h0 hL (fun s x st v B0 B' H' σ' a1 a2 a3 a4 a5 a6 _ => hs s x st v B0 B' H' σ' a1 a2 a3 a4 a5 a6) fun s B' H' σ' a1 => ?_
    have e : s1 = s := by
      rcases a1 with rfl | rfl
      · exact hm.symm
      · exact hm.symm
    subst e
    exact hd B' H' σ'
theorem q_fold {S : Type} {wi : TI} {g : TG} {tb : TS} {xs : List α} (w : Own K B M L H) (hi : EI K M wi σ B L r xs L1) (f : S → α → Option S) (P : S → Hp → St → Prop) (Lf : S → List Cell) (s0 : S) {s1 : S} (hm : foldO f s0 xs = some s1)
    (h0 : ∀ B', Ex B B' → P s0 B' σ) (hL : Lf s0 = L1)
    (hs : ∀ s x s' v B0 B' H' σ', f s x = some s' → Ex B B0 → P s B0 σ' → Ex B0 B' → Own K B' M (Lf s) H' → r.is K B' v x → ∀ (N : St → Hp → Prop) (BK : St → Hp → Prop),
      (∀ B3 H3 σ3, Ex B' B3 → Own K B3 M (Lf s') H3 → P s' B3 σ3 → N σ3 H3) →
      g v σ' H' fun σ2 H2 => tb { D with nx := N, ct := N, bk := BK } σ2 H2)
    (hd : ∀ B' H' σ', Ex B B' → Own K B' M (Lf s1) H' → P s1 B' σ' → tz D σ' H') : tSeq (tFor wi g tb) tz D σ H := by
  have h := loop_fold (R := Empty) f xs s0
  rw [hm] at h
  refine q_for w hi _ P Lf s0 h h0 hL (fun s x st v B0 B' H' σ' a1 a2 a3 a4 a5 a6 _ N BK hN hB => ?_) fun s B' H' σ' a1 => ?_
  · cases e : f s x with
    | none => rw [e] at a1; cases a1
    | some s' =>
      rw [e] at a1
      have a1 : st = .nx s' := (Option.some.inj a1).symm
      exact hs s x s' v B0 B' H' σ' e a2 a3 a4 a5 a6 N BK fun B3 H3 σ3 => hN s' B3 H3 σ3 a1
  · have e : s1 = s := by
      rcases a1 with h | h
      · cases h; rfl
      · cases h
    subst e
    exact hd B' H' σ'
end
/-- a def that may be called by its name -/
structure Cl (P : Program) (w : World) (K : Fg) (mg : Str → Option Value) (base : Heap) (k : Nat) (x : Str) (sp : Sp) (dvs : List V) : Prop where
  ex : ∃ (f : Addr) (fd : FuncData) (ps : List Str) (ds : List Value), FnOk P w K mg base CX0 k f fd ps sp ∧ mg x = some (.ref f) ∧ PySem.W.keepIn K (.ref f) = true ∧ Binds K fd ps ds ∧ Vals dvs ds
theorem pe_c {X : Cx} {k j : Nat} {x : Str} {sp : Sp} {dvs : List V} {p pos : Pos} {e : Expr} {es : List Expr} {t : TA} (c : Cl X.prog X.w X.K X.mg X.base k x sp dvs) (hr : Room j X.A) (hk : k ≤ j) (hg : Gl X x) (ha : PA X (e :: es) t)
    (hdb : (x == ("__debug__" : Str)) = false := by decide) (he : starEach (e :: es) X.env = (false, eval e X.env) :: starEach es X.env := by rfl) (hpl : (backTo pos (starEach es X.env)).any (·.1) = false := by rfl) :
    PE X (.Call (.Name x p) (e :: es) [] pos) (tCall sp dvs E0 t) := by
  obtain ⟨f, fd, ps, ds, F, hm, kp, b, d⟩ := c.ex
  exact pe_call F (hr.mono hk) hg hm kp b d pass0 ha hdb he hpl
theorem bt_len : bootBuiltins "len" = some (.builtin "len") := by decide +kernel
theorem bt_abs : bootBuiltins "abs" = some (.builtin "abs") := by decide +kernel
theorem bt_int : bootBuiltins "int" = some (.type "int") := by decide +kernel
theorem bt_isinstance : bootBuiltins "isinstance" = some (.builtin "isinstance") := by decide +kernel
theorem bt_sum : bootBuiltins "sum" = some (.builtin "sum") := by decide +kernel
theorem bt_any : bootBuiltins "any" = some (.builtin "any") := by decide +kernel
theorem bt_all : bootBuiltins "all" = some (.builtin "all") := by decide +kernel
theorem bt_list : bootBuiltins "list" = some (.type "list") := by decide +kernel
theorem bt_bool : bootBuiltins "bool" = some (.type "bool") := by decide +kernel
theorem bt_tuple : bootBuiltins "tuple" = some (.type "tuple") := by decide +kernel
theorem bt_sorted : bootBuiltins "sorted" = some (.builtin "sorted") := by decide +kernel
theorem bt_set : bootBuiltins "set" = some (.type "set") := by decide +kernel
theorem bt_str : bootBuiltins "str" = some (.type "str") := by decide +kernel
theorem bt_max : bootBuiltins "max" = some (.builtin "max") := by decide +kernel
theorem bt_min : bootBuiltins "min" = some (.builtin "min") := by decide +kernel
theorem bt_enumerate : bootBuiltins "enumerate" = some (.type "enumerate") := by decide +kernel
theorem bt_zip : bootBuiltins "zip" = some (.type "zip") := by decide +kernel
theorem bt_dict : bootBuiltins "dict" = some (.type "dict") := by decide +kernel
theorem room_hu {A : Around} {k : Nat} (hr : Room k A) : A.units + 64 < cLine := hr.units
theorem nn_rInt {K : Fg} {B : Hp} {v : V} {x : Int} (h : rInt.is K B v x) : v ≠ .non := by
  have h : v = .int x := h
  subst h; intro e; cases e
end L3

namespace L3
open PySem L2
open Evl (Ex ex_rd ex_l ex_t sq_of st_of fresh_back)

/-! ### data of any form -/
theorem exl {K : Fg} {B B' : Hp} {a : Addr} {xs : List V} (e : Ex B B') (h : SqL K B a xs) : SqL K B' a xs := ex_l e h
mutual
theorem dp_mono {K : Fg} {B B' : Hp} (e : Ex B B') : ∀ {v : V} {d : PyData}, Dp K B v d → Dp K B' v d
  | _, _, .non => .non
  | _, _, .bl b => .bl b
  | _, _, .int i => .int i
  | _, _, .str x => .str x
  | _, _, .lst h t => .lst (ex_l e h) (dpAll_mono e t)
  | _, _, .tup h t => .tup (ex_t e h) (dpAll_mono e t)
theorem dpAll_mono {K : Fg} {B B' : Hp} (e : Ex B B') : ∀ {vs : List V} {ds : List PyData}, DpAll K B vs ds → DpAll K B' vs ds
  | _, _, .nil => .nil
  | _, _, .cons h t => .cons (dp_mono e h) (dpAll_mono e t)
end
def rDat : Rep PyData := ⟨fun K B v d => Dp K B v d, fun e h => dp_mono e h⟩
theorem dpAll_paired {K : Fg} {B : Hp} : ∀ {vs : List V} {ds : List PyData}, DpAll K B vs ds → Paired (rDat.is K B) vs ds
  | _, _, .nil => .nil
  | _, _, .cons h t => .cons h (dpAll_paired t)
theorem dpAll_of {K : Fg} {B : Hp} {α : Type} {r : Rep α} {f : α → PyData} (h : ∀ v a, r.is K B v a → Dp K B v (f a)) : ∀ {vs : List V} {as : List α}, Paired (r.is K B) vs as → DpAll K B vs (as.map f)
  | _, _, .nil => .nil
  | _, _, .cons r t => .cons (h _ _ r) (dpAll_of h t)
/-- typed data as data -/
structure DR {α : Type} (r : Rep α) (f : α → PyData) (n : Nat) : Prop where
  dp : ∀ K B v a, r.is K B v a → Dp K B v (f a)
  lay : ∀ a, (f a).canLay0 = true
  dep : ∀ a, (f a).depth ≤ n
  eqv : ∀ a b, PyData.eqv (f a) (f b) = true ↔ a = b
  inj : ∀ a b, f a = f b → a = b
theorem layAll {α : Type} {f : α → PyData} (h : ∀ a, (f a).canLay0 = true) : ∀ l : List α, PyData.canLayAll0 (l.map f) = true
  | [] => rfl
  | a :: l => by simp only [List.map_cons, PyData.canLayAll0, h a, layAll h l, Bool.and_self]
theorem depAll {α : Type} {f : α → PyData} {n : Nat} (h : ∀ a, (f a).depth ≤ n) : ∀ l : List α, PyData.depthAll (l.map f) ≤ n
  | [] => by simp [PyData.depthAll]
  | a :: l => by simp only [List.map_cons, PyData.depthAll]; have := h a; have := depAll h l; omega
theorem eqvAll {α : Type} {f : α → PyData} (h : ∀ a b, PyData.eqv (f a) (f b) = true ↔ a = b) : ∀ l m : List α, PyData.eqvAll (l.map f) (m.map f) = true ↔ l = m
  | [], [] => by simp [PyData.eqvAll]
  | [], b :: m => by simp [PyData.eqvAll]
  | a :: l, [] => by simp [PyData.eqvAll]
  | a :: l, b :: m => by simp only [List.map_cons, PyData.eqvAll, Bool.and_eq_true, h a b, eqvAll h l m, List.cons.injEq]
theorem map_inj {α β : Type} {f : α → β} (h : ∀ a b, f a = f b → a = b) : ∀ l m : List α, l.map f = m.map f → l = m
  | [], [], _ => rfl
  | [], _ :: _, e => by simp at e
  | _ :: _, [], e => by simp at e
  | a :: l, b :: m, e => by
    rw [List.map_cons, List.map_cons, List.cons.injEq] at e
    rw [h _ _ e.1, map_inj h l m e.2]
theorem dr_int : DR rInt PyData.int 1 := ⟨fun _ _ _ a h => by have h : _ = V.int a := h; subst h; exact .int a, fun _ => rfl, fun _ => by simp [PyData.depth], fun a b => by simp [PyData.eqv], fun a b h => by injection h⟩
theorem dr_bool : DR rBool PyData.bool 1 := ⟨fun _ _ _ a h => by have h : _ = V.bl a := h; subst h; exact .bl a, fun _ => rfl, fun _ => by simp [PyData.depth], fun a b => by simp [PyData.eqv], fun a b h => by injection h⟩
def dNon : Unit → PyData := fun _ => .none
theorem dr_non : DR rNon dNon 1 := ⟨fun _ _ _ a h => by have h : _ = V.non := h; subst h; exact .non, fun _ => rfl, fun _ => by simp [PyData.depth, dNon], fun a b => by simp [PyData.eqv, dNon], fun a b h => rfl⟩
def dTup {α : Type} (f : α → PyData) (l : List α) : PyData := .tuple (l.map f)
def dLst {α : Type} (f : α → PyData) (l : List α) : PyData := .list (l.map f)
def dT2 {α β : Type} (f : α → PyData) (g : β → PyData) (a : α × β) : PyData := .tuple [f a.1, g a.2]
def dT3 {α β γ : Type} (f : α → PyData) (g : β → PyData) (h : γ → PyData) (a : α × β × γ) : PyData := .tuple [f a.1, g a.2.1, h a.2.2]
def dOpt {α : Type} (f : α → PyData) : Option α → PyData
  | none => .none
  | some a => f a
section
variable {α β γ : Type} {r : Rep α} {s : Rep β} {t : Rep γ} {f : α → PyData} {g : β → PyData} {h : γ → PyData} {n m k : Nat}
theorem dr_tup (d : DR r f n) : DR (rTup r) (dTup f) (n + 1) := ⟨fun K B v a ⟨p, xs, h1, h2, h3⟩ => by subst h1; exact .tup h2 (dpAll_of (d.dp K B) h3), fun a => by simpa [dTup, PyData.canLay0] using layAll d.lay a,
  fun a => by have := depAll d.dep a; simp only [dTup, PyData.depth]; omega, fun a b => by simpa [dTup, PyData.eqv] using eqvAll d.eqv a b, fun a b e => by unfold dTup at e; injection e with e; exact map_inj d.inj a b e⟩
theorem dr_lst (d : DR r f n) : DR (rLst r) (dLst f) (n + 1) := ⟨fun K B v a ⟨p, xs, h1, h2, h3⟩ => by subst h1; exact .lst (sq_of h2) (dpAll_of (d.dp K B) h3), fun a => by simpa [dLst, PyData.canLay0] using layAll d.lay a,
  fun a => by have := depAll d.dep a; simp only [dLst, PyData.depth]; omega, fun a b => by simpa [dLst, PyData.eqv] using eqvAll d.eqv a b, fun a b e => by unfold dLst at e; injection e with e; exact map_inj d.inj a b e⟩
theorem dr_T2 (d : DR r f n) (e : DR s g m) : DR (rT2 r s) (dT2 f g) (max n m + 1) := ⟨fun K B v a ⟨p, x, y, h1, h2, h3, h4⟩ => by subst h1; exact .tup h2 (.cons (d.dp _ _ _ _ h3) (.cons (e.dp _ _ _ _ h4) .nil)),
  fun a => by simp [dT2, PyData.canLay0, PyData.canLayAll0, d.lay, e.lay], fun a => by have := d.dep a.1; have := e.dep a.2; simp only [dT2, PyData.depth, PyData.depthAll]; omega,
  fun a b => by simp only [dT2, PyData.eqv, PyData.eqvAll, Bool.and_true, Bool.and_eq_true, d.eqv, e.eqv]; exact ⟨fun ⟨x, y⟩ => Prod.ext x y, fun e => by rw [e]; exact ⟨rfl, rfl⟩⟩,
  fun a b q => by unfold dT2 at q; injection q with q; injection q with q1 q2; injection q2 with q2 _; exact Prod.ext (d.inj _ _ q1) (e.inj _ _ q2)⟩
theorem dr_T3 (d : DR r f n) (e : DR s g m) (c : DR t h k) : DR (rT3 r s t) (dT3 f g h) (max n (max m k) + 1) := ⟨fun K B v a ⟨p, x, y, z, h1, h2, h3, h4, h5⟩ => by subst h1; exact .tup h2 (.cons (d.dp _ _ _ _ h3) (.cons (e.dp _ _ _ _ h4) (.cons (c.dp _ _ _ _ h5) .nil))),
  fun a => by simp [dT3, PyData.canLay0, PyData.canLayAll0, d.lay, e.lay, c.lay], fun a => by have := d.dep a.1; have := e.dep a.2.1; have := c.dep a.2.2; simp only [dT3, PyData.depth, PyData.depthAll]; omega,
  fun a b => by simp only [dT3, PyData.eqv, PyData.eqvAll, Bool.and_true, Bool.and_eq_true, d.eqv, e.eqv, c.eqv]; exact ⟨fun ⟨x, y, z⟩ => Prod.ext x (Prod.ext y z), fun e => by rw [e]; exact ⟨rfl, rfl, rfl⟩⟩,
  fun a b q => by unfold dT3 at q; injection q with q; injection q with q1 q2; injection q2 with q2 q3; injection q3 with q3 _; exact Prod.ext (d.inj _ _ q1) (Prod.ext (e.inj _ _ q2) (c.inj _ _ q3))⟩
theorem DR.dec [DecidableEq α] (d : DR r f n) (a b : α) : PyData.eqv (f a) (f b) = decide (a = b) := by
  rw [Bool.eq_iff_iff, d.eqv, decide_eq_true_iff]
theorem DR.sh (d : DR r f n) (hn : n ≤ 64) (a : α) : SeqAt.shaped (f a) = true := by
  unfold SeqAt.shaped
  rw [d.lay a, decide_eq_true (Nat.le_trans (d.dep a) hn)]; rfl
end
/-! ### operations on data -/
def isNoneD : PyData → Bool
  | .none => true
  | _ => false
def isBoolD : PyData → Bool
  | .bool _ => true
  | _ => false
def isIntD : PyData → Bool
  | .bool _ => true
  | .int _ => true
  | _ => false
def isStrD : PyData → Bool
  | .str _ => true
  | _ => false
def isTupD : PyData → Bool
  | .tuple _ => true
  | _ => false
def isLstD : PyData → Bool
  | .list _ => true
  | _ => false
def tyName : PyData → String
  | .none => "NoneType"
  | .bool _ => "bool"
  | .int _ => "int"
  | .str _ => "str"
  | .list _ => "list"
  | .tuple _ => "tuple"
  | .dict _ => "dict"
def eqvD (a b : PyData) : Option Bool := if SeqAt.shaped a = true ∧ SeqAt.shaped b = true then some (PyData.eqv a b) else none
def lenD : PyData → Option Int
  | .list xs => some xs.length
  | .tuple xs => some xs.length
  | _ => none
def ixD : PyData → Int → Option PyData
  | .list xs, i => atI xs i
  | .tuple xs, i => atI xs i
  | _, _ => none
theorem dp_ty {K : Fg} {B H : Hp} {v : V} {d : PyData} (e : Ex B H) (h : Dp K B v d) : TyX K H v (.type (tyName d)) := by
  cases h with
  | non => exact .base .non
  | bl b => exact .base (.bl b)
  | int i => exact .base (.int i)
  | str x => exact .base (.str x)
  | lst h t =>
    rcases ex_l e h with (h | ⟨o, h⟩) | ⟨o, its, n, h, hc, _⟩
    · exact .base (.lst h)
    · exact .base (.frz h)
    · exact .kList h hc
  | tup h t =>
    rcases ex_t e h with (h | ⟨o, h⟩) | ⟨o, its, n, h, hc, _⟩
    · exact .base (.tup h)
    · exact .fTuple h
    · exact .kTuple h hc
section
variable {K : Fg} {M : Fr} {σ : St} {B : Hp} {L L1 L2 L' : List Cell} {α β γ δ : Type} {r : Rep α} {s : Rep β} {t : Rep γ} {ta tb tc te : TE} {tt tu : TT} {tA : TA} {i j k : Int} {b c : Bool} {d d' : PyData}
theorem ev_dat {f : α → PyData} {n : Nat} {a : α} (h : EV K M te σ B L r a L') (D : DR r f n) : EV K M te σ B L rDat (f a) L' := ev_as h fun _ _ h => D.dp _ _ _ _ h
theorem ev_isND (ha : EV K M ta σ B L rDat d L1) : EV K M (tIsN ta) σ B L rBool (isNoneD d) L1 := fun B1 H e w Q q =>
  ha B1 H e w _ fun x B2 H2 e2 w2 hx => q _ B2 H2 e2 w2 (by
    show V.bl _ = V.bl _
    congr 1
    have hx : Dp K B2 x d := hx
    cases hx <;> rfl)
theorem ev_isi (T : String) (g : PyData → Bool) (hg : ∀ n d, tyName d = n → kitB n T = some (g d)) (ha : EV K M ta σ B L rDat d L1) : EV K M (tCB (rIsi K) (tCons ta (tCons (tC (.ty T)) tNil))) σ B L rBool (g d) L1 := fun B1 H e w Q q =>
  ha B1 H e w _ fun x B2 H2 e2 w2 hx => ⟨x, .ty T, .type (tyName d), .type T, g d, rfl, .ty T, dp_ty w2.b hx, kit_ty (hg _ d rfl), q _ B2 H2 e2 w2 rfl⟩
def kt (T : String) (g : String → Bool) : Bool := (kitB "NoneType" T == some (g "NoneType")) && (kitB "bool" T == some (g "bool")) && (kitB "int" T == some (g "int")) && (kitB "str" T == some (g "str")) && (kitB "list" T == some (g "list")) && (kitB "tuple" T == some (g "tuple")) && (kitB "dict" T == some (g "dict"))
theorem kt_of {T : String} {g : String → Bool} (h : kt T g = true) (d : PyData) : kitB (tyName d) T = some (g (tyName d)) := by
  unfold kt at h
  simp only [Bool.and_eq_true, beq_iff_eq] at h
  cases d <;> simp only [tyName] <;> simp_all
theorem isi_bool : ∀ n d, tyName d = n → kitB n "bool" = some (isBoolD d) := fun n d e => by
  subst e
  rw [kt_of (g := fun n => n == "bool") (by decide +kernel) d]
  cases d <;> rfl
theorem isi_int : ∀ n d, tyName d = n → kitB n "int" = some (isIntD d) := fun n d e => by
  subst e
  rw [kt_of (g := fun n => n == "bool" || n == "int") (by decide +kernel) d]
  cases d <;> rfl
theorem isi_str : ∀ n d, tyName d = n → kitB n "str" = some (isStrD d) := fun n d e => by
  subst e
  rw [kt_of (g := fun n => n == "str") (by decide +kernel) d]
  cases d <;> rfl
theorem isi_tuple : ∀ n d, tyName d = n → kitB n "tuple" = some (isTupD d) := fun n d e => by
  subst e
  rw [kt_of (g := fun n => n == "tuple") (by decide +kernel) d]
  cases d <;> rfl
theorem isi_list : ∀ n d, tyName d = n → kitB n "list" = some (isLstD d) := fun n d e => by
  subst e
  rw [kt_of (g := fun n => n == "list") (by decide +kernel) d]
  cases d <;> rfl
theorem ev_eqvD (ha : EV K M ta σ B L rDat d L1) (hb : EV K M tb σ B L1 rDat d' L2) (h : eqvD d d' = some b) : EV K M (tOp (rEqD K) ta tb) σ B L rBool b L2 :=
  ev_op ha hb fun B1 H1 x y Q w hx hy q => by
    unfold eqvD at h
    split at h
    · rename_i hc
      exact ⟨d, d', dp_mono w.b hx, dp_mono w.b hy, hc.1, hc.2, q _ (by rw [Option.some.inj h]; rfl)⟩
    · cases h
/-- == of typed data -/
theorem ev_eqT {f : α → PyData} {n : Nat} {a a' : α} [DecidableEq α] (D : DR r f n) (hn : n ≤ 64) (ha : EV K M ta σ B L r a L1) (hb : EV K M tb σ B L1 r a' L2) : EV K M (tOp (rEqD K) ta tb) σ B L rBool (decide (a = a')) L2 :=
  ev_op ha hb fun B1 H1 x y Q w hx hy q => ⟨f a, f a', dp_mono w.b (D.dp _ _ _ _ hx), dp_mono w.b (D.dp _ _ _ _ hy), D.sh hn a, D.sh hn a', q _ (by rw [D.dec]; rfl)⟩
theorem ev_neT {f : α → PyData} {n : Nat} {a a' : α} [DecidableEq α] (D : DR r f n) (hn : n ≤ 64) (ha : EV K M ta σ B L r a L1) (hb : EV K M tb σ B L1 r a' L2) : EV K M (tOp (rNeD K) ta tb) σ B L rBool (!decide (a = a')) L2 :=
  ev_op ha hb fun B1 H1 x y Q w hx hy q => ⟨f a, f a', dp_mono w.b (D.dp _ _ _ _ hx), dp_mono w.b (D.dp _ _ _ _ hy), D.sh hn a, D.sh hn a', q _ (by rw [D.dec]; rfl)⟩
theorem dpAll_len {vs : List V} {ds : List PyData} (h : DpAll K B vs ds) : vs.length = ds.length := paired_len (dpAll_paired h)
theorem ev_lenD (ha : EV K M ta σ B L rDat d L1) (h : lenD d = some i) : EV K M (tCB (rLen K) (tCons ta tNil)) σ B L rInt i L1 :=
  ev_cb1 ha fun B1 H1 x Q w hx q => by
    have hx : Dp K B1 x d := hx
    cases hx with
    | lst h1 t =>
      rw [← (Option.some.inj h : _ = i)] at q
      exact ⟨_, _, rfl, .inl (ex_l w.b h1), q _ (by rw [dpAll_len t]; rfl)⟩
    | tup h1 t =>
      rw [← (Option.some.inj h : _ = i)] at q
      exact ⟨_, _, rfl, .inr (ex_t w.b h1), q _ (by rw [dpAll_len t]; rfl)⟩
    | _ => cases h
theorem ev_ixD (ha : EV K M ta σ B L rDat d L1) (hb : EV K M tb σ B L1 rInt i L2) (h : ixD d i = some d') : EV K M (tOp (rIx K) ta tb) σ B L rDat d' L2 :=
  ev_op ha hb fun B1 H1 x y Q w hx hy q => by
    have hx : Dp K B1 x d := hx
    cases hx with
    | lst h1 t =>
      obtain ⟨z, e, hz⟩ := atI_paired (dpAll_paired t) h
      exact .inl ⟨_, _, i, z, rfl, hy, ex_l w.b h1, e, q _ hz⟩
    | tup h1 t =>
      obtain ⟨z, e, hz⟩ := atI_paired (dpAll_paired t) h
      exact .inr (.inl ⟨_, _, i, z, rfl, hy, ex_t w.b h1, e, q _ hz⟩)
    | _ => cases h
end
/-- nothing is promised: at any level -/
theorem fn_none {P : Program} {w : World} {K : Fg} {mg : Str → Option Value} {base : Heap} {k : Nat} {f : Addr} {fd : FuncData} {ps : List Str} {T : List Addr} {C : List Arg → List Cell → Arg → List Cell → Prop} (h : ∀ as L r L', ¬ C as L r L') : FnOk P w K mg base CX0 k f fd ps (spV K T C) :=
  ⟨fun vs H Q E ⟨_, _, _, _, _, _, _, _, _, c, _⟩ => (h _ _ _ _ c).elim, fun A outer s H args us vs Q E _ _ _ _ ⟨_, _, _, _, _, _, _, _, _, c, _⟩ => (h _ _ _ _ c).elim⟩
end L3

namespace L3
open PySem L2

/-! ### the mirrors: they answer, and the answer is as told -/
def Yes {α : Type} (o : Option α) (P : α → Prop) : Prop := ∃ a, o = some a ∧ P a
section
variable {α β S R : Type} {o : Option α} {P Q : α → Prop} {i j : Int}
theorem Yes.mono (h : Yes o P) (f : ∀ a, P a → Q a) : Yes o Q := by obtain ⟨a, h1, h2⟩ := h; exact ⟨a, h1, f a h2⟩
theorem y_some {a : α} (h : P a) : Yes (some a) P := ⟨a, rfl, h⟩
theorem y_bind {f : α → Option β} {T : β → Prop} (h : Yes o Q) (k : ∀ a, Q a → Yes (f a) T) : Yes (Option.bind o f) T := by
  obtain ⟨a, rfl, h2⟩ := h
  exact k a h2
theorem y_eq {a : α} {f : α → Option β} {T : β → Prop} (h : o = some a) (k : Yes (f a) T) : Yes (Option.bind o f) T := by
  subst h; exact k
theorem y_if {c : Prop} [Decidable c] {p q : Option α} (h1 : c → Yes p P) (h2 : ¬ c → Yes q P) : Yes (if c then p else q) P := by
  split
  · exact h1 (by assumption)
  · exact h2 (by assumption)
theorem y_and {c : Prop} [Decidable c] {p q : Option α} (h1 : c → p = q) : (if c then p else q) = q := by
  split
  · exact h1 (by assumption)
  · rfl
theorem mulI_l (h1 : -(2 ^ 64) < i) (h2 : i < 2 ^ 64) : mulI i j = some (i * j) := if_pos (Or.inl (Or.inl ⟨h1, h2⟩))
theorem mulI_r (h1 : -(2 ^ 64) < j) (h2 : j < 2 ^ 64) : mulI i j = some (i * j) := if_pos (Or.inl (Or.inr ⟨h1, h2⟩))
theorem mulI_w {a b : Nat} (ha : i.natAbs < 2 ^ a) (hb : j.natAbs < 2 ^ b) (h0 : 0 < a) (h1 : 0 < b) (h : a + b ≤ 1000000) : mulI i j = some (i * j) := if_pos (Or.inr (wide_mul ha hb h0 h1 h))
theorem divI_s (h1 : 0 < j) (h2 : j < 2 ^ 64) : divI i j = some (i / j) := if_pos ⟨h1, by
  have : j.natAbs < 2 ^ 64 := by omega
  have := PySem.Flt.log2_lt_of (by decide) this
  omega⟩
theorem divI_w {b : Nat} (h1 : 0 < j) (hb : j.natAbs < 2 ^ b) (h0 : 0 < b) (h9 : b ≤ 9000) : divI i j = some (i / j) := if_pos (wide_div (i := i) h1 hb h0 h9)
theorem modI_s (h : 0 < j) : modI i j = some (i % j) := if_pos h
theorem room_s {n : Nat} (h : n ≤ 1000000) : room n = some () := if_pos (Nat.lt_of_le_of_lt h (by decide))
theorem small62_s (h1 : -(2 ^ 62) ≤ i) (h2 : i < 2 ^ 62) : small62 i = some () := if_pos ⟨h1, h2⟩
theorem ixL_s {xs : List α} {n : Nat} {a : α} (h : xs[n]? = some a) (hi : i = n) : ixL xs i = some a := by
  subst hi
  unfold ixL atI
  have hl := (List.getElem?_eq_some_iff.mp h).1
  simp [ixN]
  have h2 := (List.getElem?_eq_some_iff.mp h).2
  simp_all
/-- with a number of the item -/
theorem y_foldI (f : S → α → Option S) (I : Nat → S → Prop) {xs : List α} {s : S} (h0 : I 0 s) (hs : ∀ (i : Nat) x s, xs[i]? = some x → I i s → Yes (f s x) (I (i + 1))) : Yes (foldO f s xs) (I xs.length) := by
  induction xs generalizing s I with
  | nil => exact ⟨s, rfl, h0⟩
  | cons x xs ih =>
    obtain ⟨s', h1, h2⟩ := hs 0 x s rfl h0
    unfold foldO
    rw [h1]
    exact ih (fun i => I (i + 1)) h2 fun i y s hy hI => hs (i + 1) y s (by simpa using hy) hI
theorem y_fold (f : S → α → Option S) (I : S → Prop) {xs : List α} {s : S} (h0 : I s) (hs : ∀ x s, x ∈ xs → I s → Yes (f s x) I) : Yes (foldO f s xs) I :=
  y_foldI f (fun _ => I) h0 fun i x s hx hI => hs x s (List.mem_of_getElem? hx) hI
/-- a loop that may return -/
theorem y_loopI (f : S → α → Option (Stp S R)) (I : Nat → S → Prop) (E : Stp S R → Prop) {xs : List α} {s : S} (h0 : I 0 s)
    (hs : ∀ (i : Nat) x s, xs[i]? = some x → I i s → Yes (f s x) fun t => match t with | .nx s' => I (i + 1) s' | t => E t) (hE : ∀ s, I xs.length s → E (.nx s)) : Yes (loopM f s xs) E := by
  induction xs generalizing s I with
  | nil => exact ⟨.nx s, rfl, hE s h0⟩
  | cons x xs ih =>
    obtain ⟨t, h1, h2⟩ := hs 0 x s rfl h0
    unfold loopM
    rw [h1]
    match t, h2 with
    | .nx s', h2 => exact ih (fun i => I (i + 1)) h2 (fun i y s hy hI => hs (i + 1) y s (by simpa using hy) hI) hE
    | .bk s', h2 => exact ⟨_, rfl, h2⟩
    | .rt r, h2 => exact ⟨_, rfl, h2⟩
theorem rng_mem {lo hi : Int} {x : Int} (h : x ∈ rng lo hi) : lo ≤ x ∧ x < hi := by
  obtain ⟨i, hi⟩ := List.getElem?_of_mem h
  obtain ⟨h1, h2⟩ := rng_get hi
  omega
theorem rng_at {lo hi : Int} {i : Nat} {x : Int} (h : (rng lo hi)[i]? = some x) : x = lo + i ∧ lo + i < hi := by
  obtain ⟨h1, h2⟩ := rng_get h
  exact ⟨h2, by omega⟩
theorem y_loopR (f : S → α → Option (Stp S R)) (I : Nat → S → Prop) (E : S ⊕ R → Prop) {xs : List α} {s : S} (h0 : I 0 s)
    (hs : ∀ (i : Nat) x s, xs[i]? = some x → I i s → Yes (f s x) fun t => match t with | .nx s' => I (i + 1) s' | .bk s' => E (.inl s') | .rt r => E (.inr r)) (hE : ∀ s, I xs.length s → E (.inl s)) : Yes (loopR f s xs) E := by
  obtain ⟨t, h1, h2⟩ := y_loopI f I (fun t => match t with | .nx s' => E (.inl s') | .bk s' => E (.inl s') | .rt r => E (.inr r)) h0 (fun i x s hx hI => (hs i x s hx hI).mono fun t ht => by
    cases t <;> exact ht) hE
  unfold loopR
  rw [h1]
  cases t <;> exact ⟨_, rfl, h2⟩
theorem y_loopB (f : S → α → Option (Stp S Empty)) (I : Nat → S → Prop) (E : S → Prop) {xs : List α} {s : S} (h0 : I 0 s)
    (hs : ∀ (i : Nat) x s, xs[i]? = some x → I i s → Yes (f s x) fun t => match t with | .nx s' => I (i + 1) s' | .bk s' => E s' | .rt r => False) (hE : ∀ s, I xs.length s → E s) : Yes (loopB f s xs) E := by
  obtain ⟨t, h1, h2⟩ := y_loopI f I (fun t => match t with | .nx s' => E s' | .bk s' => E s' | .rt r => False) h0 (fun i x s hx hI => (hs i x s hx hI).mono fun t ht => by
    cases t <;> exact ht) hE
  unfold loopB
  rw [h1]
  cases t with
  | nx s => exact ⟨_, rfl, h2⟩
  | bk s => exact ⟨_, rfl, h2⟩
  | rt r => exact h2.elim
end
end L3
namespace L3
open PySem L2
theorem paired_ints {K : Fg} {B : Hp} : ∀ ns : List Int, Paired (rInt.is K B) (ns.map V.int) ns
  | [] => .nil
  | _ :: l => .cons rfl (paired_ints l)
end L3

/-! a generator expression in any, all, sum: what is walked and the element are any -/
namespace L3G
open PySem PySem.Spec PyProof.Rows L2 GxR

structure GSc (sc scope : Scope) : Prop where
  kind : scope.kind = .function
  co : scope.isCoroutine = false
  cell : ∀ y ∈ scope.names, y.2 ≠ .cell
  dot : scope.names.lookup (".0" : Str) = some NameKind.local
  free : ∀ y ∈ scope.names, y.2 = .free → sc.names.lookup y.1 = some .cell ∨ sc.names.lookup y.1 = some .free
def gsB (sc scope : Scope) : Bool :=
  decide (scope.kind = .function) && !scope.isCoroutine && decide (scope.names.lookup (".0" : Str) = some NameKind.local) && scope.names.all fun y => !decide (y.2 = .cell) && (!decide (y.2 = .free) || decide (sc.names.lookup y.1 = some .cell) || decide (sc.names.lookup y.1 = some .free))
theorem gs_by {sc scope : Scope} (h : gsB sc scope = true) : GSc sc scope := by
  unfold gsB at h
  simp only [Bool.and_eq_true, Bool.or_eq_true, Bool.not_eq_true', decide_eq_true_eq, decide_eq_false_iff_not, List.all_eq_true] at h
  obtain ⟨⟨⟨h1, h2⟩, h3⟩, h4⟩ := h
  refine ⟨h1, h2, fun y hy => (h4 y hy).1, h3, fun y hy e => ?_⟩
  rcases (h4 y hy).2 with (z | z) | z
  · exact absurd e z
  · exact .inl z
  · exact .inr z
/-- the slots of the generator's frame: none, or a captured slot -/
def capS (js : List (Option Nat)) (σ : L2.St) : L2.St := js.map fun
  | none => none
  | some j => (σ[j]?).getD none
def capB (N NG : List Str) (scope : Scope) (js : List (Option Nat)) : Bool :=
  decide (js.length = NG.length) && (List.range js.length).all fun i => match js[i]? with
    | some (some j) => (match NG[i]? with
      | some y => decide (N[j]? = some y) && decide (scope.names.lookup y = some .free)
      | none => false)
    | _ => true
theorem capB_at {N NG : List Str} {scope : Scope} {js : List (Option Nat)} (h : capB N NG scope js = true) {σ : L2.St} {i : Nat} {y : Str} {v : V} (hy : NG[i]? = some y) (hv : (capS js σ)[i]? = some (some v)) :
    ∃ j : Nat, N[j]? = some y ∧ σ[j]? = some (some v) ∧ scope.names.lookup y = some .free := by
  unfold capB at h
  rw [Bool.and_eq_true, List.all_eq_true] at h
  unfold capS at hv
  rw [List.getElem?_map] at hv
  cases e : js[i]? with
  | none => rw [e] at hv; cases hv
  | some o =>
    rw [e] at hv
    have hi : i < js.length := (List.getElem?_eq_some_iff.mp e).1
    have q := h.2 i (List.mem_range.mpr hi)
    rw [e, hy] at q
    cases o with
    | none => cases hv
    | some j =>
      have q : (decide (N[j]? = some y) && decide (scope.names.lookup y = some .free)) = true := q
      rw [Bool.and_eq_true, decide_eq_true_eq, decide_eq_true_eq] at q
      refine ⟨j, q.1, ?_, q.2⟩
      have hv : (σ[j]?).getD none = some v := Option.some.inj hv
      cases e2 : σ[j]? with
      | none => rw [e2] at hv; cases hv
      | some u => rw [e2] at hv; exact congrArg some hv
theorem capB_len {N NG : List Str} {scope : Scope} {js : List (Option Nat)} (h : capB N NG scope js = true) : js.length = NG.length := by
  unfold capB at h
  rw [Bool.and_eq_true] at h
  exact of_decide_eq_true h.1

abbrev gEnv (X : Cx) (scope : Scope) (C : Addr) (code : Value) : Env := genEnv scope (cloFrom X.env.cells scope.names []) C code builtinsNs X.env
abbrev gCode (X : Cx) (elt tg iter : Expr) (scope : Scope) (gpos : Pos) (it : Addr) (C : Addr) (code : Value) : Code :=
  .compLoop (.GeneratorExp elt [⟨tg, iter, [], 0⟩] scope gpos) 0 (.ref it) .none (gEnv X scope C code)
abbrev gCode0 (X : Cx) (elt tg iter : Expr) (scope : Scope) (gpos : Pos) (it : Addr) (C : Addr) (code : Value) : Code :=
  .compStart (.GeneratorExp elt [⟨tg, iter, [], 0⟩] scope gpos) 0 (.ref it) .none (gEnv X scope C code)
/-- the Around of the generator's frame -/
abbrev gA (X : Cx) (cenv : Env) : Around := ⟨X.A.handled, X.A.depth + 1, pushEnvs [cenv] X.A.frames, X.A.guards, X.A.units + 5⟩
/-- the context of the generator's frame, made at s -/
abbrev gCx (X : Cx) (s : Shared) (H : Hp) (NG : List Str) (ex : List Addr) (cenv : Env) : Cx where
  prog := X.prog
  w := X.w
  K := X.K
  mg := X.mg
  base := X.base
  A := gA X cenv
  N := NG
  s_0 := s
  H_0 := H
  env := cenv
  outer := X.stack
  stack := cenv :: X.stack
  ex := ex
  fn := fun _ => false
  calm := true
  pn := []
  xe := fun _ _ => False
section
variable {X : Cx} {pins : List (Addr × Obj)} {σ : L2.St} {H : Hp} {s : Shared}
theorem gA_eq (X : Cx) (elt tg iter : Expr) (scope : Scope) (gpos : Pos) (it C : Addr) (code : Value) : X.A.in1.in1.over (gCode X elt tg iter scope gpos it C code) [] = gA X (gEnv X scope C code) := rfl
theorem gA_eq0 (X : Cx) (elt tg iter : Expr) (scope : Scope) (gpos : Pos) (it C : Addr) (code : Value) : X.A.in1.in1.over (gCode0 X elt tg iter scope gpos it C code) [] = gA X (gEnv X scope C code) := rfl
theorem room_g {k : Nat} {cenv : Env} (r : Room (k + 1) X.A) : Room k (gA X cenv) := ⟨r.hd, by have := r.dp; show X.A.depth + 1 + 3 * k + 5 < _; omega, by have := r.un; show X.A.units + 5 + 16 * k + 200 < _; omega⟩
theorem inv_gens {g' : Array GenState} {t' : Nat} (I : Inv X pins σ H s) (hg : AllBare g') : Inv X pins σ H { s with gens := g', toks := t' } :=
  ⟨I.ok, I.os, hg, I.base, I.loc, I.cell, I.free, I.freeC, I.pin, I.hok, I.len⟩
theorem gen_start {NG : List Str} {fp : List Addr} {scope : Scope} {code : Value} {it : Addr} {js : List (Option Nat)} {h₁ : Heap} {g₁ : Array GenState} {tk : Nat} (I : Inv X pins σ H s) (G : GSc X.env.scope scope) (hf : ∀ b ∈ fp, FpOk X pins H b) (hfl : ∀ b ∈ fp, b < s.heap.objs.size) (hd : X.A.handled = none)
    (hns : h₁.Ns s.heap.objs.size fun y => if y = (".0" : Str) then some (.ref it) else none) (kp : ∀ b o, s.heap.get? b = some o → h₁.get? b = some o) (hg : AllBare g₁) (hN : capB X.N NG scope js = true) :
    Inv (gCx X s H NG fp (gEnv X scope s.heap.objs.size code)) [] (capS js σ) H { s with heap := h₁, gens := g₁, toks := tk } := by
  have hfree : ∀ y ∈ scope.names, y.2 = .free → ∃ c, X.env.cells.lookup y.1 = some c := fun y hy e => by
    rcases G.free y hy e with k | k
    · exact I.ok.has _ (.inl k)
    · exact I.ok.has _ (.inr k)
  have cm : ∀ {y c}, (cloFrom X.env.cells scope.names []).lookup y = some c → X.env.cells.lookup y = some c := fun {y c} e => by
    rcases cloFrom_mem (PySem.mem_of_lookup e) with hm | ⟨h1, h2⟩
    · cases hm
    · obtain ⟨c1, hc⟩ := hfree _ h1 rfl
      have hc : X.env.cells.lookup y = some c1 := hc
      have e2 : c = c1 := by
        rw [h2, hc] <;> rfl
      rw [e2]
      exact hc
  have look : ∀ {y}, scope.names.lookup y = some .free → ∃ c, (cloFrom X.env.cells scope.names []).lookup y = some c := fun {y} hl => by
    have hy : (y, NameKind.free) ∈ scope.names := PySem.mem_of_lookup hl
    exact mem_lookup (cloFrom_has (cells := X.env.cells) (acc := []) hy)
  have cellK : ∀ {c : Addr} {v : Option Value}, s.heap.IsCell c v → h₁.IsCell c v := fun {c v} ⟨o, ho, hd⟩ => ⟨o, kp _ _ ho, hd⟩
  refine ⟨⟨I.ok.mod, G.kind, I.ok.glob, rfl, Nat.le_refl _, fun y z c e1 e2 => I.ok.inj y z c (cm e1) (cm e2), fun y hy => ?_, fun y c z _ => ?_, fun _ => hd, ?_, .inr ⟨rfl, rfl⟩, fun b hb => ⟨Nat.ne_of_lt (hfl b hb), fun y c e => (hf b hb).2.2.2.2.1 y c (cm e)⟩, I.bs, Nat.le_trans I.ok.bsz I.sz, fun b o e hb => ?_,
      fun b hb z => ?_, I.stack, I.stkFree⟩,
    rfl, hg, Un.kept kp, ⟨_, hns, fun i y v e1 e2 e3 => ?_⟩, fun y c e => ?_, I.hok.fresh (Nat.le_refl _), fun y c e => I.freeC y c (cm e), fun q hq => absurd (show q ∈ ([] : List (Addr × Obj)) ++ [] from hq) (by simp), I.hok.kept kp, ?_⟩
  · have hy : scope.names.lookup y = some .cell ∨ scope.names.lookup y = some .free := hy
    rcases hy with hy | hy
    · exact absurd rfl (G.cell _ (PySem.mem_of_lookup hy))
    · exact look hy
  · have z : false = true := z
    cases z
  · show pushEnvs [_] X.A.frames = _
    rw [I.ok.frames]
    rfl
  · rcases (hf b hb).2.2.2.1 with z | z
    · exact I.ok.noex b o e z
    · exact absurd (Nat.lt_of_lt_of_le (Heap.lt_size (I.ok.bs b o e).1) z) (Nat.lt_irrefl _)
  · rcases List.mem_cons.mp (I.stkSub b z) with e | e
    · exact (hf b hb).2.1 e
    · exact (hf b hb).2.2.1 e
  · obtain ⟨j, h1, h2, h3⟩ := capB_at hN e1 e2
    obtain ⟨m, hn, hl⟩ := I.loc
    have hfr := G.free _ (PySem.mem_of_lookup h3) rfl
    have hvis : Vis X.env.scope y := hfr.elim (fun k => .inr (.inl k)) (fun k => .inr (.inr k))
    obtain ⟨w', r, q⟩ := hl j y v h1 h2 hvis
    obtain ⟨c2, h4⟩ := look h3
    refine ⟨w', r, .inr ⟨.inr h3, c2, h4, ?_⟩⟩
    have c1 := cm h4
    rcases q with ⟨k', _⟩ | ⟨_, c3, e', z⟩
    · have k' : X.env.scope.names.lookup y = some .local := k'
      rcases hfr with k2 | k2 <;> rw [show X.env.scope.names.lookup y = _ from k2] at k' <;> cases k'
    · rw [c1] at e'
      cases e'
      exact cellK z
  · obtain ⟨w', z⟩ := I.cell y c (cm e)
    exact ⟨w', cellK z⟩
  · show (capS js σ).length = NG.length
    unfold capS
    rw [List.length_map]
    exact capB_len hN
end
/-! ### the run -/
/-- the consumer's own objects -/
def SOk (S : List Addr) (H : Hp) (s : Shared) : Prop := ∀ b ∈ S, H b = none ∧ ∃ o, s.heap.get? b = some o ∧ ∀ v, o.data ≠ .cell v
section
variable (X : Cx) (s0 : Shared) (H0 : Hp) (NG : List Str) (fp : List Addr) (cenv : Env) (a : Addr) (ob : Obj) (S : List Addr) (tn : Nat → Heap → Prop) (N : Nat) (Z : Nat → L2.St → Hp → Prop) (P : Nat → V → L2.St → Hp → Prop) (F : Nat → L2.St → Hp → Prop)
def gR : GenEnd := fun n s₀ r s => r = .ok .next ∧ ∃ i σ H, n + i = N + 1 ∧ F i σ H ∧ Inv (gCx X s0 H0 NG fp cenv) ([(a, ob)] ++ pinsAt S s₀.heap) σ H s
def gY : Protocol := fun n s₀ v s kap => ∃ i y σ H, n + i = N ∧ i < N ∧ RelV y v ∧ P i y σ H ∧ Inv (gCx X s0 H0 NG fp cenv) ([(a, ob)] ++ pinsAt S s₀.heap) σ H s ∧ tn (i + 1) s.heap ∧ (∀ b ∈ fp, H b = none) ∧ (∀ b ∈ S, H b = none) ∧
  ∀ s'' : Shared, Z (i + 1) σ H → Inv (gCx X s0 H0 NG fp cenv) [(a, ob)] σ H s'' → tn (i + 1) s''.heap → SOk S H s'' → kap (.send .none) s''
end
structure GFix (X : Cx) (s0 : Shared) (fp : List Addr) (cenv : Env) (a : Addr) (S : List Addr) : Prop where
  f : ∀ b ∈ fp, b ≠ cenv.locals ∧ b ∉ frs X.stack ∧ (∀ x c, cenv.cells.lookup x = some c → c ≠ b) ∧ b ≠ a ∧ b ∉ S
  s : ∀ b ∈ S, s0.heap.objs.size ≤ b ∧ b ≠ cenv.locals ∧ b ∉ frs X.stack ∧ (∀ x c, cenv.cells.lookup x = some c → c ≠ b) ∧ b ≠ a
section
variable {X : Cx} {s0 : Shared} {H0 : Hp} {NG : List Str} {fp : List Addr} {cenv : Env} {a : Addr} {ob : Obj} {S : List Addr} {tn : Nat → Heap → Prop} {N : Nat} {Z : Nat → L2.St → Hp → Prop} {P : Nat → V → L2.St → Hp → Prop} {F : Nat → L2.St → Hp → Prop}
theorem seg_loop {elt tg iter : Expr} {scope : Scope} {gpos : Pos} {it C : Addr} {code : Value} {J : It} {g : TG} {te : TE} (hce : cenv = gEnv X scope C code) (hco : scope.isCoroutine = false) (fx : GFix X s0 fp cenv a S)
    (T : Turn X.prog X.w X.K tg J fp it tn) (hg : PG (gCx X s0 H0 NG fp cenv) tg g) (he : PE (gCx X s0 H0 NG fp cenv) elt te)
    (turn : ∀ i σ H, Z i σ H → (J.stop i H ∧ F i σ H) ∨ (J.go i H ∧ i < N ∧ ∀ x H2, J.yld i H x H2 → g x σ H2 fun σ2 H3 => te σ2 H3 fun y H4 => P i y σ2 H4)) :
    ∀ (k i : Nat) (s : Shared) (σ : L2.St) (H : Hp), N - i = k → i ≤ N → Z i σ H → Inv (gCx X s0 H0 NG fp cenv) [(a, ob)] σ H s → tn i s.heap → (∀ b ∈ fp, H b = none) → SOk S H s →
      Seg (model X.prog X.w) X.A.in1.in1 (gR X s0 H0 NG fp cenv a ob S N F) (gY X s0 H0 NG fp cenv a ob S tn N Z P) (N + 1 - i) s (gCode X elt tg iter scope gpos it C code) ((model X.prog X.w).den (gCode X elt tg iter scope gpos it C code)) [] s := by
  subst hce
  intro k
  induction k with
  | zero =>
    intro i s σ H hk hi hZ I st fr so
    have fS : ∀ b ∈ S, FpOk (gCx X s0 H0 NG fp (gEnv X scope C code)) [(a, ob)] H b := fun b hb => ⟨(so b hb).1, (fx.s b hb).2.1, (fx.s b hb).2.2.1, .inr (fx.s b hb).1, (fx.s b hb).2.2.2.1, fun p hp => by
      have hp : p ∈ [(a, ob)] := hp
      rw [List.mem_singleton.mp hp]; exact Ne.symm (fx.s b hb).2.2.2.2⟩
    have I1 := I.pinned fS fun b hb => (so b hb).2
    have fF : ∀ {H' : Hp}, (∀ b ∈ fp, H' b = none) → ∀ b ∈ fp, FpOk (gCx X s0 H0 NG fp (gEnv X scope C code)) ([(a, ob)] ++ pinsAt S s.heap) H' b := fun hn b hb => ⟨hn b hb, (fx.f b hb).1, (fx.f b hb).2.1, .inl hb, (fx.f b hb).2.2.1, fun p hp => by
      have hp : p ∈ [(a, ob)] ++ pinsAt S s.heap := hp
      rcases List.mem_append.mp hp with hp | hp
      · rw [List.mem_singleton.mp hp]; exact Ne.symm (fx.f b hb).2.2.2.1
      · exact fun z => (fx.f b hb).2.2.2.2 (by rw [← z]; exact (of_pinsAt hp).1)⟩
    show Seg _ X.A.in1.in1 _ _ _ s _ ((compTurn (.GeneratorExp elt [⟨tg, iter, [], 0⟩] scope gpos) 0 (.ref it) .none (gEnv X scope C code)).onRaise (leaving (gEnv X scope C code))) [] s
    rw [compTurn_gen, Sem.onRaise_eq_wrap]
    refine seg_bind_wrap (wpAny_standAt ?_)
    rcases turn i σ H hZ with ⟨stop, hF⟩ | ⟨_, hlt, _⟩
    · refine seg_bind_wrap (thn (T.done (gCx X s0 H0 NG fp (gEnv X scope C code)) rfl rfl rfl rfl i _ s σ H _ I1 (fF fr) st stop) fun r s1 ⟨hr, J1⟩ => ?_)
      subst hr
      exact seg_end (.ok .next) ⟨rfl, i, σ, H, by omega, hF, J1⟩
    · omega
  | succ k ih =>
    intro i s σ H hk hi hZ I st fr so
    have fS : ∀ b ∈ S, FpOk (gCx X s0 H0 NG fp (gEnv X scope C code)) [(a, ob)] H b := fun b hb => ⟨(so b hb).1, (fx.s b hb).2.1, (fx.s b hb).2.2.1, .inr (fx.s b hb).1, (fx.s b hb).2.2.2.1, fun p hp => by
      have hp : p ∈ [(a, ob)] := hp
      rw [List.mem_singleton.mp hp]; exact Ne.symm (fx.s b hb).2.2.2.2⟩
    have I1 := I.pinned fS fun b hb => (so b hb).2
    have fF : ∀ {H' : Hp}, (∀ b ∈ fp, H' b = none) → ∀ b ∈ fp, FpOk (gCx X s0 H0 NG fp (gEnv X scope C code)) ([(a, ob)] ++ pinsAt S s.heap) H' b := fun hn b hb => ⟨hn b hb, (fx.f b hb).1, (fx.f b hb).2.1, .inl hb, (fx.f b hb).2.2.1, fun p hp => by
      have hp : p ∈ [(a, ob)] ++ pinsAt S s.heap := hp
      rcases List.mem_append.mp hp with hp | hp
      · rw [List.mem_singleton.mp hp]; exact Ne.symm (fx.f b hb).2.2.2.1
      · exact fun z => (fx.f b hb).2.2.2.2 (by rw [← z]; exact (of_pinsAt hp).1)⟩
    show Seg _ X.A.in1.in1 _ _ _ s _ ((compTurn (.GeneratorExp elt [⟨tg, iter, [], 0⟩] scope gpos) 0 (.ref it) .none (gEnv X scope C code)).onRaise (leaving (gEnv X scope C code))) [] s
    rw [compTurn_gen, Sem.onRaise_eq_wrap]
    refine seg_bind_wrap (wpAny_standAt ?_)
    rcases turn i σ H hZ with ⟨stop, hF⟩ | ⟨go, hlt, step⟩
    · refine seg_bind_wrap (thn (T.done (gCx X s0 H0 NG fp (gEnv X scope C code)) rfl rfl rfl rfl i _ s σ H _ I1 (fF fr) st stop) fun r s1 ⟨hr, J1⟩ => ?_)
      subst hr
      exact seg_end (.ok .next) ⟨rfl, i, σ, H, by omega, hF, J1⟩
    · refine seg_bind_wrap (thn (T.item (gCx X s0 H0 NG fp (gEnv X scope C code)) rfl rfl rfl rfl i _ s σ H _ I1 (fF fr) st go) fun r s1 ⟨u, hr, h1⟩ => ?_)
      subst hr
      refine seg_bind_wrap (thn h1 fun _ s2 ⟨x, H2, I2, r2, y2, st2, fr2⟩ => ?_)
      have I2' := I2.pinned (fF fr2) (T.obj _ _ st2)
      refine seg_bind_wrap (wpAny_mono (hg.run _ s2 σ H2 x u _ I2' r2 (step x H2 y2)) (fun _ s3 ⟨σ3, H3, I3, q3⟩ => ?_) fun _ _ z => z.elim)
      simp only [List.forIn_nil]
      refine seg_bind_wrap (wpAny_pure ?_)
      simp only [if_true]
      have hy : ∀ v, yieldOut (gEnv X scope C code) v = yieldValue v := fun v => by
        show (if scope.isCoroutine = true then _ else _) = _
        simp only [hco, Bool.false_eq_true, if_false]
      simp only [hy]
      rw [Sem.bind_eq_wrap', Sem.bind_eq_wrap', Sem.wrap_wrap, Sem.wrap_wrap]
      refine seg_wrap (wpAny_mono (he.run _ s3 σ3 H3 _ I3 q3) (fun v s4 ⟨y, H4, I4, r4, q4⟩ => ?_) fun _ _ z => z.elim)
      have en : N + 1 - i = (N + 1 - (i + 1)) + 1 := by omega
      rw [en]
      have pinF : ∀ b ∈ fp, ∃ o, s2.heap.get? b = some o ∧ s4.heap.get? b = some o ∧ H4 b = none := fun b hb => by
        obtain ⟨o, e, d⟩ := T.obj _ _ st2 b hb
        have := I4.pin (b, o) (List.mem_append_right _ (List.mem_append_right _ (mem_pinsAt hb e)))
        exact ⟨o, e, this.1, this.2.1⟩
      have st4 : tn (i + 1) s4.heap := T.keep _ _ _ st2 fun b hb o e => by
        obtain ⟨o', e1, e2, _⟩ := pinF b hb
        rw [e] at e1; cases e1
        exact e2
      have fr4 : ∀ b ∈ fp, H4 b = none := fun b hb => (pinF b hb).elim fun _ h => h.2.2
      have fS4 : ∀ b ∈ S, H4 b = none := fun b hb => by
        obtain ⟨_, o, e, _⟩ := so b hb
        exact (I4.pin (b, o) (List.mem_append_right _ (List.mem_append_left _ (List.mem_append_right _ (mem_pinsAt hb e))))).2.1
      refine seg_at (seg_yield rfl rfl rfl ⟨i, y, σ3, H4, by omega, hlt, r4, q4, I4.unpinned, st4, fr4, fS4, fun s'' z1 z2 z3 z4 => ?_⟩)
      exact seg_again rfl (ih (i + 1) s'' σ3 H4 (by omega) hlt z1 z2 z3 fr4 z4)
theorem seg_start {elt tg iter : Expr} {scope : Scope} {gpos : Pos} {it C : Addr} {code : Value} {J : It} {g : TG} {te : TE} (hce : cenv = gEnv X scope C code) (hco : scope.isCoroutine = false) (fx : GFix X s0 fp cenv a S)
    (T : Turn X.prog X.w X.K tg J fp it tn) (hg : PG (gCx X s0 H0 NG fp cenv) tg g) (he : PE (gCx X s0 H0 NG fp cenv) elt te)
    (turn : ∀ i σ H, Z i σ H → (J.stop i H ∧ F i σ H) ∨ (J.go i H ∧ i < N ∧ ∀ x H2, J.yld i H x H2 → g x σ H2 fun σ2 H3 => te σ2 H3 fun y H4 => P i y σ2 H4))
    (s : Shared) (σ : L2.St) (H : Hp) (hZ : Z 0 σ H) (I : Inv (gCx X s0 H0 NG fp cenv) [(a, ob)] σ H s) (st : tn 0 s.heap) (fr : ∀ b ∈ fp, H b = none) (so : SOk S H s) :
      Seg (model X.prog X.w) X.A.in1.in1 (gR X s0 H0 NG fp cenv a ob S N F) (gY X s0 H0 NG fp cenv a ob S tn N Z P) (N + 1) s (gCode0 X elt tg iter scope gpos it C code) ((model X.prog X.w).den (gCode0 X elt tg iter scope gpos it C code)) [] s := by
  have loop := seg_loop (elt := elt) (tg := tg) (iter := iter) (gpos := gpos) (it := it) hce hco fx T hg he turn N 0 s σ H rfl (Nat.zero_le _) hZ I st fr so
  show Seg _ X.A.in1.in1 _ _ _ s _ ((compStart (.GeneratorExp elt [⟨tg, iter, [], 0⟩] scope gpos) 0 (.ref it) .none (gEnv X scope C code)).onRaise (leaving (gEnv X scope C code))) [] s
  unfold compStart
  rw [Sem.onRaise_eq_wrap]
  show Seg _ X.A.in1.in1 _ _ _ s _ ((ask >>= _).wrap _ _ _ _) [] s
  refine seg_bind_wrap (wpAny_askSetting ?_)
  split
  · exact seg_again rfl loop
  · first
      | exact seg_bind_wrap (wpAny_rule (seg_bind_wrap (wpAny_standAt (seg_bind_wrap (T.self _ 0 s _ _ st (seg_again rfl loop))))))
      | (refine seg_bind_wrap (wpAny_rule ?_); show Seg _ X.A.in1.in1 _ _ _ s _ ((standAt iter.pos >>= _).wrap _ _ _ _) [] s; exact seg_bind_wrap (wpAny_standAt (seg_bind_wrap (T.self _ 0 s _ _ st (seg_again rfl loop)))))
end
theorem bare_set {gens : Array GenState} {g : Nat} {x : GenState} (h : AllBare gens) (hx : x.bare = true) : AllBare (gens.setIfInBounds g x) := fun y hy => by
  rcases Array.mem_or_eq_of_mem_setIfInBounds hy with h1 | h1
  · exact h y h1
  · rw [h1]; exact hx
section
variable (X : Cx) (s0 : Shared) (H0 : Hp) (NG : List Str) (fp : List Addr) (cenv : Env) (a : Addr) (ob : Obj) (g : Nat) (S : List Addr) (tn : Nat → Heap → Prop) (N : Nat) (Z : Nat → L2.St → Hp → Prop) (P : Nat → V → L2.St → Hp → Prop) (F : Nat → L2.St → Hp → Prop)
/-- the generator sleeps at turn i -/
def GenSt (i : Nat) (s : Shared) : Prop := ∃ σ H, i ≤ N ∧ Z i σ H ∧ Inv (gCx X s0 H0 NG fp cenv) [(a, ob)] σ H s ∧ tn i s.heap ∧ (∀ b ∈ fp, H b = none) ∧ SOk S H s ∧ ∃ gs, s.gens[g]? = some gs ∧
  ∀ s'' : Shared, Inv (gCx X s0 H0 NG fp cenv) [(a, ob)] σ H s'' → tn i s''.heap → SOk S H s'' → gs.Goes (model X.prog X.w) X.A.in1.in1 (gR X s0 H0 NG fp cenv a ob S N F) (gY X s0 H0 NG fp cenv a ob S tn N Z P) (N + 1 - i) (.send .none) s''
def GenNext (i : Nat) (s : Shared) (r : Option Value) (s' : Shared) : Prop :=
  (r = none ∧ ∃ σ H, F i σ H ∧ Inv (gCx X s0 H0 NG fp cenv) [(a, ob)] σ H s' ∧ SOk S H s' ∧ ∀ b ∈ S, s'.heap.get? b = s.heap.get? b) ∨
  ∃ v y σ H, r = some v ∧ i < N ∧ RelV y v ∧ P i y σ H ∧ Inv (gCx X s0 H0 NG fp cenv) [(a, ob)] σ H s' ∧ SOk S H s' ∧ (∀ b ∈ S, s'.heap.get? b = s.heap.get? b) ∧
    (Z (i + 1) σ H → ∀ s'' : Shared, Inv (gCx X s0 H0 NG fp cenv) [(a, ob)] σ H s'' → (∀ b ∈ fp, s''.heap.get? b = s'.heap.get? b) → SOk S H s'' → s''.gens = s'.gens → GenSt X s0 H0 NG fp cenv a ob g S tn N Z P F (i + 1) s'')
end
section
variable {X : Cx} {s0 : Shared} {H0 : Hp} {NG : List Str} {fp : List Addr} {cenv : Env} {a : Addr} {ob : Obj} {g : Nat} {S : List Addr} {tn : Nat → Heap → Prop} {N : Nat} {Z : Nat → L2.St → Hp → Prop} {P : Nat → V → L2.St → Hp → Prop} {F : Nat → L2.St → Hp → Prop}
theorem gen_next {tg : Expr} {J : It} {it : Addr} (T : Turn X.prog X.w X.K tg J fp it tn) (hob : ∀ h : Heap, h.get? a = some ob → h.IsGen a g) (hd : X.A.handled = none) (hroom : X.A.depth < recursionLimit) {i : Nat} {s : Shared} {E : Value → Shared → Prop}
    (h : GenSt X s0 H0 NG fp cenv a ob g S tn N Z P F i s) : wpAny (model X.prog X.w) X.A.in1 (pyNext (.ref a)) (GenNext X s0 H0 NG fp cenv a ob g S tn N Z P F i s) E s := by
  obtain ⟨σ, H, hi, hZ, I, st, fr, so, gs, hgs, hgo⟩ := h
  have pa := I.pin (a, ob) (List.mem_append_right _ (List.mem_singleton.mpr rfl))
  have hbs : AllBare (s.setGen g .running).gens := bare_set I.bare rfl
  have hgl : g < s.gens.size := (Array.getElem?_eq_some_iff.mp hgs).1
  refine GenW.wpAny_gsz (n := g + 1) hgl ?_
  refine wpAny_pyNext_genexpQ (P := fun n s₀ s => ∃ i σ H, n + i = N + 1 ∧ F i σ H ∧ Inv (gCx X s0 H0 NG fp cenv) ([(a, ob)] ++ pinsAt S s₀.heap) σ H s) hd I.nolimit hroom (hob _ pa.1) hgs (hgo _ (inv_gens (t' := s.toks) I hbs) st so) (fun v s₁ gs' hb hv => ?_) (fun s₁ hp h' hk => ?_)
  · intro hsz
    obtain ⟨i', y, σ2, H2, e1, hlt, rv, hP, I2, st2, fr2, fS2, kap⟩ := hv
    have ei : i' = i := by omega
    subst ei
    have pS : ∀ b ∈ S, ∃ o, s.heap.get? b = some o ∧ s₁.heap.get? b = some o ∧ ∀ v, o.data ≠ .cell v := fun b hb => by
      obtain ⟨_, o, e, d⟩ := so b hb
      exact ⟨o, e, (I2.pin (b, o) (List.mem_append_right _ (List.mem_append_right _ (mem_pinsAt hb e)))).1, d⟩
    have hb2 : AllBare (s₁.setGen g gs').gens := bare_set I2.bare hb
    refine .inr ⟨v, y, σ2, H2, rfl, hlt, rv, hP, inv_gens (t' := s₁.toks) I2.unpinned hb2, fun b hb => ⟨fS2 b hb, (pS b hb).elim fun o h => ⟨o, h.2.1, h.2.2⟩⟩, fun b hb => ?_, fun hZ2 s'' J1 kf so2 eg => ?_⟩
    · obtain ⟨o, e, e2, _⟩ := pS b hb
      exact e2.trans e.symm
    · have stn : tn (i' + 1) s''.heap := T.keep _ _ _ st2 fun b hb o e => (kf b hb).trans e
      refine ⟨σ2, H2, hlt, hZ2, J1, stn, fr2, so2, gs', ?_, fun s3 J3 st3 so3 => ?_⟩
      · rw [eg]
        exact L2.setGen_at (by
          have q : (s₁.setGen g gs').gens.size = s₁.gens.size := GenW.setGen_size _ _ _
          have hsz' : g + 1 ≤ (s₁.setGen g gs').gens.size := hsz
          omega)
      · have e3 : N + 1 - i' = (N + 1 - (i' + 1)) + 1 := by omega
        have := kap s3 hZ2 J3 st3 so3
        rw [e3] at this
        exact this
  · intro _
    obtain ⟨i', σ2, H2, e1, hF, I2⟩ := hp
    have ei : i' = i := by omega
    subst ei
    have pS : ∀ b ∈ S, ∃ o, s.heap.get? b = some o ∧ s₁.heap.get? b = some o ∧ (∀ v, o.data ≠ .cell v) ∧ H2 b = none := fun b hb => by
      obtain ⟨_, o, e, d⟩ := so b hb
      have p := I2.pin (b, o) (List.mem_append_right _ (List.mem_append_right _ (mem_pinsAt hb e)))
      exact ⟨o, e, p.1, d, p.2.1⟩
    have hb2 : AllBare (s₁.setGen g .finished).gens := bare_set I2.bare rfl
    have J1 := (inv_gens (t' := s₁.toks) I2.unpinned hb2).kept (t' := s₁.toks) hk
    refine .inl ⟨rfl, σ2, H2, hF, J1, fun b hb => ⟨(pS b hb).elim fun _ h => h.2.2.2, (pS b hb).elim fun o h => ⟨o, hk _ _ h.2.1, h.2.2.1⟩⟩, fun b hb => ?_⟩
    obtain ⟨o, e, e2, _⟩ := pS b hb
    exact (hk _ _ e2).trans e.symm
theorem all_loop {tg : Expr} {J : It} {it : Addr} {Q : VK} (T : Turn X.prog X.w X.K tg J fp it tn) (hob : ∀ h : Heap, h.get? a = some ob → h.IsGen a g) (hd : X.A.handled = none) (hroom : X.A.depth < recursionLimit) : ∀ (k i : Nat) (s : Shared), N - i = k →
    GenSt X s0 H0 NG fp cenv a ob g [] tn N Z (fun i y σ H => (y = .bl true ∧ Z (i + 1) σ H) ∨ (y = .bl false ∧ Q (.bl false) H)) (fun _ _ H => Q (.bl true) H) i s →
    codeAny (model X.prog X.w) X.A (.builtin "all.loop" ⟨[.ref a], []⟩) (fun r s' => ∃ b σ H, r = .ok (.ret (.bool b)) ∧ Inv (gCx X s0 H0 NG fp cenv) [(a, ob)] σ H s' ∧ Q (.bl b) H) s := by
  intro k
  induction k with
  | zero =>
    intro i s hk h
    refine codeAny_builtin F.entry_all_loop ?_
    rw [Around.under_plainId F.plain_all_loop _]
    show wpAny _ X.A.in1 (pyNext (.ref a) >>= _) _ _ s
    refine wpAny_bind (thn (gen_next T hob hd hroom h) fun r s' hn => ?_)
    rcases hn with ⟨rfl, σ, H, hF, I, _⟩ | ⟨v, y, σ, H, rfl, hlt, _⟩
    · exact wpAny_bind (wpAny_rule (wpAny_pure ⟨true, σ, H, rfl, I, hF⟩))
    · omega
  | succ k ih =>
    intro i s hk h
    refine codeAny_builtin F.entry_all_loop ?_
    rw [Around.under_plainId F.plain_all_loop _]
    show wpAny _ X.A.in1 (pyNext (.ref a) >>= _) _ _ s
    refine wpAny_bind (thn (gen_next T hob hd hroom h) fun r s' hn => ?_)
    rcases hn with ⟨rfl, σ, H, hF, I, _⟩ | ⟨v, y, σ, H, rfl, hlt, rv, hP, I, so, _, next⟩
    · exact wpAny_bind (wpAny_rule (wpAny_pure ⟨true, σ, H, rfl, I, hF⟩))
    · rcases hP with ⟨rfl, hZ⟩ | ⟨rfl, hQ⟩
      · obtain rfl : v = .bool true := rv
        refine wpAny_bind (wpAny_holding (wpAny_truthy_bool ?_))
        refine wpAny_bind (wpAny_letGo ?_)
        simp only [if_true]
        exact wpAny_pure ⟨plainId_quiet F.plain_all_loop _, ih (i + 1) _ (by omega) (next hZ s' I (fun _ _ => rfl) so rfl)⟩
      · obtain rfl : v = .bool false := rv
        refine wpAny_bind (wpAny_holding (wpAny_truthy_bool ?_))
        refine wpAny_bind (wpAny_letGo ?_)
        simp only [Bool.false_eq_true, if_false]
        exact wpAny_bind (wpAny_rule (wpAny_pure ⟨false, σ, H, rfl, I, hQ⟩))
theorem any_loop {tg : Expr} {J : It} {it : Addr} {Q : VK} (T : Turn X.prog X.w X.K tg J fp it tn) (hob : ∀ h : Heap, h.get? a = some ob → h.IsGen a g) (hd : X.A.handled = none) (hroom : X.A.depth < recursionLimit) : ∀ (k i : Nat) (s : Shared), N - i = k →
    GenSt X s0 H0 NG fp cenv a ob g [] tn N Z (fun i y σ H => (y = .bl false ∧ Z (i + 1) σ H) ∨ (y = .bl true ∧ Q (.bl true) H)) (fun _ _ H => Q (.bl false) H) i s →
    codeAny (model X.prog X.w) X.A (.builtin "any.loop" ⟨[.ref a], []⟩) (fun r s' => ∃ b σ H, r = .ok (.ret (.bool b)) ∧ Inv (gCx X s0 H0 NG fp cenv) [(a, ob)] σ H s' ∧ Q (.bl b) H) s := by
  intro k
  induction k with
  | zero =>
    intro i s hk h
    refine codeAny_builtin F.entry_any_loop ?_
    rw [Around.under_plainId F.plain_any_loop _]
    show wpAny _ X.A.in1 (pyNext (.ref a) >>= _) _ _ s
    refine wpAny_bind (thn (gen_next T hob hd hroom h) fun r s' hn => ?_)
    rcases hn with ⟨rfl, σ, H, hF, I, _⟩ | ⟨v, y, σ, H, rfl, hlt, _⟩
    · exact wpAny_bind (wpAny_rule (wpAny_pure ⟨false, σ, H, rfl, I, hF⟩))
    · omega
  | succ k ih =>
    intro i s hk h
    refine codeAny_builtin F.entry_any_loop ?_
    rw [Around.under_plainId F.plain_any_loop _]
    show wpAny _ X.A.in1 (pyNext (.ref a) >>= _) _ _ s
    refine wpAny_bind (thn (gen_next T hob hd hroom h) fun r s' hn => ?_)
    rcases hn with ⟨rfl, σ, H, hF, I, _⟩ | ⟨v, y, σ, H, rfl, hlt, rv, hP, I, so, _, next⟩
    · exact wpAny_bind (wpAny_rule (wpAny_pure ⟨false, σ, H, rfl, I, hF⟩))
    · rcases hP with ⟨rfl, hZ⟩ | ⟨rfl, hQ⟩
      · obtain rfl : v = .bool false := rv
        refine wpAny_bind (wpAny_holding (wpAny_truthy_bool ?_))
        refine wpAny_bind (wpAny_letGo ?_)
        simp only [Bool.false_eq_true, if_false]
        exact wpAny_pure ⟨plainId_quiet F.plain_any_loop _, ih (i + 1) _ (by omega) (next hZ s' I (fun _ _ => rfl) so rfl)⟩
      · obtain rfl : v = .bool true := rv
        refine wpAny_bind (wpAny_holding (wpAny_truthy_bool ?_))
        refine wpAny_bind (wpAny_letGo ?_)
        simp only [if_true]
        exact wpAny_bind (wpAny_rule (wpAny_pure ⟨true, σ, H, rfl, I, hQ⟩))
/-- the sum so far stands in the list at S -/
theorem sum_loop {tg : Expr} {J : It} {it : Addr} {Q : VK} {S : Addr} {vals : List Int} (hfp : ∀ b ∈ fp, b ≠ S) (hSa : S ≠ a) (T : Turn X.prog X.w X.K tg J fp it tn) (hob : ∀ h : Heap, h.get? a = some ob → h.IsGen a g) (hd : X.A.handled = none) (hroom : X.A.depth < recursionLimit)
    (hS : s0.heap.objs.size ≤ S ∧ S ≠ cenv.locals ∧ S ∉ frs X.stack ∧ (∀ x c, cenv.cells.lookup x = some c → c ≠ S))
    (hfit : ∀ j v, vals[j]? = some v → InLong v ∧ InLong ((vals.take j).sum + v)) : ∀ (k i : Nat) (s : Shared) (tA : Tok) (c : Nat), N - i = k →
    GenSt X s0 H0 NG fp cenv a ob g [S] tn N Z (fun i y σ H => ∃ v, vals[i]? = some v ∧ y = .int v ∧ Z (i + 1) σ H) (fun i _ H => i = vals.length ∧ Q (.int vals.sum) H) i s → s.heap.get? S = some { cls := .type "list", dict := none, data := .seq #[.int (vals.take i).sum tA] c, slots := #[] } →
    codeAny (model X.prog X.w) X.A (.builtin "sum.loop" ⟨[.ref a, .ref S, rawInt 0, rawInt 0], []⟩) (fun r s' => ∃ t σ H, r = .ok (.ret (.int vals.sum t)) ∧ Inv (gCx X s0 H0 NG fp cenv) [(a, ob)] σ H s' ∧ Q (.int vals.sum) H) s := by
  intro k
  have fin : ∀ (i : Nat) (tA : Tok), i = vals.length → (vals.take i).sum = vals.sum := fun i _ e => by rw [e, List.take_length]
  induction k with
  | zero =>
    intro i s tA c hk h hs
    refine codeAny_builtin F.entry_sum_loop ?_
    rw [Around.under_plainId F.plain_sum_loop _]
    show wpAny _ X.A.in1 (seqItems? (.ref S) >>= _) _ _ s
    refine wpAny_bind (wpAny_seqItems hs rfl ?_)
    show wpAny _ X.A.in1 (tryCatch (pyNext (.ref a)) _ >>= _) _ _ s
    refine wpAny_bind (wpAny_tryCatch (thn (gen_next T hob hd hroom h) fun r s' hn => ?_))
    rcases hn with ⟨rfl, σ, H, ⟨e, hF⟩, I, _⟩ | ⟨v, y, σ, H, rfl, hlt, _⟩
    · exact wpAny_pure ⟨tA, σ, H, by rw [← fin i tA e]; rfl, I, hF⟩
    · omega
  | succ k ih =>
    intro i s tA c hk h hs
    refine codeAny_builtin F.entry_sum_loop ?_
    rw [Around.under_plainId F.plain_sum_loop _]
    show wpAny _ X.A.in1 (seqItems? (.ref S) >>= _) _ _ s
    refine wpAny_bind (wpAny_seqItems hs rfl ?_)
    show wpAny _ X.A.in1 (tryCatch (pyNext (.ref a)) _ >>= _) _ _ s
    refine wpAny_bind (wpAny_tryCatch (thn (gen_next T hob hd hroom h) fun r s' hn => ?_))
    rcases hn with ⟨rfl, σ, H, ⟨e, hF⟩, I, _⟩ | ⟨v, y, σ, H, rfl, hlt, rv, ⟨z, hz, rfl, hZ⟩, I, so, same, next⟩
    · exact wpAny_pure ⟨tA, σ, H, by rw [← fin i tA e]; rfl, I, hF⟩
    · obtain ⟨t, rfl⟩ := _root_.id rv
      have hS' : s'.heap.get? S = some { cls := .type "list", dict := none, data := .seq #[.int (vals.take i).sum tA] c, slots := #[] } := (same S (List.mem_singleton.mpr rfl)).trans hs
      obtain ⟨⟨f1, f2⟩, f3, f4⟩ := hfit i z hz
      have hc : ((decide (-(2 ^ 63) ≤ z) && decide (z < 2 ^ 63)) && (decide (-(2 ^ 63) ≤ (vals.take i).sum + z) && decide ((vals.take i).sum + z < 2 ^ 63))) = true := by
        simp only [Bool.and_eq_true, decide_eq_true_eq]
        exact ⟨⟨f1, f2⟩, f3, f4⟩
      have es : (vals.take (i + 1)).sum = (vals.take i).sum + z := by
        rw [List.take_succ, hz]; simp
      show wpAny _ X.A.in1 (if (_ : Bool) = true then (mkInt ((vals.take i).sum + z) >>= _) else _) _ _ _
      split
      · refine wpAny_bind (wpAny_mkInt ?_)
        show wpAny _ X.A.in1 (updateSeq S (fun _ => #[.int ((vals.take i).sum + z) s'.toks]) >>= _) _ _ _
        refine wpAny_bind ?_
        refine wpAny_updateSeq hS' rfl (wpAny_pure ⟨plainId_quiet F.plain_sum_loop _, ih (i + 1) _ s'.toks _ (by omega) (next hZ _ ?_ (fun b hb => ?_) ?_ rfl) (by rw [es]; exact Heap.get?_update_self _ hS' rfl)⟩)
        · refine (inv_gens (t' := s'.toks + 1) I I.bare).turned (it := S) (fun b o hb e => (Heap.get?_update_other _ _ (Ne.symm hb)).trans e) (so S (List.mem_singleton.mpr rfl)).1 hS.2.1 (.inr hS.1) hS.2.2.2 fun p hp => ?_
          have hp : p ∈ [(a, ob)] := hp
          rw [List.mem_singleton.mp hp]
          exact Ne.symm hSa
        · exact Heap.get?_update_other _ _ (Ne.symm (hfp b hb))
        · intro b hb
          rw [List.mem_singleton.mp hb]
          exact ⟨(so S (List.mem_singleton.mpr rfl)).1, _, Heap.get?_update_self _ hS' rfl, fun v e => by cases e⟩
      · rename_i hn
        exact absurd hc hn
end
/-! ### the making -/
/-- a generator has been made: a, at s5; H3 is what is held from then on -/
def Made (X : Cx) (pins : List (Addr × Obj)) (σ : L2.St) (NG : List Str) (js : List (Option Nat)) (elt tg iter : Expr) (scope : Scope) (gpos : Pos) (J : It) (H3 : Hp) (a : Addr) (s5 : Shared) : Prop :=
  ∃ (s3 : Shared) (it : Addr) (fp : List Addr) (tn : Nat → Heap → Prop) (C : Addr) (code : Value) (ob : Obj) (g : Nat), Inv X pins σ H3 s3 ∧ Turn X.prog X.w X.K tg J fp it tn ∧ tn 0 s5.heap ∧ (∀ b ∈ fp, FpOk X pins H3 b) ∧ (∀ b ∈ fp, b < s3.heap.objs.size) ∧ C = s3.heap.objs.size ∧ C < a ∧
    Inv (gCx X s3 H3 NG fp (gEnv X scope C code)) [(a, ob)] (capS js σ) H3 s5 ∧ s5.gens[g]? = some (.fresh (gCode0 X elt tg iter scope gpos it C code)) ∧ (∀ h : Heap, h.get? a = some ob → h.IsGen a g)
section
variable {X : Cx} {pins : List (Addr × Obj)} {σ : L2.St} {H : Hp} {s : Shared}
theorem gen_make {c P : Addr} {elt tg iter : Expr} {gpos : Pos} {scope : Scope} {NG : List Str} {js : List (Option Nat)} {wi : TI} {k : Nat} {Q' : Value → Shared → Prop} {R : It → Hp → Prop}
    (hr : Room k X.A) (TB : TabB X.base X.mg c P) (hcode : X.env.code = .ref c) (G : GSc X.env.scope scope) (hi : PI X tg iter wi) (hN : capB X.N NG scope js = true)
    (hs : ∀ v, genFold iter X.env v = pure v) (I : Inv X pins σ H s) (h : wi σ H fun J H1 => TabG H1 P ∧ R J H1)
    (hQ : ∀ J H1 H3 a s5, Tabbed P H1 H3 → R J H1 → Made X pins σ NG js elt tg iter scope gpos J H3 a s5 → Q' (.ref a) s5) :
    wpAny (model X.prog X.w) X.A (eval (.GeneratorExp elt [⟨tg, iter, [], 0⟩] scope gpos) X.env) Q' X.xe s := by
  have hfree : ∀ y ∈ scope.names, y.2 = .free → ∃ c, X.env.cells.lookup y.1 = some c := fun y hy e => by
    rcases G.free y hy e with k | k
    · exact I.ok.has _ (.inl k)
    · exact I.ok.has _ (.inr k)
  refine wpAny_GeneratorExp_make G.co (closure_ok hfree) G.cell G.dot G.kind (by have := hr.dp; omega) ?_ hs
  refine thn (hi.run pins s σ H _ I h) fun xv s1 h1 => thn h1 fun itv s2 h2 => ?_
  obtain ⟨it, fp, tn, J, H2, rfl, I2, T, st2, f2, ⟨ps, hP, ht⟩, hR⟩ := h2
  have hPs : s2.heap.get? P = some { cls := .none, data := .fields ps } := I2.hok P _ hP
  have cd : PySem.W.CodeHd s2.heap c P := TB.code.keeps I2.bk
  refine ⟨I2.nolimit, ?_⟩
  have cont : ∀ (code : Value) (h3 : Heap) (tk : Nat) (more : Array Value), (∀ b o, b ≠ P → s2.heap.get? b = some o → h3.get? b = some o) → h3.get? P = some { cls := .none, data := .fields (ps ++ more) } → TriplesOk (ps ++ more).toList →
      wpAny (model X.prog X.w) X.A (builtinsFor X.env.globals X.env.builtins) (fun bi s₄ =>
        ∀ h' : Heap, h'.Ns s₄.heap.objs.size (fun y => if y = ".0" then some (.ref it) else none) → Heap.SameBut s₄.heap.objs.size (s₄.heap.push { cls := .type "frame", data := .dict #[] }) h' →
          Q' (.ref h'.objs.size) { s₄ with
            gens := s₄.gens.push (.fresh (.compStart (.GeneratorExp elt [⟨tg, iter, [], 0⟩] scope gpos) 0 (.ref it) .none (genEnv scope (cloFrom X.env.cells scope.names []) s₄.heap.objs.size code bi X.env))),
            toks := s₄.toks + 1 + 1 + 1,
            heap := h'.push { cls := .type "generator", data := .fields #[.int s₄.gens.size 0, .str "<genexpr>" (s₄.toks + 1), .str (X.env.qual ++ "<genexpr>") (s₄.toks + 1 + 1)] } }) X.xe { s2 with heap := h3, toks := tk } := by
    intro code h3 tk more hx hP3 ht3
    have J3 : Inv X pins σ (upd H2 P (.tbl (ps ++ more))) { s2 with heap := h3, toks := tk } := inv_tab (g' := s2.gens) (d' := s2.drawn) I2 hP hx hP3 I2.bare
    obtain ⟨bm, ob, e1, e2, e3, e4, e5, e6, e7, e8⟩ := TB.bm
    refine wpAny_builtinsFor (m := X.mg) (by rw [J3.ok.glob]; exact J3.mod.glob.keeps J3.bk) e1 e2 (J3.bk _ _ e5) e6 e7 e8 ?_
    intro h' hn' hs'
    have hfP : ∀ b ∈ fp, b ≠ P := fun b hb z => by
      have := (f2 b hb).1
      rw [z, hP] at this
      cases this
    have hsz : h'.objs.size = h3.objs.size + 1 := by rw [hs'.1, Heap.size_push]
    have keep' : ∀ b o, h3.get? b = some o → h'.get? b = some o := fun b o e => hs'.extBut b o (Nat.ne_of_lt (Heap.lt_size e)) (Heap.get?_push_of_some _ e)
    have keep₅ : ∀ b o, h3.get? b = some o → (h'.push { cls := .type "generator", data := .fields #[.int s2.gens.size 0, .str "<genexpr>" (tk + 1), .str (X.env.qual ++ "<genexpr>") (tk + 1 + 1)] }).get? b = some o :=
      fun b o e => Heap.get?_push_of_some _ (keep' b o e)
    have f3 : ∀ b ∈ fp, FpOk X pins (upd H2 P (.tbl (ps ++ more))) b := fun b hb => ⟨by rw [upd_ne (hfP b hb)]; exact (f2 b hb).1, (f2 b hb).2⟩
    have fl : ∀ b ∈ fp, b < h3.objs.size := fun b hb => by
      obtain ⟨o, e, _⟩ := T.obj _ _ st2 b hb
      exact Heap.lt_size (hx b o (hfP b hb) e)
    have IX := gen_start (s := { s2 with heap := h3, toks := tk }) (NG := NG) (code := code) (it := it) (js := js) (tk := tk + 1 + 1 + 1) (g₁ := s2.gens.push (.fresh (.compStart (.GeneratorExp elt [⟨tg, iter, [], 0⟩] scope gpos) 0 (.ref it) .none (gEnv X scope h3.objs.size code)))) J3 G f3 fl hr.hd (hn'.push _) keep₅ (I2.bare.push rfl) hN
    have aF : h3.objs.size ≤ h'.objs.size := by omega
    refine hQ J H2 _ h'.objs.size _ ⟨⟨ps ++ more, upd_same, ht3⟩, fun b hb => upd_ne hb⟩ hR ⟨{ s2 with heap := h3, toks := tk }, it, fp, tn, h3.objs.size, code, { cls := .type "generator", data := .fields #[.int s2.gens.size 0, .str "<genexpr>" (tk + 1), .str (X.env.qual ++ "<genexpr>") (tk + 1 + 1)] }, s2.gens.size, J3, T, T.keep _ _ _ st2 fun b hb o e => keep₅ b o (hx b o (hfP b hb) e), f3, fl, rfl, (by show h3.objs.size < h'.objs.size; omega), IX.pins_of fun p hp => ?_, Array.getElem?_push_size .., fun h e => ⟨_, _, _, e, rfl, rfl, rfl⟩⟩
    rw [List.mem_singleton.mp hp]
    have nfr : h'.objs.size ∉ frs X.stack := fun z => by
      rcases List.mem_cons.mp (J3.stkSub _ z) with e | e
      · have h1 : X.env.locals < h3.objs.size := J3.lt
        have e : (h'.objs.size : Nat) = X.env.locals := e
        rw [← e] at h1
        exact absurd (Nat.lt_of_lt_of_le h1 aF) (Nat.lt_irrefl _)
      · exact J3.nofs (a := h'.objs.size) aF e
    refine ⟨Heap.get?_push_size _ rfl, J3.hok.fresh aF, ?_, nfr, fun v e => by cases e⟩
    show h'.objs.size ≠ h3.objs.size
    omega
  cases hf : codeAmong gpos ps.toList with
  | none =>
    refine wpAny_genexprCodeX hcode (cd.code hPs ht) (cd.tab hPs) hf fun c' h' tk hx hge hlt hco' _ htab' _ => ?_
    obtain ⟨o1, vs, f1, tf, fl, tg, inF, tx, tt, op, _, _, _, _, _, _, _, _, _, htr, _⟩ := hco'
    exact cont _ h' tk _ (fun b o hb e => hx b o hb e) htab'.2 htr
  | some cv =>
    refine wpAny_genexprCode_hit hcode (cd.code hPs ht) hf ?_
    exact cont cv s2.heap s2.toks #[] (fun _ _ _ e => e) (by rw [Array.append_empty]; exact hPs) (by rw [Array.append_empty]; exact ht)
/-- behind it -/
theorem gen_after {s3 s' : Shared} {H3 H' : Hp} {NG : List Str} {fp : List Addr} {cenv : Env} {pins' : List (Addr × Obj)} {σ' : L2.St} (I : Inv X pins σ H3 s3) (hf : ∀ b ∈ fp, FpOk X pins H3 b) (J : Inv (gCx X s3 H3 NG fp cenv) pins' σ' H' s') : Inv X pins σ H' s' :=
  I.call' J.os J.base J.hok J.bare fun b hb => ⟨(hf b hb).2.2.2.1, (hf b hb).2.1, (hf b hb).2.2.2.2.1, (hf b hb).2.2.2.2.2⟩
end
/-! ### any, all, sum -/
/-- what a generator's frame hangs on -/
structure GPar where
  s : Shared
  H : Hp
  fp : List Addr
  C : Addr
  code : Value
def tQG (al : Bool) (P : Addr) (js : List (Option Nat)) (wi : TI) (g : GPar → TG) (te : GPar → TE) : TE := fun σ H Q => wi σ H fun J H1 => TabG H1 P ∧ ∀ a H3, Tabbed P H1 H3 → ∃ (N : Nat) (Z : Nat → L2.St → Hp → Prop), Z 0 (capS js σ) H3 ∧
  ∀ i σ' H', Z i σ' H' → (J.stop i H' ∧ Q (.bl al) H') ∨ (J.go i H' ∧ i < N ∧ ∀ x H2, J.yld i H' x H2 → g a x σ' H2 fun σ2 H4 => te a σ2 H4 fun y H5 => (y = .bl al ∧ Z (i + 1) σ2 H5) ∨ (y = .bl (!al) ∧ Q (.bl (!al)) H5))
def tSumG (P : Addr) (js : List (Option Nat)) (wi : TI) (g : GPar → TG) (te : GPar → TE) : TE := fun σ H Q => wi σ H fun J H1 => TabG H1 P ∧ ∀ a H3, Tabbed P H1 H3 → ∃ (vals : List Int) (Z : Nat → L2.St → Hp → Prop), (∀ (j : Nat) (v : Int), vals[j]? = some v → InLong v ∧ InLong ((vals.take j).sum + v)) ∧ Z 0 (capS js σ) H3 ∧
  ∀ i σ' H', Z i σ' H' → (J.stop i H' ∧ i = vals.length ∧ Q (.int vals.sum) H') ∨ (J.go i H' ∧ i < vals.length ∧ ∀ x H2, J.yld i H' x H2 → g a x σ' H2 fun σ2 H4 => te a σ2 H4 fun y H5 => ∃ v, vals[i]? = some v ∧ y = .int v ∧ Z (i + 1) σ2 H5)
section
variable {X : Cx} {c P : Addr} {elt tg iter : Expr} {p gpos pos : Pos} {scope : Scope} {NG : List Str} {js : List (Option Nat)} {wi : TI} {g : GPar → TG} {te : GPar → TE} {k : Nat}
theorem gfix {s3 : Shared} {H3 : Hp} {pins : List (Addr × Obj)} {σ : L2.St} {fp : List Addr} {code : Value} {a : Addr} (I : Inv X pins σ H3 s3) (G : GSc X.env.scope scope) (f : ∀ b ∈ fp, FpOk X pins H3 b) (fl : ∀ b ∈ fp, b < s3.heap.objs.size) (ha : s3.heap.objs.size < a) {S : List Addr} (hS : ∀ b ∈ S, a < b) :
    GFix X s3 fp (gEnv X scope s3.heap.objs.size code) a S := by
  have hfree : ∀ y ∈ scope.names, y.2 = .free → ∃ c, X.env.cells.lookup y.1 = some c := fun y hy e => by
    rcases G.free y hy e with k | k
    · exact I.ok.has _ (.inl k)
    · exact I.ok.has _ (.inr k)
  have cm : ∀ {y c}, (cloFrom X.env.cells scope.names []).lookup y = some c → X.env.cells.lookup y = some c := fun {y c} e => by
    rcases cloFrom_mem (PySem.mem_of_lookup e) with hm | ⟨h1, h2⟩
    · cases hm
    · obtain ⟨c1, hc⟩ := hfree _ h1 rfl
      have hc : X.env.cells.lookup y = some c1 := hc
      have e2 : c = c1 := by
        rw [h2, hc] <;> rfl
      rw [e2]
      exact hc
  have nfr : ∀ b, s3.heap.objs.size ≤ b → b ∉ frs X.stack := fun b hb z => by
    rcases List.mem_cons.mp (I.stkSub _ z) with e | e
    · have h1 := I.lt
      rw [← e] at h1
      exact Nat.lt_irrefl _ (Nat.lt_of_lt_of_le h1 hb)
    · exact I.nofs hb e
  refine ⟨fun b hb => ⟨Nat.ne_of_lt (fl b hb), fun z => ?_, fun x c e => (f b hb).2.2.2.2.1 x c (cm e), Nat.ne_of_lt (Nat.lt_trans (fl b hb) ha), fun z => absurd (Nat.lt_trans (Nat.lt_trans (fl b hb) ha) (hS b z)) (Nat.lt_irrefl _)⟩,
    fun b hb => ⟨Nat.le_of_lt (Nat.lt_trans ha (hS b hb)), Nat.ne_of_gt (Nat.lt_trans ha (hS b hb)), nfr b (Nat.le_of_lt (Nat.lt_trans ha (hS b hb))), fun x c e z => ?_, Nat.ne_of_gt (hS b hb)⟩⟩
  · rcases List.mem_cons.mp (I.stkSub b z) with e | e
    · exact (f b hb).2.1 e
    · exact (f b hb).2.2.1 e
  · obtain ⟨v, q⟩ := I.cell x c (cm e)
    have h1 : c < s3.heap.objs.size := q.lt
    rw [z] at h1
    exact Nat.lt_irrefl _ (Nat.lt_trans (Nat.lt_trans ha (hS b hb)) h1)
theorem pe_allG (hr : Room (k + 1) X.A) (hgl : Gl X "all") (hm : X.mg "all" = none) (hb : bootBuiltins "all" = some (.builtin "all")) (TB : TabB X.base X.mg c P) (hcode : X.env.code = .ref c) (G : GSc X.env.scope scope) (hi : PI X tg iter wi) (hN : capB X.N NG scope js = true)
    (hg : ∀ a : GPar, PG (gCx X a.s a.H NG a.fp (gEnv X scope a.C a.code)) tg (g a)) (he : ∀ a : GPar, Room k (gA X (gEnv X scope a.C a.code)) → PE (gCx X a.s a.H NG a.fp (gEnv X scope a.C a.code)) elt (te a)) (hs : ∀ v, genFold iter X.env v = pure v)
    (hst : starEach [.GeneratorExp elt [⟨tg, iter, [], 0⟩] scope gpos] X.env = (false, eval (.GeneratorExp elt [⟨tg, iter, [], 0⟩] scope gpos) X.env) :: starEach [] X.env := by rfl) :
    PE X (.Call (.Name "all" p) [.GeneratorExp elt [⟨tg, iter, [], 0⟩] scope gpos] [] pos) (tQG true P js wi g te) := by
  refine ⟨fun pins s σ H Q I h => ?_⟩
  refine wpAny_Call_Name_kw (ld_blt I hgl hm hb ?_)
  refine PyProof.Rows.callWith_builtin1 ?_ hst (by rfl)
  rw [hst]
  show wpAny _ _ (spliced ((false, eval (.GeneratorExp elt [⟨tg, iter, [], 0⟩] scope gpos) X.env) :: backTo pos (starEach [] X.env))) _ _ s
  refine Calls.spliced_cons (gen_make hr TB hcode G hi hN hs I h fun J H1 H3 a s5 hT hR M => ?_)
  refine Calls.spliced_nil ?_
  obtain ⟨s3, it, fp, tn, C, code, ob, gn, I3, T, st5, f3, fl, rfl, ha, I5, hgs, hob⟩ := M
  obtain ⟨N, Z, z0, turn⟩ := hR ⟨s3, H3, fp, s3.heap.objs.size, code⟩ H3 hT
  have fx : GFix X s3 fp (gEnv X scope s3.heap.objs.size code) a [] := gfix I3 G f3 fl ha (fun b hb => absurd hb (by simp))
  have pa := I5.pin (a, ob) (List.mem_append_right _ (List.mem_singleton.mpr rfl))
  have g0 : GenSt X s3 H3 NG fp (gEnv X scope s3.heap.objs.size code) a ob gn [] tn N Z (fun i y σ H => (y = .bl true ∧ Z (i + 1) σ H) ∨ (y = .bl false ∧ Q (.bl false) H)) (fun _ _ H => Q (.bl true) H) 0 s5 :=
    ⟨_, _, Nat.zero_le _, z0, I5, st5, fun b hb => (f3 b hb).1, fun b hb => absurd hb (by simp), _, hgs, fun s'' J2 st2 so2 => ⟨rfl, seg_start rfl G.co fx T (hg ⟨s3, H3, fp, s3.heap.objs.size, code⟩) (he ⟨s3, H3, fp, s3.heap.objs.size, code⟩ (room_g hr)) turn s'' _ _ z0 J2 st2 (fun b hb => (f3 b hb).1) so2⟩⟩
  refine call_function_tree F.kind_all F.plain_all F.entry_all (F.args_all1 _) ?_
  unfold Builtin.«all»
  refine wpAny_bind (m := oneArg "all" _) (wpAny_pure ?_)
  refine wpAny_bind (wpAny_pyIter_gen (hob _ pa.1) ?_)
  refine wpAny_pure ⟨plainId_quiet F.plain_all_loop _, codeAny_mono (all_loop (Q := Q) T hob hr.hd (by have := hr.dp; omega) N 0 s5 rfl g0) fun r s' hq => ?_⟩
  obtain ⟨b, σ', H', rfl, J2, q⟩ := hq
  exact ⟨.bl b, H', gen_after I3 f3 J2, rfl, q⟩
theorem pe_anyG (hr : Room (k + 1) X.A) (hgl : Gl X "any") (hm : X.mg "any" = none) (hb : bootBuiltins "any" = some (.builtin "any")) (TB : TabB X.base X.mg c P) (hcode : X.env.code = .ref c) (G : GSc X.env.scope scope) (hi : PI X tg iter wi) (hN : capB X.N NG scope js = true)
    (hg : ∀ a : GPar, PG (gCx X a.s a.H NG a.fp (gEnv X scope a.C a.code)) tg (g a)) (he : ∀ a : GPar, Room k (gA X (gEnv X scope a.C a.code)) → PE (gCx X a.s a.H NG a.fp (gEnv X scope a.C a.code)) elt (te a)) (hs : ∀ v, genFold iter X.env v = pure v)
    (hst : starEach [.GeneratorExp elt [⟨tg, iter, [], 0⟩] scope gpos] X.env = (false, eval (.GeneratorExp elt [⟨tg, iter, [], 0⟩] scope gpos) X.env) :: starEach [] X.env := by rfl) :
    PE X (.Call (.Name "any" p) [.GeneratorExp elt [⟨tg, iter, [], 0⟩] scope gpos] [] pos) (tQG false P js wi g te) := by
  refine ⟨fun pins s σ H Q I h => ?_⟩
  refine wpAny_Call_Name_kw (ld_blt I hgl hm hb ?_)
  refine PyProof.Rows.callWith_builtin1 ?_ hst (by rfl)
  rw [hst]
  show wpAny _ _ (spliced ((false, eval (.GeneratorExp elt [⟨tg, iter, [], 0⟩] scope gpos) X.env) :: backTo pos (starEach [] X.env))) _ _ s
  refine Calls.spliced_cons (gen_make hr TB hcode G hi hN hs I h fun J H1 H3 a s5 hT hR M => ?_)
  refine Calls.spliced_nil ?_
  obtain ⟨s3, it, fp, tn, C, code, ob, gn, I3, T, st5, f3, fl, rfl, ha, I5, hgs, hob⟩ := M
  obtain ⟨N, Z, z0, turn⟩ := hR ⟨s3, H3, fp, s3.heap.objs.size, code⟩ H3 hT
  have fx : GFix X s3 fp (gEnv X scope s3.heap.objs.size code) a [] := gfix I3 G f3 fl ha (fun b hb => absurd hb (by simp))
  have pa := I5.pin (a, ob) (List.mem_append_right _ (List.mem_singleton.mpr rfl))
  have g0 : GenSt X s3 H3 NG fp (gEnv X scope s3.heap.objs.size code) a ob gn [] tn N Z (fun i y σ H => (y = .bl false ∧ Z (i + 1) σ H) ∨ (y = .bl true ∧ Q (.bl true) H)) (fun _ _ H => Q (.bl false) H) 0 s5 :=
    ⟨_, _, Nat.zero_le _, z0, I5, st5, fun b hb => (f3 b hb).1, fun b hb => absurd hb (by simp), _, hgs, fun s'' J2 st2 so2 => ⟨rfl, seg_start rfl G.co fx T (hg ⟨s3, H3, fp, s3.heap.objs.size, code⟩) (he ⟨s3, H3, fp, s3.heap.objs.size, code⟩ (room_g hr)) turn s'' _ _ z0 J2 st2 (fun b hb => (f3 b hb).1) so2⟩⟩
  refine call_function_tree F.kind_any F.plain_any F.entry_any (F.args_any1 _) ?_
  unfold Builtin.«any»
  refine wpAny_bind (m := oneArg "any" _) (wpAny_pure ?_)
  refine wpAny_bind (wpAny_pyIter_gen (hob _ pa.1) ?_)
  refine wpAny_pure ⟨plainId_quiet F.plain_any_loop _, codeAny_mono (any_loop (Q := Q) T hob hr.hd (by have := hr.dp; omega) N 0 s5 rfl g0) fun r s' hq => ?_⟩
  obtain ⟨b, σ', H', rfl, J2, q⟩ := hq
  exact ⟨.bl b, H', gen_after I3 f3 J2, rfl, q⟩
theorem pe_sumG (hr : Room (k + 1) X.A) (hgl : Gl X "sum") (hm : X.mg "sum" = none) (hb : bootBuiltins "sum" = some (.builtin "sum")) (TB : TabB X.base X.mg c P) (hcode : X.env.code = .ref c) (G : GSc X.env.scope scope) (hi : PI X tg iter wi) (hN : capB X.N NG scope js = true)
    (hg : ∀ a : GPar, PG (gCx X a.s a.H NG a.fp (gEnv X scope a.C a.code)) tg (g a)) (he : ∀ a : GPar, Room k (gA X (gEnv X scope a.C a.code)) → PE (gCx X a.s a.H NG a.fp (gEnv X scope a.C a.code)) elt (te a)) (hs : ∀ v, genFold iter X.env v = pure v)
    (hst : starEach [.GeneratorExp elt [⟨tg, iter, [], 0⟩] scope gpos] X.env = (false, eval (.GeneratorExp elt [⟨tg, iter, [], 0⟩] scope gpos) X.env) :: starEach [] X.env := by rfl) :
    PE X (.Call (.Name "sum" p) [.GeneratorExp elt [⟨tg, iter, [], 0⟩] scope gpos] [] pos) (tSumG P js wi g te) := by
  refine ⟨fun pins s σ H Q I h => ?_⟩
  refine wpAny_Call_Name_kw (ld_blt I hgl hm hb ?_)
  refine PyProof.Rows.callWith_builtin1 ?_ hst (by rfl)
  rw [hst]
  show wpAny _ _ (spliced ((false, eval (.GeneratorExp elt [⟨tg, iter, [], 0⟩] scope gpos) X.env) :: backTo pos (starEach [] X.env))) _ _ s
  refine Calls.spliced_cons (gen_make hr TB hcode G hi hN hs I h fun J H1 H3 a s5 hT hR M => ?_)
  refine Calls.spliced_nil ?_
  obtain ⟨s3, it, fp, tn, C, code, ob, gn, I3, T, st5, f3, fl, rfl, ha, I5, hgs, hob⟩ := M
  obtain ⟨vals, Z, hfit, z0, turn⟩ := hR ⟨s3, H3, fp, s3.heap.objs.size, code⟩ H3 hT
  have pa := I5.pin (a, ob) (List.mem_append_right _ (List.mem_singleton.mpr rfl))
  have ha5 : a < s5.heap.objs.size := Heap.lt_size pa.1
  have fx : GFix X s3 fp (gEnv X scope s3.heap.objs.size code) a [s5.heap.objs.size] := gfix I3 G f3 fl ha (fun b hb => by rw [List.mem_singleton.mp hb]; exact ha5)
  refine call_function_tree F.kind_sum F.plain_sum F.entry_sum (F.args_sum1 _) ?_
  unfold Builtin.«sum»
  simp only [List.length_cons, List.length_nil]
  rw [if_neg (by decide)]
  refine wpAny_bind (wpAny_of_eq (show Builtin.Builtins.bindParams "sum" ["start"] 0 { } = pure [none] from rfl) ?_)
  refine wpAny_bind (wpAny_pyIter_gen (hob _ pa.1) ?_)
  refine wpAny_bind (wpAny_mkInt ?_)
  refine wpAny_bind (wpAny_pure ?_)
  simp only [List.forIn_cons, List.forIn_nil]
  refine wpAny_bind (wpAny_bind (wpAny_bind (wpAny_isInstance (T := "int") (b := false) (typeIs_int _ _ _) PySem.sub_int_str ?_)))
  simp only [Bool.false_eq_true, if_false]
  refine wpAny_pure (wpAny_bind (wpAny_bind (wpAny_isInstance (T := "int") (b := false) (typeIs_int _ _ _) PySem.sub_int_bytes ?_)))
  simp only [Bool.false_eq_true, if_false]
  refine wpAny_pure (wpAny_bind (wpAny_bind (wpAny_isInstance (T := "int") (b := false) (typeIs_int _ _ _) PySem.sub_int_bytearray ?_)))
  simp only [Bool.false_eq_true, if_false]
  refine wpAny_pure (wpAny_pure ?_)
  refine wpAny_bind (wpAny_newObj_type ?_)
  have I6 : Inv (gCx X s3 H3 NG fp (gEnv X scope s3.heap.objs.size code)) [(a, ob)] (capS js σ) H3 { s5 with heap := s5.heap.push { cls := .type "list", data := .seq #[.int 0 s5.toks] }, toks := s5.toks + 1 } := I5.kept fun b o e => Heap.get?_push_of_some _ e
  have hS6 : (s5.heap.push { cls := .type "list", data := .seq #[.int 0 s5.toks] }).get? s5.heap.objs.size = some { cls := .type "list", data := .seq #[.int 0 s5.toks] } := Heap.get?_push_size _ rfl
  have g0 : GenSt X s3 H3 NG fp (gEnv X scope s3.heap.objs.size code) a ob gn [s5.heap.objs.size] tn vals.length Z (fun i y σ H => ∃ v, vals[i]? = some v ∧ y = .int v ∧ Z (i + 1) σ H) (fun i _ H => i = vals.length ∧ Q (.int vals.sum) H) 0 { s5 with heap := s5.heap.push { cls := .type "list", data := .seq #[.int 0 s5.toks] }, toks := s5.toks + 1 } :=
    ⟨_, _, Nat.zero_le _, z0, I6, T.keep _ _ _ st5 fun b _ o e => Heap.get?_push_of_some _ e, fun b hb => (f3 b hb).1, fun b hb => by
      rw [List.mem_singleton.mp hb]
      exact ⟨I5.hok.fresh (Nat.le_refl _), _, hS6, fun v e => by cases e⟩, _, hgs, fun s'' J2 st2 so2 => ⟨rfl, seg_start rfl G.co fx T (hg ⟨s3, H3, fp, s3.heap.objs.size, code⟩) (he ⟨s3, H3, fp, s3.heap.objs.size, code⟩ (room_g hr)) turn s'' _ _ z0 J2 st2 (fun b hb => (f3 b hb).1) so2⟩⟩
  have hfS := fx.s s5.heap.objs.size (List.mem_singleton.mpr rfl)
  refine wpAny_pure ⟨plainId_quiet F.plain_sum_loop _, codeAny_mono (sum_loop (Q := Q) (fun b hb z => (fx.f b hb).2.2.2.2 (by rw [z]; exact List.mem_singleton.mpr rfl)) hfS.2.2.2.2 T hob hr.hd (by have := hr.dp; omega) ⟨hfS.1, hfS.2.1, hfS.2.2.1, hfS.2.2.2.1⟩ hfit vals.length 0 _ s5.toks _ rfl g0 hS6) fun r s' hq => ?_⟩
  obtain ⟨t, σ', H', rfl, J2, q⟩ := hq
  exact ⟨.int vals.sum, H', gen_after I3 f3 J2, ⟨t, rfl⟩, q⟩
end
end L3G

namespace L3
open PySem L2
open Evl (Ex ex_rd ex_l ex_t sq_of st_of fresh_back)

/-! ### generator expressions -/
def allM {α : Type} (f : α → Option Bool) : List α → Option Bool
  | [] => some true
  | x :: xs => match f x with
    | some true => allM f xs
    | o => o
def anyM {α : Type} (f : α → Option Bool) : List α → Option Bool
  | [] => some false
  | x :: xs => match f x with
    | some false => anyM f xs
    | o => o
def quM {α : Type} (al : Bool) (f : α → Option Bool) : List α → Option Bool
  | [] => some al
  | x :: xs => match f x with
    | some b => if b = al then quM al f xs else some b
    | none => none
theorem quM_all {α : Type} (f : α → Option Bool) : ∀ xs : List α, quM true f xs = allM f xs
  | [] => rfl
  | x :: xs => by
    unfold quM allM
    cases f x with
    | none => rfl
    | some b => cases b with
      | true => exact quM_all f xs
      | false => rfl
theorem quM_any {α : Type} (f : α → Option Bool) : ∀ xs : List α, quM false f xs = anyM f xs
  | [] => rfl
  | x :: xs => by
    unfold quM anyM
    cases f x with
    | none => rfl
    | some b => cases b with
      | false => exact quM_any f xs
      | true => rfl
def mapO {α β : Type} (f : α → Option β) : List α → Option (List β)
  | [] => some []
  | x :: xs => match f x, mapO f xs with
    | some y, some ys => some (y :: ys)
    | _, _ => none
theorem mapO_get {α β : Type} {f : α → Option β} : ∀ {xs : List α} {ys : List β}, mapO f xs = some ys → xs.length = ys.length ∧ ∀ (i : Nat) (x : α), xs[i]? = some x → ∃ y, f x = some y ∧ ys[i]? = some y
  | [], ys, h => by
    obtain rfl : [] = ys := Option.some.inj h
    exact ⟨rfl, fun i x e => by simp at e⟩
  | x :: xs, ys, h => by
    unfold mapO at h
    split at h
    · rename_i y ys' e1 e2
      obtain rfl := Option.some.inj h
      obtain ⟨h1, h2⟩ := mapO_get e2
      refine ⟨congrArg (· + 1) h1, fun i z e => ?_⟩
      cases i with
      | zero => obtain rfl : x = z := by simpa using e
                exact ⟨y, e1, rfl⟩
      | succ i => exact h2 i z (by simpa using e)
    · cases h
def longI (i : Int) : Bool := decide (-(2 ^ 63) ≤ i) && decide (i < 2 ^ 63)
def fits (acc : Int) : List Int → Bool
  | [] => true
  | v :: vs => longI v && longI (acc + v) && fits (acc + v) vs
def sumM {α : Type} (f : α → Option Int) (xs : List α) : Option Int := match mapO f xs with
  | some vs => if fits 0 vs = true then some vs.sum else none
  | none => none
theorem longI_ok {i : Int} (h : longI i = true) : InLong i := by
  unfold longI at h
  rw [Bool.and_eq_true, decide_eq_true_eq, decide_eq_true_eq] at h
  exact h
theorem fits_ok : ∀ {vs : List Int} {acc : Int}, fits acc vs = true → ∀ (j : Nat) (v : Int), vs[j]? = some v → InLong v ∧ InLong (acc + (vs.take j).sum + v)
  | [], _, _, _, _, e => by simp at e
  | w :: vs, acc, h, j, v, e => by
    unfold fits at h
    rw [Bool.and_eq_true, Bool.and_eq_true] at h
    cases j with
    | zero =>
      obtain rfl : w = v := by simpa using e
      exact ⟨longI_ok h.1.1, by simpa using longI_ok h.1.2⟩
    | succ j =>
      have := fits_ok h.2 j v (by simpa using e)
      refine ⟨this.1, ?_⟩
      rw [List.take_succ_cons, List.sum_cons, ← Int.add_assoc]
      exact this.2
section
variable {K : Fg} {M : Fr} {σ : St} {B : Hp} {L L1 L2 L' : List Cell} {α β γ δ : Type} {r : Rep α} {s : Rep β} {t : Rep γ} {ta tb tc te : TE} {tt tu : TT} {tA : TA} {i j k : Int} {b c : Bool} {P : Addr} {js : List (Option Nat)} {wi : TI} {g : L3G.GPar → TG} {ge : L3G.GPar → TE}
theorem Own.tabbed {H H' : Hp} (w : Own K B M L H) (hP : P ∈ M.T) (h : GxR.Tabbed P H H') : Own K B M L H' := by
  obtain ⟨h1, h2⟩ := h
  obtain ⟨t1, t2, t3, t4⟩ := w.t P hP
  refine ⟨fun a u e => ?_, fun a u e => ?_, w.bm, fun x hx => ?_, w.nd, fun R hR => ?_⟩
  · rw [h2 a (ne_of_none e t2)]; exact w.b a u e
  · rw [h2 a (ne_of_none e t3)]; exact w.m a u e
  · obtain ⟨⟨o, a1, a2⟩, a3, a4⟩ := w.l x hx
    exact ⟨⟨o, by rw [h2 x.p (fun e => t4 (by rw [← e]; exact List.mem_map.mpr ⟨x, hx, rfl⟩))]; exact a1, a2⟩, a3, a4⟩
  · obtain ⟨s1, s2, s3, s4⟩ := w.t R hR
    refine ⟨?_, s2, s3, s4⟩
    by_cases e : R = P
    · rw [e]; exact h1
    · obtain ⟨ps, q1, q2⟩ := s1
      exact ⟨ps, by rw [h2 R e]; exact q1, q2⟩
theorem ev_quG (al : Bool) {xs : List α} (hP : P ∈ M.T) (hi : EI K M wi σ B L r xs L1) (f : α → Option Bool) (Sg : St → Prop) (h0 : Sg (L3G.capS js σ)) (hm : quM al f xs = some b)
    (hs : ∀ a x c v B' H' σ', f x = some c → Ex B B' → Sg σ' → Own K B' M L1 H' → r.is K B' v x → ∀ Q : St → VK, (∀ σ2 B2 H2, Sg σ2 → Ex B' B2 → Own K B2 M L1 H2 → Q σ2 (.bl c) H2) → g a v σ' H' fun σ2 H2 => ge a σ2 H2 (Q σ2)) :
    EV K M (L3G.tQG al P js wi g ge) σ B L rBool b L1 := fun B1 H e w Q q =>
  hi B1 H e w _ fun J B2 H2 e2 w2 wk => by
    refine ⟨(w2.t P hP).1, fun a H3 hT => ?_⟩
    have w3 := w2.tabbed hP hT
    refine ⟨xs.length, fun i σ' H' => Sg σ' ∧ (∃ B', Ex B2 B' ∧ Own K B' M L1 H') ∧ i ≤ xs.length ∧ quM al f (xs.drop i) = some b, ⟨h0, ⟨B2, Ex.refl _, w3⟩, Nat.zero_le _, hm⟩, ?_⟩
    rintro i σ' H' ⟨sg, ⟨B', eb, w'⟩, hi, hq⟩
    by_cases hl : i = xs.length
    · subst hl
      refine .inl ⟨wk.stop B' L1 H' eb w', ?_⟩
      rw [List.drop_length] at hq
      obtain rfl : al = b := Option.some.inj hq
      exact q _ B' H' (e2.trans eb) w' rfl
    · have hlt : i < xs.length := by omega
      rw [List.drop_eq_getElem_cons hlt] at hq
      have hx : xs[i]? = some xs[i] := List.getElem?_eq_getElem hlt
      obtain ⟨g1, g2⟩ := wk.go i xs[i] B' L1 H' eb w' hx
      unfold quM at hq
      cases hf : f xs[i] with
      | none => rw [hf] at hq; cases hq
      | some c =>
        rw [hf] at hq
        refine .inr ⟨g1, hlt, fun x H4 hy => ?_⟩
        obtain ⟨B4, e4, w4, hr⟩ := g2 x H4 hy
        refine hs a xs[i] c x B4 H4 σ' hf ((e.trans e2).trans (eb.trans e4)) sg w4 hr _ fun σ2 B5 H5 sg5 e5 w5 => ?_
        have hq : (if c = al then quM al f (xs.drop (i + 1)) else some c) = some b := hq
        by_cases hc : c = al
        · rw [if_pos hc] at hq
          exact .inl ⟨by rw [hc], sg5, ⟨B5, (eb.trans e4).trans e5, w5⟩, hlt, hq⟩
        · rw [if_neg hc] at hq
          obtain rfl : c = b := Option.some.inj hq
          have hn : c = !al := by revert hc; cases c <;> cases al <;> simp
          exact .inr ⟨by rw [hn], hn ▸ q _ B5 H5 (((e2.trans eb).trans e4).trans e5) w5 rfl⟩
theorem ev_allG {xs : List α} (hP : P ∈ M.T) (hi : EI K M wi σ B L r xs L1) (f : α → Option Bool) (Sg : St → Prop) (h0 : Sg (L3G.capS js σ)) (hm : allM f xs = some b)
    (hs : ∀ a x c v B' H' σ', f x = some c → Ex B B' → Sg σ' → Own K B' M L1 H' → r.is K B' v x → ∀ Q : St → VK, (∀ σ2 B2 H2, Sg σ2 → Ex B' B2 → Own K B2 M L1 H2 → Q σ2 (.bl c) H2) → g a v σ' H' fun σ2 H2 => ge a σ2 H2 (Q σ2)) :
    EV K M (L3G.tQG true P js wi g ge) σ B L rBool b L1 := ev_quG true hP hi f Sg h0 (by rw [quM_all]; exact hm) hs
theorem ev_anyG {xs : List α} (hP : P ∈ M.T) (hi : EI K M wi σ B L r xs L1) (f : α → Option Bool) (Sg : St → Prop) (h0 : Sg (L3G.capS js σ)) (hm : anyM f xs = some b)
    (hs : ∀ a x c v B' H' σ', f x = some c → Ex B B' → Sg σ' → Own K B' M L1 H' → r.is K B' v x → ∀ Q : St → VK, (∀ σ2 B2 H2, Sg σ2 → Ex B' B2 → Own K B2 M L1 H2 → Q σ2 (.bl c) H2) → g a v σ' H' fun σ2 H2 => ge a σ2 H2 (Q σ2)) :
    EV K M (L3G.tQG false P js wi g ge) σ B L rBool b L1 := ev_quG false hP hi f Sg h0 (by rw [quM_any]; exact hm) hs
theorem ev_sumG {xs : List α} (hP : P ∈ M.T) (hi : EI K M wi σ B L r xs L1) (f : α → Option Int) (Sg : St → Prop) (h0 : Sg (L3G.capS js σ)) (hm : sumM f xs = some k)
    (hs : ∀ a x c v B' H' σ', f x = some c → Ex B B' → Sg σ' → Own K B' M L1 H' → r.is K B' v x → ∀ Q : St → VK, (∀ σ2 B2 H2, Sg σ2 → Ex B' B2 → Own K B2 M L1 H2 → Q σ2 (.int c) H2) → g a v σ' H' fun σ2 H2 => ge a σ2 H2 (Q σ2)) :
    EV K M (L3G.tSumG P js wi g ge) σ B L rInt k L1 := fun B1 H e w Q q =>
  hi B1 H e w _ fun J B2 H2 e2 w2 wk => by
    unfold sumM at hm
    split at hm
    · rename_i vs hvs
      split at hm
      · rename_i hfit
        obtain rfl := Option.some.inj hm
        obtain ⟨hlen, hget⟩ := mapO_get hvs
        refine ⟨(w2.t P hP).1, fun a H3 hT => ?_⟩
        have w3 := w2.tabbed hP hT
        refine ⟨vs, fun i σ' H' => Sg σ' ∧ (∃ B', Ex B2 B' ∧ Own K B' M L1 H') ∧ i ≤ vs.length, fun j v hv => by simpa using fits_ok hfit j v hv, ⟨h0, ⟨B2, Ex.refl _, w3⟩, Nat.zero_le _⟩, ?_⟩
        rintro i σ' H' ⟨sg, ⟨B', eb, w'⟩, hi⟩
        by_cases hl : i = vs.length
        · subst hl
          refine .inl ⟨by rw [← hlen]; exact wk.stop B' L1 H' eb w', rfl, q _ B' H' (e2.trans eb) w' rfl⟩
        · have hlt : i < vs.length := by omega
          have hlt' : i < xs.length := by omega
          have hx : xs[i]? = some xs[i] := List.getElem?_eq_getElem hlt'
          obtain ⟨g1, g2⟩ := wk.go i xs[i] B' L1 H' eb w' hx
          obtain ⟨y, f1, f2⟩ := hget i _ hx
          refine .inr ⟨g1, hlt, fun x H4 hy => ?_⟩
          obtain ⟨B4, e4, w4, hr⟩ := g2 x H4 hy
          refine hs a xs[i] y x B4 H4 σ' f1 ((e.trans e2).trans (eb.trans e4)) sg w4 hr _ fun σ2 B5 H5 sg5 e5 w5 => ?_
          exact ⟨y, f2, rfl, sg5, ⟨B5, (eb.trans e4).trans e5, w5⟩, hlt⟩
      · cases hm
    · cases hm
end
/-! ### a def with its code object -/
structure FunC (K : Fg) (x : Str) (st : Stmt) (f : Addr) (fd : FuncData) (c : Addr) : Prop where
  ex : ∃ (oc : Value) (od : Option Addr) (kV doc pm : Value) (an : Option Addr) (ct : Value) (osl : Array (Option Value)),
    fd = PySem.W.fnOf x x (defArgs st) (defBody st) (defScope st) .none kV doc pm an (.ref c) ct ∧ K.lookup f = some ⟨oc, od, .func fd, osl⟩ ∧ PySem.W.codeIn K (.ref c) x = true
  kp : PySem.W.keepIn K (.ref f) = true
theorem FunC.ok {P : Program} {w : World} {K : Fg} {mg : Str → Option Value} {base : Heap} {x : Str} {st : Stmt} {f : Addr} {fd : FuncData} {c : Addr} {N ps : List Str} {k : Nat} {sp : Sp} (F : FunC K x st f fd c) (S : FnScope N ps (defScope st)) (len : ∀ vs H Q E, sp vs H Q E → vs.length = ps.length)
    (hbody : ∀ (A : Around) (outer : List Env) (s : Shared) (H : Hp) (vs : List V) (Q : VK) (E : XK), Room k (A.deeper (PyProof.Rows.envOfC x (defScope st) s.heap.objs.size f (.ref c))) → sp vs H Q E →
      ∃ t, PSs (cxOf CX0 P w K mg base N x (defScope st) f (.ref c) A outer s H E).nox (defBody st) t ∧ t { nx := fun _ H' => Q .non H', rt := Q } (start N vs) H) : FnOk P w K mg base CX0 (k + 1) f fd ps sp := by
  obtain ⟨oc, od, kV, doc, pm, an, ct, osl, rfl, lk, hcd⟩ := F.ex
  refine fn_of lk hcd S len fun A outer s H vs Q E hr hsp => ?_
  obtain ⟨t, h, q⟩ := hbody A outer s H vs Q E hr hsp
  exact ⟨t, h.nox, q⟩
theorem FunC.binds {K : Fg} {x : Str} {st : Stmt} {f : Addr} {fd : FuncData} {c : Addr} {ps : List Str} (F : FunC K x st f fd c)
    (h : ∀ (kV doc pm : Value) (an : Option Addr) (cdv ct : Value) (us : List Value), us.length = ps.length → bindArgs (PySem.W.fnOf x x (defArgs st) (defBody st) (defScope st) .none kV doc pm an cdv ct) ⟨us, []⟩ = pure (ps.zip us)) : Binds K fd ps [] := by
  obtain ⟨oc, od, kV, doc, pm, an, ct, osl, rfl, lk, hcd⟩ := F.ex
  exact .all (h kV doc pm an _ ct)
theorem FunC.bindsA {K : Fg} {x : Str} {st : Stmt} {f : Addr} {fd : FuncData} {c : Addr} {ps : List Str} (F : FunC K x st f fd c)
    (h : ∀ (kV doc pm : Value) (an : Option Addr) (cdv ct : Value) (us : List Value), us.length = ps.length → bindArgs (PySem.W.fnOf x x (defArgs st) (defBody st) (defScope st) .none kV doc pm an cdv ct) ⟨us, []⟩ = pure (ps.zip us)) (s : Shared) (us : List Value) (hl : us.length = ps.length) : PySem.BindsTo s fd ⟨us, []⟩ (ps.zip us) := by
  obtain ⟨oc, od, kV, doc, pm, an, ct, osl, rfl, lk, hcd⟩ := F.ex
  exact .of_eq (h kV doc pm an _ ct us hl)
theorem funC_of {K : Fg} {x : Str} {st : Stmt} {fd : FuncData} (F : FunD K x x (defArgs st) (defBody st) (defScope st) [] [] (He.fAd K (x, none)) fd) : FunC K x st (He.fAd K (x, none)) fd (He.codeOf K (x, none)) := by
  obtain ⟨oc, od, dV, kV, doc, pm, an, cdv, ct, osl, rfl, lk, hcd, hD, hK⟩ := F.ex
  obtain ⟨c, rfl⟩ := He.codeIn_ref hcd
  rcases hD with ⟨_, rfl⟩ | ⟨e, _⟩
  · have e := He.codeOf_eq (p := (x, none)) lk (c := c) rfl
    rw [e]
    exact ⟨⟨oc, od, kV, doc, pm, an, ct, osl, rfl, lk, hcd⟩, F.kp⟩
  · exact absurd rfl e
end L3

/-! enumerate of a tuple -/
namespace L3G
open PySem PySem.Spec PyProof.Rows L2
set_option maxHeartbeats 4000000 in
theorem meets_enumT (t : Addr) (items : Array Value) :
    Meets (Builtin.«enumerate.__new__» ⟨[.type "enumerate", .ref t], []⟩) (fun _ R s => s.heap.IsTuple t items ∧
      R (.ok (.ret (.ref (s.heap.push { cls := .type "tuple_iterator", data := .fields #[.ref t, .int 0 0] }).objs.size)))
        { s with heap := (s.heap.push { cls := .type "tuple_iterator", data := .fields #[.ref t, .int 0 0] }).push { cls := .type "enumerate", data := .fields #[.none, .bool false, .ref s.heap.objs.size, rawInt 0, .none, .none] } }) :=
  .of_wp fun prog w A R s h => by
    obtain ⟨hp, g, d, tk, os⟩ := s; obtain ⟨hL, h⟩ := h
    have hsub := sub_enumerate
    obtain ⟨o, hl, hc, n, hd⟩ := id hL
    obtain ⟨oc, od, odt, osl⟩ := o
    replace hc : oc = .type "tuple" := hc
    replace hd : odt = .seq items n := hd
    subst hc hd
    wp_walk using wpAny_loadPart' hl
    refine wpAny_stack_any fun st => wpAny_pure ?_
    split
    · rename_i c _ _ _ _ _
      cases (c == Value.type "enumerate")
      · wp_walk using wpAny_loadPart' hl, wpAny_pyIter_tuple hL
        exact ⟨_, rfl, h⟩
      · wp_walk using wpAny_loadPart' hl, wpAny_pyIter_tuple hL
        exact ⟨_, rfl, h⟩
    · wp_walk using wpAny_loadPart' hl, wpAny_pyIter_tuple hL
      exact ⟨_, rfl, h⟩
section
variable {prog : Program} {w : World} {A : Around} {E : Value → Shared → Prop} {s : Shared}
theorem call_enumT {l : Addr} {items : Array Value} {Q : Value → Shared → Prop} (hL : s.heap.IsTuple l items)
    (h : ∀ h', IsEnum h' (s.heap.objs.size + 1) s.heap.objs.size 0 .none → h'.IsTupleIter s.heap.objs.size l 0 → h'.objs.size = s.heap.objs.size + 2 →
      (∀ b o, s.heap.get? b = some o → h'.get? b = some o) → Q (.ref (s.heap.objs.size + 1)) { s with heap := h' }) :
    wpAny (model prog w) A (call (.type "enumerate") [.ref l]) Q E s := by
  refine callType_new F.called_enumerate (by decide) (F.typeCall_enumerate_1 _) (F.newCall_enumerate_1 _) (fun obj => F.args_object_init_2 obj _) F.entry_enumerate_new
    (meets_enumT l items) ⟨hL, ?_⟩
  have hz : (s.heap.push { cls := .type "tuple_iterator", data := .fields #[.ref l, .int 0 0] }).objs.size = s.heap.objs.size + 1 := Heap.size_push ..
  show _ ∧ _
  rw [hz]
  have he : IsEnum ((s.heap.push { cls := .type "tuple_iterator", data := .fields #[.ref l, .int 0 0] }).push
      { cls := .type "enumerate", data := .fields #[.none, .bool false, .ref s.heap.objs.size, rawInt 0, .none, .none] }) (s.heap.objs.size + 1) s.heap.objs.size 0 .none := by
    have := Heap.get?_push_size (s.heap.push { cls := .type "tuple_iterator", data := .fields #[.ref l, .int 0 0] })
      (o := { cls := .type "enumerate", data := .fields #[.none, .bool false, .ref s.heap.objs.size, rawInt 0, .none, .none] }) rfl
    rw [hz] at this; exact this
  refine ⟨⟨_, he, rfl⟩, h _ he ⟨_, Heap.get?_push_of_some _ (Heap.get?_push_size _ rfl), rfl, rfl⟩ (by rw [Heap.size_push, hz]) fun b o x => Heap.get?_push_of_some _ (Heap.get?_push_of_some _ x)⟩
end
def IteT (K : PySem.W.Frag) (a : Addr) : It :=
  ⟨fun i H => ∃ (xs : List V) (x : V), SqT K H a xs ∧ xs[i]? = some x, fun i H v H' => ∃ T x, v = .ref T ∧ H T = none ∧ H' = upd H T (.tup [.int (i : Nat), x]) ∧ ∀ xs, SqT K H a xs → xs[i]? = some x, fun i H => ∃ xs : List V, SqT K H a xs ∧ xs.length ≤ i⟩
theorem turn_enumT {P : Program} {w : World} {K : PySem.W.Frag} {elts : List Expr} {kk : Nat} {tpos : Pos} (a e it : Addr) :
    Turn P w K (.Tuple elts kk tpos) (IteT K a) [e, it] e (fun i h => (∃ old, IsEnum h e it ((i : Nat) : Int) old) ∧ h.IsTupleIter it a i ∧ e ≠ it) where
  mem := by simp
  obj := fun i h st b hb => by
    obtain ⟨⟨old, he⟩, ⟨o, ho, hc, hd⟩, _⟩ := st
    have e' : b = e ∨ b = it := by simpa using hb
    rcases e' with z | z
    · rw [z]; exact ⟨_, he, fun v q => nomatch q⟩
    · rw [z]; exact ⟨o, ho, fun v q => by rw [hd] at q; cases q⟩
  keep := fun i h h' st k => let ⟨⟨old, he⟩, hi, hne⟩ := st; ⟨⟨old, k e (by simp) _ he⟩, hi.at fun o q => k it (by simp) o q, hne⟩
  item := by
    intro X hP hw hK hc i pins s σ H E I hf st hg
    subst hP hw hK
    obtain ⟨⟨old, he⟩, hit, hne⟩ := st
    obtain ⟨xs, x, hq, hx⟩ := hg
    obtain ⟨its, rv, p, hz⟩ := I.tuple hq
    obtain ⟨u, hu, ru⟩ := rv.get hx
    have p' : s.heap.IsTuple a its.toArray := p
    have hel : e < s.heap.objs.size := Heap.lt_size he
    have hil : it < s.heap.objs.size := by obtain ⟨_, q, _⟩ := hit; exact Heap.lt_size q
    have hai : a ≠ it := fun z => by
      obtain ⟨o1, q1, c1, _⟩ := hit
      obtain ⟨o2, q2, c2, _⟩ := p'
      rw [z, q1] at q2; cases q2
      rw [c1] at c2; exact absurd (Value.type.inj c2) (by decide)
    have hea : e ≠ a := fun z => by
      obtain ⟨o2, q2, c2, _⟩ := p'
      have he' : s.heap.get? e = some _ := he
      rw [z, q2] at he'; cases he'
      exact absurd (Value.type.inj c2) (by decide)
    have hsz : i < its.toArray.size := by
      have := (List.getElem?_eq_some_iff.mp hu).1
      simpa using this
    refine wpAny_pyNext_enum_itemD (PySem.Draws.tuple (A := X.A.in1) (I.ok.hd hc) it a hai its.toArray) he ⟨hit, p'⟩ hsz hne (by simp [hne, hea]) fun x' h' tk' hPx ho hit' hT hsz' hk => ?_
    have hPx : its[i]? = some x' := by simpa using hPx
    rw [hu] at hPx
    obtain rfl := Option.some.inj hPx
    refine ⟨_, rfl, wpAny_letOwnedTupleGo_enum (s := { s with heap := h', toks := tk' + 1 }) ho fun h'' he' sb => ?_⟩
    have hT2 : h''.get? s.heap.objs.size = some { cls := .type "tuple", data := .seq #[.int i tk', u] } := (sb.2 _ (Nat.ne_of_gt hel)).trans hT
    have new : ObjOk X.prog X.w (upd H s.heap.objs.size (.tup [.int (i : Nat), x])) h'' s.heap.objs.size (.tup [.int (i : Nat), x]) :=
      ⟨by show 2 ≤ sizeLine; decide, [.int i tk', u], .cons ⟨_, rfl⟩ (.cons ru .nil), ⟨_, hT2, rfl, _, rfl⟩⟩
    have I1 : Inv X pins σ (upd H s.heap.objs.size (.tup [.int (i : Nat), x])) { s with heap := h'', toks := tk' + 1 } :=
      I.turnedNew (ch := [e, it]) (fun b ob hb q => (sb.2 b (fun z => hb (by simp [z]))).trans (hk b ob (fun z => hb (by simp [z])) (fun z => hb (by simp [z])) q)) hf (Nat.le_refl _) new
    refine ⟨.ref s.heap.objs.size, _, I1, rfl, ⟨_, x, rfl, I.hok.fresh (Nat.le_refl _), rfl, fun ys hy => by rw [I.tuple_inj hy hq]; exact hx⟩, ⟨⟨u, ?_⟩, hit'.1.at fun o q => (sb.2 it (Ne.symm hne)).trans q, hne⟩, fun b hb => ?_⟩
    · have e1 : ((i + 1 : Nat) : Int) = (i : Int) + 1 := by omega
      rw [e1]; exact he'
    · have hb' : b < s.heap.objs.size := by
        have e' : b = e ∨ b = it := by simpa using hb
        rcases e' with z | z
        · rw [z]; exact hel
        · rw [z]; exact hil
      rw [upd_ne (Nat.ne_of_lt hb')]
      exact (hf b hb).1
  done := by
    intro X hP hw hK hc i pins s σ H E I hf st hg
    subst hP hw hK
    obtain ⟨⟨old, he⟩, hit, hne⟩ := st
    obtain ⟨xs, hq, hx⟩ := hg
    obtain ⟨its, rv, p, hz⟩ := I.tuple hq
    have p' : s.heap.IsTuple a its.toArray := p
    obtain ⟨f0, f1, f2, f3, f4, f5⟩ := hf it (by simp)
    have hl := rv.length
    have hT : s.TypeIs (.ref e) "enumerate" := ⟨_, he, rfl⟩
    unfold pyNext
    refine wpAny_bind (wpAny_attempt (wpAny_callSpecial?_slot (name := Str.ofString "__next__") hT F.slot_enumerate_next
      (wpAny_call_entry F.slot_enumerate_next hT F.entry_enumerate_next ?_ (F.args_enumerate_next_1 _))))
    show wpAny _ _ (field (.ref e) 2 >>= _) _ _ _
    refine wpAny_bind (wpAny_field he rfl (x := .ref it) rfl ?_)
    refine wpAny_bind (wpAny_nextOf_tuple_end (I.ok.hd hc) hit p' (by simp; omega) fun h' x he' hx' => ?_)
    obtain ⟨o, ho, hc'⟩ := hx'
    refine wpAny_bind (wpAny_isInstance (T := "StopIteration") (b := true) ⟨o, ho, hc'⟩ isSubtype_stop ?_)
    exact wpAny_pure ⟨rfl, I.turned (t' := s.toks) (fun b o hb q => he' b o hb q) f0 f1 f3 f4 f5⟩
  self := fun A i s Q E st h => let ⟨⟨_, he⟩, _⟩ := st; wpAny_pyIter_enum he h
def iEnumT (K : PySem.W.Frag) (ta : TA) : TI := fun σ H R => ta σ H fun vs H1 => ∃ a xs, vs = [.ref a] ∧ SqT K H1 a xs ∧ R (IteT K a) H1
theorem pi_enumT {X : Cx} {e : Expr} {ta : TA} {p pos tpos : Pos} {elts : List Expr} {kk : Nat} (hg : Gl X "enumerate") (hm : X.mg "enumerate" = none) (ha : PA X [e] ta) (hs : starEach [e] X.env = [(false, eval e X.env)] := by rfl) :
    PI X (.Tuple elts kk tpos) (.Call (.Name "enumerate" p) [e] [] pos) (iEnumT X.K ta) := by
  refine ⟨fun pins s σ H R I h => ?_⟩
  refine Call_ (ld_blt I hg hm boot_enumerate (PyProof.Rows.callWith_type1 (thn (ha.run pos pins s σ H _ I h) fun us s1 ⟨vs, H1, I1, r1, q1⟩ => ?_) hs rfl))
  obtain ⟨a, xs, ex, hq, q⟩ := q1
  subst ex
  cases r1 with
  | cons r rr =>
    cases rr
    cases r
    obtain ⟨its, rv, p', hz⟩ := I1.tuple hq
    refine call_enumT (show s1.heap.IsTuple a its.toArray from p') fun h' he hit hsz hk => wpAny_pyIter_enum he ?_
    have I2 : Inv X pins σ H1 { s1 with heap := h' } := I1.kept (t' := s1.toks) hk
    refine ⟨s1.heap.objs.size + 1, [s1.heap.objs.size + 1, s1.heap.objs.size], _, _, H1, rfl, I2, turn_enumT a (s1.heap.objs.size + 1) s1.heap.objs.size, ⟨⟨.none, he⟩, hit, Nat.succ_ne_self _⟩, fun b hb => ?_, q⟩
    have e' : b = s1.heap.objs.size + 1 ∨ b = s1.heap.objs.size := by simpa using hb
    have hle : s1.heap.objs.size ≤ b := by
      rcases e' with z | z
      · rw [z]; exact Nat.le_add_right _ _
      · rw [z]; exact Nat.le_refl _
    exact I1.fpOk hle (I1.hok.fresh hle)
end L3G
namespace L3
open PySem L2
open Evl (Ex ex_rd ex_l ex_t sq_of st_of fresh_back)
/-- (0, x), (1, y), .. -/
def enumI {α : Type} : Nat → List α → List (Int × α)
  | _, [] => []
  | n, x :: xs => ((n : Int), x) :: enumI (n + 1) xs
theorem enumI_len {α : Type} : ∀ (n : Nat) (xs : List α), (enumI n xs).length = xs.length
  | _, [] => rfl
  | n, _ :: xs => congrArg (· + 1) (enumI_len (n + 1) xs)
theorem enumI_get {α : Type} : ∀ {n i : Nat} {xs : List α} {q : Int × α}, (enumI n xs)[i]? = some q → q.1 = ((n + i : Nat) : Int) ∧ xs[i]? = some q.2
  | _, _, [], _, h => by simp [enumI] at h
  | n, 0, x :: xs, q, h => by
    obtain rfl : ((n : Int), x) = q := by simpa [enumI] using h
    exact ⟨rfl, rfl⟩
  | n, i + 1, x :: xs, q, h => by
    obtain ⟨h1, h2⟩ := enumI_get (n := n + 1) (i := i) (xs := xs) (q := q) (by simpa [enumI] using h)
    refine ⟨h1.trans ?_, h2⟩
    congr 1
    omega
section
variable {K : Fg} {M : Fr} {σ : St} {B : Hp} {L L1 L2 L' : List Cell} {α β γ δ : Type} {r : Rep α} {te : TE}
theorem ei_enumT {xs : List α} (h : EV K M te σ B L (rTup r) xs L') : EI K M (L3G.iEnumT K (tCons te tNil)) σ B L (rT2 rInt r) (enumI 0 xs) L' := fun B1 H e w R q => h B1 H e w _ fun v B2 H2 e2 w2 hv => by
  obtain ⟨p, vs, rfl, hs, hp⟩ := hv
  refine ⟨p, vs, rfl, ex_t w2.b hs, q _ B2 H2 e2 w2 ⟨fun i a B' L' H' e' w' hi => ?_, fun B' L' H' e' w' => ⟨vs, ex_t (e'.trans w'.b) hs, by rw [enumI_len, paired_len hp]; exact Nat.le_refl _⟩⟩⟩
  obtain ⟨h1, h2⟩ := enumI_get hi
  obtain ⟨x, hx, hr⟩ := paired_get hp h2
  refine ⟨⟨vs, x, ex_t (e'.trans w'.b) hs, hx⟩, fun y H3 hy => ?_⟩
  obtain ⟨T, z, rfl, hT, rfl, hy⟩ := hy
  have := hy vs (ex_t (e'.trans w'.b) hs)
  rw [hx] at this
  cases this
  have eN := Ex.new (o := HO.tup [.int (i : Nat), x]) (fresh_back w'.b hT)
  exact ⟨upd B' T _, eN, w'.ext hT, ⟨T, _, _, rfl, st_of upd_same, by rw [h1]; show V.int _ = V.int _; congr 1; simp, r.mono (e'.trans eN) hr⟩⟩
theorem ei_enumL {xs : List α} (h : EV K M te σ B L (rLst r) xs L') : EI K M (iEnum K (tCons te tNil)) σ B L (rT2 rInt r) (enumI 0 xs) L' := fun B1 H e w R q => h B1 H e w _ fun v B2 H2 e2 w2 hv => by
  obtain ⟨p, vs, rfl, hs, hp⟩ := rl_sc hv
  refine ⟨p, vs, rfl, ex_l w2.b hs, q _ B2 H2 e2 w2 ⟨fun i a B' L' H' e' w' hi => ?_, fun B' L' H' e' w' => ⟨vs, ex_l (e'.trans w'.b) hs, by rw [enumI_len, paired_len hp]; exact Nat.le_refl _⟩⟩⟩
  obtain ⟨h1, h2⟩ := enumI_get hi
  obtain ⟨x, hx, hr⟩ := paired_get hp h2
  refine ⟨⟨vs, x, ex_l (e'.trans w'.b) hs, hx⟩, fun y H3 hy => ?_⟩
  obtain ⟨T, z, rfl, hT, rfl, hy⟩ := hy
  have := hy vs (ex_l (e'.trans w'.b) hs)
  rw [hx] at this
  cases this
  have eN := Ex.new (o := HO.tup [.int (i : Nat), x]) (fresh_back w'.b hT)
  exact ⟨upd B' T _, eN, w'.ext hT, ⟨T, _, _, rfl, st_of upd_same, by rw [h1]; show V.int _ = V.int _; congr 1; simp, r.mono (e'.trans eN) hr⟩⟩
end
end L3

/-! a tuple backwards -/
namespace L3G
open PySem PySem.Spec PyProof.Rows L2 HT
section
variable {prog : Program} {w : World} {A : Around} {E : Value → Shared → Prop} {s : Shared}
theorem adjust_back (n : Nat) : Builtin.Slice.sliceAdjust none none (-1) (n : Int) = ((n : Int) - 1, -1) := by
  unfold Builtin.Slice.sliceAdjust
  simp
theorem places_back (n : Nat) : Builtin.Slice.slicePlaces ((n : Int) - 1) (-1) (-1) = n := by
  unfold Builtin.Slice.slicePlaces
  simp
  omega
theorem fm_some {α β : Type} {f : α → Option β} {g : α → β} : ∀ {l : List α}, (∀ m ∈ l, f m = some (g m)) → l.filterMap f = l.map g
  | [], _ => rfl
  | x :: l, h => by
    rw [List.filterMap_cons, h x List.mem_cons_self, List.map_cons, fm_some fun m hm => h m (List.mem_cons_of_mem _ hm)]
theorem pick_back (xs : Array Value) : ((List.range xs.size).filterMap fun (m : Nat) => xs[(((xs.size : Int) - 1) + (m : Int) * (-1)).toNat]?).toArray = xs.toList.reverse.toArray := by
  congr 1
  have e : ∀ m ∈ List.range xs.size, xs[(((xs.size : Int) - 1) + (m : Int) * (-1)).toNat]? = some ((xs.toList.reverse).getD m .none) := fun m hm => by
    have hm := List.mem_range.mp hm
    have e1 : (((xs.size : Int) - 1) + (m : Int) * (-1)).toNat = xs.size - 1 - m := by omega
    rw [e1, List.getD_eq_getElem?_getD, List.getElem?_reverse (by simpa using hm), Array.length_toList, Array.getElem?_toList]
    cases q : xs[xs.size - 1 - m]? with
    | none => have := Array.getElem?_eq_none_iff.mp q; omega
    | some v => rfl
  rw [fm_some e]
  refine List.ext_getElem? fun i => ?_
  rw [List.getElem?_map]
  by_cases hi : i < xs.size
  · rw [List.getElem?_range hi]
    have hl : i < xs.toList.reverse.length := by simpa using hi
    simp only [Option.map_some]
    rw [List.getD_eq_getElem?_getD, List.getElem?_eq_getElem hl]
    rfl
  · rw [List.getElem?_eq_none (by simpa using hi), List.getElem?_eq_none (by simpa using hi)]
    rfl
theorem sliceApplied_back {sl : Addr} {n : Nat} {vs : Value} {Q : Int × Int × Nat → Shared → Prop} (hs : s.heap.IsSliceOf sl .none .none vs) (pv : IsPart vs (some (-1)))
    (h : Q ((n : Int) - 1, -1, n) s) : wpAny (model prog w) A (Builtin.Slice.sliceApplied (.ref sl) (pure (n : Int))) Q E s := by
  obtain ⟨os, hos, hcs, hds⟩ := id hs
  unfold Builtin.Slice.sliceApplied Builtin.Slice.sliceFields
  refine wpAny_bind (wpAny_bind (wpAny_field hos hds (x := .none) rfl (wpAny_bind (wpAny_field hos hds (x := .none) rfl (wpAny_bind (wpAny_field hos hds (x := vs) rfl (wpAny_pure ?_)))))))
  refine wpAny_bind (slicePart_ pv ?_)
  show wpAny _ _ (if ((-1 : Int) == 0) = true then _ else _) _ _ s
  rw [if_neg (by decide)]
  refine wpAny_bind (slicePart_ (o := none) .none (wpAny_bind (slicePart_ (o := none) .none (wpAny_bind (wpAny_pure ?_)))))
  show wpAny _ _ (match Builtin.Slice.sliceAdjust none none (-1) (n : Int) with | (lo, hi) => pure (lo, (-1 : Int), Builtin.Slice.slicePlaces lo hi (-1))) _ _ s
  rw [adjust_back]
  show wpAny _ _ (pure ((n : Int) - 1, (-1 : Int), Builtin.Slice.slicePlaces ((n : Int) - 1) (-1) (-1))) _ _ s
  rw [places_back]
  exact wpAny_pure h
theorem getItem_tuple_back {t sl : Addr} {items : Array Value} {vs : Value} {Q : Value → Shared → Prop} (ht : IsTup s.heap t items) (hs : s.heap.IsSliceOf sl .none .none vs) (pv : IsPart vs (some (-1)))
    (h : Q (.ref s.heap.objs.size) { s with heap := s.heap.push { cls := .type "tuple", data := .seq items.toList.reverse.toArray } })
    (hsz : items.size ≤ sizeLine) : wpAny (model prog w) A (getItem (.ref t) (.ref sl)) Q E s := by
  have htake : sizeOk (.seq items.toList.reverse.toArray) := by
    show items.toList.reverse.toArray.size ≤ sizeLine
    rw [List.size_toArray, List.length_reverse, Array.length_toList]
    exact hsz
  obtain ⟨os, hos, hcs, hds⟩ := id hs
  have hTs : s.TypeIs (.ref sl) "slice" := ⟨os, hos, hcs⟩
  unfold getItem
  try with_reducible refine wpAny_holding ?_
  first | refine wpAny_bind (wpAny_pure ?_) | skip
  refine wpAny_bind (wpAny_sequenceKey ht.typeIs (by decide) ?_)
  refine wpAny_bind (wpAny_callSpecial?_slot (name := Str.ofString "__getitem__") ht.typeIs PyProof.Rows.slot_tuple_getitem
    (wpAny_call_entry PyProof.Rows.slot_tuple_getitem ht.typeIs PyProof.Rows.entry_tuple_getitem ?_ (PyProof.Rows.args_tuple_getitem _ _)))
  show wpAny _ _ (Builtin.Tuple.tupleItemsOf (.ref t) >>= _) _ _ s
  refine wpAny_bind (tupleItemsOf_ ht ?_)
  refine wpAny_bind (wpAny_typeOf hTs ?_)
  rw [if_pos (by decide)]
  refine wpAny_bind (sliceApplied_back hs pv ?_)
  have hno : ¬ ((((items.size : Int) - 1) == 0 && (-1 : Int) == 1 && items.size == items.size) = true) := by
    intro q
    rw [Bool.and_eq_true, Bool.and_eq_true] at q
    exact absurd q.1.2 (by decide)
  show wpAny _ _ (if (((items.size : Int) - 1) == 0 && (-1 : Int) == 1 && items.size == items.size) = true then _ else _) _ _ s
  rw [if_neg hno, pick_back]
  first
    | exact wpAny_bind (m := Builtin.Tuple.tupleExact _) (wpAny_newObj_type (wpAny_pure ⟨_, rfl, wpAny_pure h⟩) htake)
    | exact wpAny_bind (m := Builtin.Tuple.tupleExact _) (wpAny_newObj_type (wpAny_bind (wpAny_pure (wpAny_pure ⟨_, rfl, wpAny_pure h⟩))) htake)
    | exact wpAny_bind (wpAny_bind (m := Builtin.Tuple.tupleExact _) (wpAny_newObj_type (wpAny_pure (wpAny_pure ⟨_, rfl, wpAny_pure h⟩)) htake))
    | exact wpAny_bind (wpAny_bind (m := Builtin.Tuple.tupleExact _) (wpAny_newObj_type (wpAny_pure ⟨_, rfl, wpAny_pure h⟩) htake))
end
def tRevT (K : PySem.W.Frag) (te : TE) : TE := fun σ H Q => te σ H fun x H1 => ∃ a xs, x = .ref a ∧ SqT K H1 a xs ∧ ∀ p, H1 p = none → Q (.ref p) (upd H1 p (.tup xs.reverse))
theorem pe_revT {X : Cx} {e : Expr} {te : TE} {k : Nat} {p1 p2 p3 pos : Pos} (he : PE X e te) : PE X (.Subscript e (.Slice none none (some (.UnaryOp .USub (.Constant (.int 1) k p1) p2)) p3) pos) (tRevT X.K te) := by
  refine ⟨fun pins s σ H Q I h => ?_⟩
  refine Subscript_ (thn (he.run pins s σ H _ I h) fun v s1 ⟨x, H1, I1, r1, q1⟩ => ?_)
  obtain ⟨a, xs, ex, hx, q⟩ := q1
  subst ex
  cases r1
  have hst : PO X (some (.UnaryOp .USub (.Constant (.int 1) k p1) p2)) (tPart (tUn (rU fun i => .int (-i)) (tC (.int 1)))) := po_some (pe_un un_neg pe_int)
  refine wpAny_Slice ?_
  rw [evalPart_none]
  refine wpAny_pure ?_
  refine wpAny_pure ?_
  refine thn (hst.run pins s1 σ H1 (fun o H4 => o = some (-1) ∧ H4 = H1) I1 ⟨1, rfl, -1, rfl, rfl, rfl⟩) fun vs s4 ⟨o, H4, I4, ps, eo, e4⟩ => ?_
  subst eo e4
  have I5 : Inv X pins σ H4 { s4 with heap := s4.heap.push { cls := .type "slice", data := .fields #[.none, .none, vs] } } := I4.kept (t' := s4.toks) fun b ob q => Heap.get?_push_of_some _ q
  obtain ⟨its, r, ht, hz⟩ := I5.tuple hx
  have hlen := r.length
  show wpAny (model X.prog X.w) X.A (subscriptTail e (.Slice none none (some (.UnaryOp .USub (.Constant (.int 1) k p1) p2)) p3) (.ref a) (.ref s4.heap.objs.size)) (EP X pins σ Q) X.xe { s4 with heap := s4.heap.push { cls := .type "slice", data := .fields #[.none, .none, vs] } }
  refine tail_any (ops := [.ref a, .ref s4.heap.objs.size]) ht.typeIs (PyProof.Rows.slot_tuple_getitem.lookup) ?_ (by with_unfolding_all rfl)
  refine getItem_tuple_back ht (Heap.IsSliceOf.new _ .none .none vs) ps ?_ (by rw [List.size_toArray]; omega)
  refine ⟨.ref _, _, I5.laid (t' := s4.toks) (o := .tup xs.reverse) (fun b ob q => Heap.get?_push_of_some _ q) (Nat.le_refl _) ?_, rfl, q _ (I5.hok.fresh (Nat.le_refl _))⟩
  exact ⟨by rw [List.length_reverse]; exact hz, _, r.reverse, IsTup.new _ _⟩
end L3G
namespace L3
open PySem L2
open Evl (Ex ex_rd ex_l ex_t sq_of st_of fresh_back)

/-! ### comprehensions -/
def compM {S α β : Type} (f : S → α → Option (Option β × S)) : S → List α → Option (List β × S)
  | s, [] => some ([], s)
  | s, x :: xs => match f s x with
    | some (o, s') => (match compM f s' xs with
      | some (ys, s2) => some (o.toList ++ ys, s2)
      | none => none)
    | none => none
section
variable {K : Fg} {M : Fr} {σ : St} {B : Hp} {L L1 L2 L' : List Cell} {α β γ δ : Type} {r : Rep α} {s : Rep β} {t : Rep γ} {ta tb tc te : TE} {tt tu : TT} {tA : TA} {i j k : Int} {b c : Bool} {wi : TI} {g : TG}
theorem compM_len {S : Type} {f : S → α → Option (Option β × S)} : ∀ {xs : List α} {s0 s1 : S} {ys : List β}, compM f s0 xs = some (ys, s1) → ys.length ≤ xs.length
  | [], _, _, _, h => by obtain ⟨rfl, _⟩ := Prod.mk.inj (Option.some.inj h); exact Nat.le_refl _
  | x :: xs, s0, s1, ys, h => by
    unfold compM at h
    cases e : f s0 x with
    | none => rw [e] at h; cases h
    | some q =>
      obtain ⟨o, s'⟩ := q
      rw [e] at h
      dsimp only at h
      cases e2 : compM f s' xs with
      | none => rw [e2] at h; cases h
      | some q2 =>
        obtain ⟨zs, s2⟩ := q2
        rw [e2] at h
        obtain ⟨rfl, _⟩ := Prod.mk.inj (Option.some.inj h)
        have := compM_len e2
        cases o <;> simp <;> omega
theorem lc_yes {PY : VK} {PN : Hp → Prop} {H : Hp} (h : te σ H PY) : tYes σ H fun b H3 => if b = true then te σ H3 PY else PN H3 := by
  show (if true = true then te σ H PY else PN H)
  rw [if_pos rfl]
  exact h
theorem lc_if {b : Bool} {X Y : Prop} (h1 : b = true → X) (h2 : b = false → Y) : if b = true then X else Y := by
  cases b with
  | true => rw [if_pos rfl]; exact h1 rfl
  | false => rw [if_neg Bool.false_ne_true]; exact h2 rfl
theorem el_lc {S : Type} {vs : List Nat} {σ' : St} {xs : List α} {ys : List β} {s0 s1 : S} (s : Rep β) (hi : EI K M wi σ B L r xs L1) (f : S → α → Option (Option β × S)) (Lf : S → List Cell) (hL : Lf s0 = L1) (hm : compM f s0 xs = some (ys, s1)) (hr : room xs.length = some ()) (hw : wipe σ vs = σ')
    (hs : ∀ st x o st' v D acc B' H', f st x = some (o, st') → Ex B B' → Own K B' M (⟨D, cLst s, acc⟩ :: Lf st) H' → r.is K B' v x → ∀ (PY : VK) (PN : Hp → Prop),
      (∀ y B2 H2 b, o = some b → Ex B' B2 → Own K B2 M (⟨D, cLst s, acc⟩ :: Lf st') H2 → s.is K B2 y b → PY y H2) → (∀ B2 H2, o = none → Ex B' B2 → Own K B2 M (⟨D, cLst s, acc⟩ :: Lf st') H2 → PN H2) →
      g v σ' H' fun σ2 H2 => wipe σ2 vs = σ' ∧ tt σ2 H2 fun b H3 => if b = true then te σ2 H3 PY else PN H3) :
    EVL K M (tLc wi g tt te vs) σ B L s ys (Lf s1) := fun B1 H e w Q q => by
  refine hi B1 H e w _ fun J B2 H2 e2 w2 wk => ?_
  intro D hD
  subst hL
  subst hw
  have w3 : Own K B2 M (⟨D, cLst s, []⟩ :: Lf s0) (upd H2 D (.lst [])) := w2.new hD ⟨[], rfl, .nil⟩
  refine ⟨fun i m H' => m = xs.length - i ∧ i ≤ xs.length ∧ ∃ st acc B', Ex B2 B' ∧ Own K B' M (⟨D, cLst s, acc⟩ :: Lf st) H' ∧ acc.length ≤ i ∧ ∃ zs, compM f st (xs.drop i) = some (zs, s1) ∧ acc ++ zs = ys,
    ⟨_, rfl, Nat.zero_le _, s0, [], B2, Ex.refl _, w3, Nat.zero_le _, ys, hm, rfl⟩, ?_⟩
  rintro i m H' ⟨rfl, hil, st, acc, B', eb, w', hacc, zs, hz, hzs⟩
  by_cases hl : i = xs.length
  · subst hl
    rw [List.drop_length] at hz
    obtain ⟨rfl, rfl⟩ := Prod.mk.inj (Option.some.inj hz)
    rw [List.append_nil] at hzs
    subst hzs
    exact .inl ⟨wk.stop B' _ H' eb w', q D B' H' (e2.trans eb) w'⟩
  · have hlt : i < xs.length := by omega
    rw [List.drop_eq_getElem_cons hlt] at hz
    have hx : xs[i]? = some xs[i] := List.getElem?_eq_getElem hlt
    obtain ⟨g1, g2⟩ := wk.go i xs[i] B' _ H' eb w' hx
    unfold compM at hz
    cases hf : f st xs[i] with
    | none => rw [hf] at hz; cases hz
    | some q2 =>
      obtain ⟨o, st'⟩ := q2
      rw [hf] at hz
      dsimp only at hz
      cases hc : compM f st' (xs.drop (i + 1)) with
      | none => rw [hc] at hz; cases hz
      | some q3 =>
        obtain ⟨zs', s2⟩ := q3
        rw [hc] at hz
        obtain ⟨rfl, rfl⟩ := Prod.mk.inj (Option.some.inj hz)
        refine .inr ⟨g1, fun H5 => i + 1 ≤ xs.length ∧ ∃ st acc B', Ex B2 B' ∧ Own K B' M (⟨D, cLst s, acc⟩ :: Lf st) H5 ∧ acc.length ≤ i + 1 ∧ ∃ zs, compM f st (xs.drop (i + 1)) = some (zs, s2) ∧ acc ++ zs = ys, fun H5 h5 => ⟨xs.length - (i + 1), by omega, rfl, h5⟩, fun x H4 hy => ?_⟩
        obtain ⟨B4, e4, w4, hrx⟩ := g2 x H4 hy
        have hb := (e.trans e2).trans (eb.trans e4)
        refine hs st xs[i] o st' x D acc B4 H4 hf hb w4 hrx (fun y H6 => ∃ acc', H6 D = some (.lst acc') ∧ acc'.length < sizeLine ∧ (fun H5 => i + 1 ≤ xs.length ∧ ∃ st acc B', Ex B2 B' ∧ Own K B' M (⟨D, cLst s, acc⟩ :: Lf st) H5 ∧ acc.length ≤ i + 1 ∧ ∃ zs, compM f st (xs.drop (i + 1)) = some (zs, s2) ∧ acc ++ zs = ys) (upd H6 D (.lst (acc' ++ [y])))) _ (fun y B5 H5 b' ho e5 w5 hyb => ?_) fun B5 H5 ho e5 w5 => ?_
        · subst ho
          obtain ⟨⟨o', a1, vs', a2, a3⟩, _⟩ := w5.at (i := 0) rfl
          have a1 : H5 D = some o' := a1
          refine ⟨vs', by rw [a1, a2], ?_, hlt, st', acc ++ [b'], B5, (eb.trans e4).trans e5, w5.set (i := 0) rfl (c' := cLst s) ⟨_, rfl, paired_app a3 (.cons hyb .nil)⟩, by simp; omega, zs', hc, by simpa using hzs⟩
          have hq := room_some hr
          have := paired_len a3
          have : vs'.length = acc.length := this
          omega
        · subst ho
          exact ⟨hlt, st', acc, B5, (eb.trans e4).trans e5, w5, by omega, zs', hc, by simpa using hzs⟩
/-! ### tuple(..), list(..) -/
theorem ev_tupOfL {xs : List α} (h : EV K M te σ B L (rLst r) xs L') : EV K M (tCB (fun xs H Q => ∃ p ys, xs = [.ref p] ∧ ((SqL K H p ys ∧ ∀ l, H l = none → Q (.ref l) (upd H l (.tup ys))) ∨ (SqT K H p ys ∧ Q (.ref p) H))) (tCons te tNil)) σ B L (rTup r) xs L' := fun B1 H e w Q q =>
  h B1 H e w _ fun v B2 H2 e2 w2 hv => by
    obtain ⟨p, vs, rfl, hs, hp⟩ := rl_sc hv
    refine ⟨p, vs, rfl, .inl ⟨ex_l w2.b hs, fun l hl => ?_⟩⟩
    have eN := Ex.new (o := HO.tup vs) (fresh_back w2.b hl)
    exact q _ (upd B2 l _) _ (e2.trans eN) (w2.ext hl) ⟨l, vs, rfl, st_of upd_same, paired_mono eN hp⟩
theorem ev_tupOfT {xs : List α} (h : EV K M te σ B L (rTup r) xs L') : EV K M (tCB (fun xs H Q => ∃ p ys, xs = [.ref p] ∧ ((SqL K H p ys ∧ ∀ l, H l = none → Q (.ref l) (upd H l (.tup ys))) ∨ (SqT K H p ys ∧ Q (.ref p) H))) (tCons te tNil)) σ B L (rTup r) xs L' := fun B1 H e w Q q =>
  h B1 H e w _ fun v B2 H2 e2 w2 hv => by
    obtain ⟨p, vs, rfl, hs, hp⟩ := hv
    exact ⟨p, vs, rfl, .inr ⟨ex_t w2.b hs, q _ B2 H2 e2 w2 ⟨p, vs, rfl, hs, hp⟩⟩⟩
theorem el_listOf {xs : List α} (h : EV K M te σ B L (rSeq r) xs L') : EVL K M (tCB (fun xs H Q => ∃ p ys, xs = [.ref p] ∧ (SqL K H p ys ∨ SqT K H p ys) ∧ ∀ l, H l = none → Q (.ref l) (upd H l (.lst ys))) (tCons te tNil)) σ B L r xs L' := fun B1 H e w Q q =>
  h B1 H e w _ fun v B2 H2 e2 w2 hv => by
    obtain ⟨p, vs, rfl, hs, hp⟩ := hv
    exact ⟨p, vs, rfl, hs.imp (ex_l w2.b) (ex_t w2.b), fun l hl => q l B2 _ e2 (w2.new hl ⟨vs, rfl, hp⟩)⟩
theorem el_listOfC {n : Nat} {p : Addr} {xs : List α} (h : EV K M te σ B L rRef p L') (hc : L'[n]? = some ⟨p, cLst r, xs⟩) : EVL K M (tCB (fun xs H Q => ∃ p ys, xs = [.ref p] ∧ (SqL K H p ys ∨ SqT K H p ys) ∧ ∀ l, H l = none → Q (.ref l) (upd H l (.lst ys))) (tCons te tNil)) σ B L r xs L' := fun B1 H e w Q q =>
  h B1 H e w _ fun v B2 H2 e2 w2 hv => by
    have hv : v = .ref p := hv
    subst hv
    obtain ⟨⟨o, h1, vs, h2, hp⟩, _⟩ := w2.at hc
    have h1 : H2 p = some o := h1
    exact ⟨p, vs, rfl, .inl (sq_of (by rw [h1, h2])), fun l hl => q l B2 _ e2 (w2.new hl ⟨vs, rfl, hp⟩)⟩
theorem ev_tupOfC {n : Nat} {p : Addr} {xs : List α} (h : EV K M te σ B L rRef p L') (hc : L'[n]? = some ⟨p, cLst r, xs⟩) : EV K M (tCB (fun xs H Q => ∃ p ys, xs = [.ref p] ∧ ((SqL K H p ys ∧ ∀ l, H l = none → Q (.ref l) (upd H l (.tup ys))) ∨ (SqT K H p ys ∧ Q (.ref p) H))) (tCons te tNil)) σ B L (rTup r) xs L' := fun B1 H e w Q q =>
  h B1 H e w _ fun v B2 H2 e2 w2 hv => by
    have hv : v = .ref p := hv
    subst hv
    obtain ⟨⟨o, h1, vs, h2, hp⟩, _⟩ := w2.at hc
    have h1 : H2 p = some o := h1
    refine ⟨p, vs, rfl, .inl ⟨sq_of (by rw [h1, h2]), fun l hl => ?_⟩⟩
    have eN := Ex.new (o := HO.tup vs) (fresh_back w2.b hl)
    exact q _ (upd B2 l _) _ (e2.trans eN) (w2.ext hl) ⟨l, vs, rfl, st_of upd_same, paired_mono eN hp⟩
/-! ### slices -/
def cutL (xs : List α) (lo hi : Option Int) : List α := (xs.drop (HT.sIx xs.length 0 lo)).take (HT.sIx xs.length xs.length hi - HT.sIx xs.length 0 lo)
theorem paired_cut {F : V → α → Prop} {xs : List V} {as : List α} (h : Paired F xs as) (lo hi : Option Int) : Paired F (cutV xs lo hi) (cutL as lo hi) := by
  unfold cutV cutL
  rw [paired_len h]
  exact paired_take _ (paired_drop _ h)
def EO (K : Fg) (M : Fr) (t : TO) (σ : St) (B : Hp) (L : List Cell) (o : Option Int) (L' : List Cell) : Prop :=
  ∀ B1 H, Ex B B1 → Own K B1 M L H → ∀ Q : Option Int → Hp → Prop, (∀ B2 H2, Ex B1 B2 → Own K B2 M L' H2 → Q o H2) → t σ H Q
theorem eo_none : EO K M tNoPart σ B L none L := fun B1 H e w Q q => q B1 H (Ex.refl _) w
theorem eo_some (h : EV K M te σ B L rInt i L') : EO K M (tPart te) σ B L (some i) L' := fun B1 H e w Q q => h B1 H e w _ fun v B2 H2 e2 w2 hv => ⟨i, hv, q B2 H2 e2 w2⟩
theorem cut_all {xs : List α} {lo hi : Option Int} (h1 : HT.sIx xs.length 0 lo = 0) (h2 : HT.sIx xs.length xs.length hi = xs.length) : cutL xs lo hi = xs := by
  unfold cutL
  rw [h1, h2]
  simp
theorem ev_slT {xs : List α} {tl th : TO} {lo hi : Option Int} (h : EV K M te σ B L (rTup r) xs L1) (hl : EO K M tl σ B L1 lo L2) (hh : EO K M th σ B L2 hi L') : EV K M (tSl (rSlA K) te tl th) σ B L (rTup r) (cutL xs lo hi) L' := fun B1 H e w Q q =>
  h B1 H e w _ fun v B2 H2 e2 w2 hv => hl B2 H2 (e.trans e2) w2 _ fun B3 H3 e3 w3 => hh B3 H3 ((e.trans e2).trans e3) w3 _ fun B4 H4 e4 w4 => by
    obtain ⟨p, vs, rfl, hs, hp⟩ := hv
    have e34 := e3.trans e4
    have hp4 := paired_mono e34 hp
    refine ⟨p, vs, rfl, ex_t w4.b (ex_t e34 hs), fun ⟨h1, h2⟩ => ?_, fun _ l hl => ?_⟩
    · refine q _ B4 H4 (e2.trans e34) w4 ⟨p, vs, rfl, ex_t e34 hs, ?_⟩
      rw [paired_len hp] at h1 h2
      rw [cut_all h1 h2]
      exact hp4
    · have eN := Ex.new (o := HO.tup (cutV vs lo hi)) (fresh_back w4.b hl)
      exact q _ (upd B4 l _) _ ((e2.trans e34).trans eN) (w4.ext hl) ⟨l, _, rfl, st_of upd_same, paired_mono eN (paired_cut hp4 lo hi)⟩
theorem el_slL {xs : List α} {tl th : TO} {lo hi : Option Int} (h : EV K M te σ B L (rLst r) xs L1) (hl : EO K M tl σ B L1 lo L2) (hh : EO K M th σ B L2 hi L') : EVL K M (tSl (rSlL K) te tl th) σ B L r (cutL xs lo hi) L' := fun B1 H e w Q q =>
  h B1 H e w _ fun v B2 H2 e2 w2 hv => hl B2 H2 (e.trans e2) w2 _ fun B3 H3 e3 w3 => hh B3 H3 ((e.trans e2).trans e3) w3 _ fun B4 H4 e4 w4 => by
    obtain ⟨p, vs, rfl, hs, hp⟩ := rl_sc hv
    have e34 := e3.trans e4
    exact ⟨p, vs, rfl, ex_l w4.b (ex_l e34 hs), fun l hl => q l B4 _ (e2.trans e34) (w4.new hl ⟨_, rfl, paired_cut (paired_mono e34 hp) lo hi⟩)⟩
theorem el_revL {xs : List α} (h : EV K M te σ B L (rLst r) xs L') : EVL K M (tRevL K te) σ B L r xs.reverse L' := fun B1 H e w Q q =>
  h B1 H e w _ fun v B2 H2 e2 w2 hv => by
    obtain ⟨p, vs, rfl, hs, hp⟩ := rl_sc hv
    exact ⟨p, vs, rfl, ex_l w2.b hs, fun l hl => q l B2 _ e2 (w2.new hl ⟨_, rfl, paired_rev hp⟩)⟩
theorem el_revC {n : Nat} {p : Addr} {xs : List α} (h : EV K M te σ B L rRef p L') (hc : L'[n]? = some ⟨p, cLst r, xs⟩) : EVL K M (tRevL K te) σ B L r xs.reverse L' := fun B1 H e w Q q =>
  h B1 H e w _ fun v B2 H2 e2 w2 hv => by
    have hv : v = .ref p := hv
    subst hv
    obtain ⟨⟨o, h1, vs, h2, hp⟩, _⟩ := w2.at hc
    have h1 : H2 p = some o := h1
    exact ⟨p, vs, rfl, sq_of (by rw [h1, h2]), fun l hl => q l B2 _ e2 (w2.new hl ⟨_, rfl, paired_rev hp⟩)⟩
theorem ev_revT {xs : List α} (h : EV K M te σ B L (rTup r) xs L') : EV K M (L3G.tRevT K te) σ B L (rTup r) xs.reverse L' := fun B1 H e w Q q =>
  h B1 H e w _ fun v B2 H2 e2 w2 hv => by
    obtain ⟨p, vs, rfl, hs, hp⟩ := hv
    refine ⟨p, vs, rfl, ex_t w2.b hs, fun l hl => ?_⟩
    have eN := Ex.new (o := HO.tup vs.reverse) (fresh_back w2.b hl)
    exact q _ (upd B2 l _) _ (e2.trans eN) (w2.ext hl) ⟨l, _, rfl, st_of upd_same, paired_mono eN (paired_rev hp)⟩
/-! ### tuples: +, * -/
def catT (xs ys : List α) : Option (List α) := if xs.length + ys.length ≤ 1000000 then some (xs ++ ys) else none
theorem ev_catT {xs ys zs : List α} (h : EV K M ta σ B L (rTup r) xs L1) (h' : EV K M tb σ B L1 (rTup r) ys L2) (hc : catT xs ys = some zs) : EV K M (tOp (rCatA K) ta tb) σ B L (rTup r) zs L2 := fun B1 H e w Q q =>
  h B1 H e w _ fun v B2 H2 e2 w2 hv => h' B2 H2 (e.trans e2) w2 _ fun u B3 H3 e3 w3 hu => by
    obtain ⟨p, vs, rfl, hs, hp⟩ := hv
    obtain ⟨p', us, rfl, hs', hp'⟩ := hu
    unfold catT at hc
    split at hc
    · rename_i hl
      obtain rfl := Option.some.inj hc
      have hp3 := paired_mono e3 hp
      have l1 := paired_len hp
      have l2 := paired_len hp'
      refine ⟨p, p', vs, us, rfl, rfl, ex_t w3.b (ex_t e3 hs), ex_t w3.b hs', Nat.le_trans (by omega) (show 1000000 ≤ sizeLine by decide), fun hz => ?_, fun _ hz => ?_, fun _ _ l hl => ?_⟩
      · subst hz
        have : xs = [] := List.length_eq_zero_iff.mp l1.symm
        subst this
        exact q _ B3 H3 (e2.trans e3) w3 ⟨p', us, rfl, hs', hp'⟩
      · subst hz
        have : ys = [] := List.length_eq_zero_iff.mp l2.symm
        subst this
        exact q _ B3 H3 (e2.trans e3) w3 ⟨p, vs, rfl, ex_t e3 hs, by rw [List.append_nil]; exact hp3⟩
      · have eN := Ex.new (o := HO.tup (vs ++ us)) (fresh_back w3.b hl)
        exact q _ (upd B3 l _) _ ((e2.trans e3).trans eN) (w3.ext hl) ⟨l, _, rfl, st_of upd_same, paired_mono eN (paired_app hp3 hp')⟩
    · cases hc
def repT (xs : List α) (k : Int) : Option (List α) := if xs ≠ [] ∧ 2 ≤ k ∧ k ≤ 1000 ∧ xs.length ≤ 1000 then some (List.replicate k.toNat xs).flatten else none
theorem paired_rep {F : V → α → Prop} {xs : List V} {as : List α} (h : Paired F xs as) : ∀ n : Nat, Paired F (List.replicate n xs).flatten (List.replicate n as).flatten
  | 0 => .nil
  | n + 1 => by
    rw [List.replicate_succ, List.replicate_succ, List.flatten_cons, List.flatten_cons]
    exact paired_app h (paired_rep h n)
theorem ev_repT {xs zs : List α} (h : EV K M ta σ B L (rTup r) xs L1) (h' : EV K M tb σ B L1 rInt k L2) (hc : repT xs k = some zs) : EV K M (tOp (rRepT K) ta tb) σ B L (rTup r) zs L2 := fun B1 H e w Q q =>
  h B1 H e w _ fun v B2 H2 e2 w2 hv => h' B2 H2 (e.trans e2) w2 _ fun u B3 H3 e3 w3 hu => by
    obtain ⟨p, vs, rfl, hs, hp⟩ := hv
    unfold repT at hc
    split at hc
    · rename_i hl
      obtain ⟨l0, l1, l2, l3⟩ := hl
      obtain rfl := Option.some.inj hc
      have hp3 := paired_mono e3 hp
      have ll := paired_len hp
      refine ⟨p, k, vs, rfl, hu, ex_t w3.b (ex_t e3 hs), fun hz => l0 (by subst hz; exact List.length_eq_zero_iff.mp ll.symm), l1, l2, by omega, fun l hl => ?_⟩
      have eN := Ex.new (o := HO.tup (List.replicate k.toNat vs).flatten) (fresh_back w3.b hl)
      exact q _ (upd B3 l _) _ ((e2.trans e3).trans eN) (w3.ext hl) ⟨l, _, rfl, st_of upd_same, paired_mono eN (paired_rep hp3 _)⟩
    · cases hc
/-! ### typed values as data -/
def DQ (r : Rep α) (f : α → PyData) : Prop := ∀ K B v a, r.is K B v a → Dp K B v (f a)
theorem dq_int : DQ rInt PyData.int := dr_int.dp
theorem dq_bool : DQ rBool PyData.bool := dr_bool.dp
theorem dq_non : DQ rNon dNon := dr_non.dp
theorem dq_str : DQ rStr PyData.str := fun _ _ _ a h => by have h : _ = V.str a := h; subst h; exact .str a
theorem dq_dat : DQ rDat id := fun _ _ _ _ h => h
theorem dq_tup {f : α → PyData} (d : DQ r f) : DQ (rTup r) (dTup f) := fun K B v a ⟨p, xs, h1, h2, h3⟩ => by subst h1; exact .tup h2 (dpAll_of (d K B) h3)
theorem dq_lst {f : α → PyData} (d : DQ r f) : DQ (rLst r) (dLst f) := fun K B v a ⟨p, xs, h1, h2, h3⟩ => by subst h1; exact .lst (sq_of h2) (dpAll_of (d K B) h3)
theorem dq_T2 {f : α → PyData} {g : β → PyData} (d : DQ r f) (e : DQ s g) : DQ (rT2 r s) (dT2 f g) := fun K B v a ⟨p, x, y, h1, h2, h3, h4⟩ => by subst h1; exact .tup h2 (.cons (d _ _ _ _ h3) (.cons (e _ _ _ _ h4) .nil))
theorem dq_T3 {f : α → PyData} {g : β → PyData} {h : γ → PyData} (d : DQ r f) (e : DQ s g) (c : DQ t h) : DQ (rT3 r s t) (dT3 f g h) := fun K B v a ⟨p, x, y, z, h1, h2, h3, h4, h5⟩ => by subst h1; exact .tup h2 (.cons (d _ _ _ _ h3) (.cons (e _ _ _ _ h4) (.cons (c _ _ _ _ h5) .nil)))
theorem dq_opt {f : α → PyData} (d : DQ r f) : DQ (rOpt r) (dOpt f) := fun K B v a h => by
  cases a with
  | none => have h : v = .non := h; subst h; exact .non
  | some a => exact d _ _ _ _ h
theorem ev_dq {f : α → PyData} {a : α} (h : EV K M te σ B L r a L') (D : DQ r f) : EV K M te σ B L rDat (f a) L' := ev_as h fun _ _ h => D _ _ _ _ h
theorem ev_notND {d : PyData} (ha : EV K M ta σ B L rDat d L1) : EV K M (tNotN ta) σ B L rBool (!isNoneD d) L1 := fun B1 H e w Q q =>
  ha B1 H e w _ fun x B2 H2 e2 w2 hx => q _ B2 H2 e2 w2 (by
    show V.bl _ = V.bl _
    congr 1
    have hx : Dp K B2 x d := hx
    cases hx <;> rfl)
end
/-- a slot that may not be set yet -/
def slotIs {α : Type} (r : Rep α) (K : Fg) (B : Hp) (o : Option V) (x : Option α) : Prop := match x with
  | none => True
  | some a => ∃ v, o = some v ∧ r.is K B v a
theorem slot_mono {α : Type} {r : Rep α} {K : Fg} {B B' : Hp} {o : Option V} {x : Option α} (e : Ex B B') (h : slotIs r K B o x) : slotIs r K B' o x := by
  cases x with
  | none => trivial
  | some a => obtain ⟨v, h1, h2⟩ := h; exact ⟨v, h1, r.mono e h2⟩
theorem slot_get {α : Type} {r : Rep α} {K : Fg} {B : Hp} {o : Option V} {x : Option α} {a : α} (h : slotIs r K B o x) (e : x = some a) : ∃ v, o = some v ∧ r.is K B v a := by
  subst e; exact h
end L3

/-! () * k -/
namespace L3G
open PySem PySem.Spec PyProof.Rows L2
theorem tuple_mul0 (l : Addr) (n : Nat) (dd : Option Addr) (sl : Array (Option Value)) (x : Int) (u : Tok) (c0 : (decide (x < -(2 ^ 63)) || decide (x ≥ 2 ^ 63)) = false) :
    Meets (Builtin.«tuple.__mul__» ⟨[.ref l, .int x u], []⟩) (fun _ R s => s.heap.get? l = some { cls := .type "tuple", dict := dd, data := .seq #[] n, slots := sl } ∧
      R (.ok (.ret (Value.ref l))) s) :=
  .of_wp fun prog w A R s h => by
    obtain ⟨hp, g, d, tk, os⟩ := s
    obtain ⟨hl, h⟩ := h
    have f1 := AutoSeq1.idx_int
    wp_walk using wpAny_loadPart' hl
    repeat (first
      | (refine wpAny_ite_false (decide_eq_false (by rw [c0]; exact Bool.false_ne_true)) ?_; wp_walk using wpAny_loadPart' hl)
      | (refine wpAny_ite_true (decide_eq_true (by rfl)) ?_; wp_walk using wpAny_loadPart' hl))
    exact ⟨_, rfl, h⟩
def rRepA (K : PySem.W.Frag) : R2 := fun x y H Q => rRepT K x y H Q ∨ ∃ l k, x = .ref l ∧ y = .int k ∧ SqT K H l [] ∧ 0 ≤ k ∧ k ≤ 1000 ∧ Q (.ref l) H
theorem op_repA {X : Cx} : OpR X (binaryOp .Mult) (rRepA X.K) := by
  intro pins s σ H x y v u Q I rx ry h
  rcases h with h | h
  · exact op_repT pins s σ H x y v u Q I rx ry h
  · obtain ⟨l, k, rfl, rfl, hT, h1, h2, q⟩ := h
    cases rx
    obtain ⟨t, rfl⟩ := ry
    obtain ⟨its, r, ⟨⟨cls, dd, data, sl⟩, ho, hc, n, hd⟩, hs⟩ := I.tuple hT
    simp only at hc hd
    subst hc hd
    cases r
    have c0 : (decide (k < -(2 ^ 63)) || decide (k ≥ 2 ^ 63)) = false := by
      rw [decide_eq_false (by omega), decide_eq_false (by omega)] <;> rfl
    refine wpAny_binaryOp_repeat_ref (T := "tuple") (U := "int") (by decide) ⟨_, ho, rfl⟩ (fun s' => typeIs_int s' k t) noFill_tuple_mul F.fills_int_mul F.slot_int_rmul repeat_tuple F.slot_int_index.lookup
      (call_meets F.slot_int_rmul (typeIs_int s k t) F.entry_int_rmul (F.args_int_rmul_2 _ _) (int_rmul_tuple k t l #[] n dd sl)
        ⟨ho, rfl, ⟨_, ho, rfl⟩, call_meets F.slot_tuple_mul ⟨_, ho, rfl⟩ F.entry_tuple_mul (F.args_tuple_mul_2 _ _) (tuple_mul0 l n dd sl k t c0) ⟨ho, ?_⟩⟩)
    exact ⟨.ref l, H, I, rfl, q⟩
end L3G
namespace L3
open PySem L2
open Evl (Ex ex_rd ex_l ex_t sq_of st_of fresh_back)
section
variable {K : Fg} {M : Fr} {σ : St} {B : Hp} {L L1 L2 L' : List Cell} {α : Type} {r : Rep α} {ta tb : TE} {k : Int}
def repA (xs : List α) (k : Int) : Option (List α) := if 2 ≤ k ∧ k ≤ 1000 ∧ xs.length ≤ 1000 then some (List.replicate k.toNat xs).flatten else none
theorem rep_nil : ∀ n : Nat, (List.replicate n ([] : List α)).flatten = []
  | 0 => rfl
  | n + 1 => by rw [List.replicate_succ, List.flatten_cons, rep_nil n]; rfl
theorem ev_repA {xs zs : List α} (h : EV K M ta σ B L (rTup r) xs L1) (h' : EV K M tb σ B L1 rInt k L2) (hc : repA xs k = some zs) : EV K M (tOp (L3G.rRepA K) ta tb) σ B L (rTup r) zs L2 := fun B1 H e w Q q =>
  h B1 H e w _ fun v B2 H2 e2 w2 hv => h' B2 H2 (e.trans e2) w2 _ fun u B3 H3 e3 w3 hu => by
    obtain ⟨p, vs, rfl, hs, hp⟩ := hv
    unfold repA at hc
    split at hc
    · rename_i hl
      obtain ⟨l1, l2, l3⟩ := hl
      obtain rfl := Option.some.inj hc
      have hp3 := paired_mono e3 hp
      have ll := paired_len hp
      by_cases hn : vs = []
      · subst hn
        have hx : xs = [] := List.length_eq_zero_iff.mp ll.symm
        subst hx
        refine .inr ⟨p, k, rfl, hu, ex_t w3.b (ex_t e3 hs), by omega, l2, ?_⟩
        rw [rep_nil] at q
        exact q _ B3 H3 (e2.trans e3) w3 ⟨p, [], rfl, ex_t e3 hs, .nil⟩
      · refine .inl ⟨p, k, vs, rfl, hu, ex_t w3.b (ex_t e3 hs), hn, l1, l2, by omega, fun l hl => ?_⟩
        have eN := Ex.new (o := HO.tup (List.replicate k.toNat vs).flatten) (fresh_back w3.b hl)
        exact q _ (upd B3 l _) _ ((e2.trans e3).trans eN) (w3.ext hl) ⟨l, _, rfl, st_of upd_same, paired_mono eN (paired_rep hp3 _)⟩
    · cases hc
end
end L3

/-! dicts of ints by ints; sorted(d.items()) -/
namespace L3G
open PySem PySem.Spec PyProof.Rows L2
abbrev encI (kvs : List (Int × Int)) : List (Key × V) := kvs.map fun q => (Sum.inl q.1, V.int q.2)
def rSortI : V → Hp → VK → Prop := fun x H Q => ∃ (d : Addr) (kvs : List (Int × Int)), x = .ref d ∧ H d = some (.dK (encI kvs)) ∧
  ∀ (H' : Hp) (p : Addr) (ts : List Addr) (ys : List (Int × Int)), (∀ b o, H b = some o → H' b = some o) → (∀ t ∈ ts, H t = none) → H' p = none → Paired (fun (t : Addr) (q : Int × Int) => H' t = some (.tup [.int q.1, .int q.2])) ts ys →
    ys.Perm kvs → ys.Pairwise (fun a b => SrtO.lexB b a = false) → Q (.ref p) (upd H' p (.lst (ts.map V.ref)))
def tSortI (te : TE) : TE := fun σ H Q => te σ H fun x H1 => rSortI x H1 Q
def ofH (H : Hp) (v : Value) : Int × Int := match v with
  | .ref a => (match H a with
    | some (.tup [.int x, .int y]) => (x, y)
    | _ => (0, 0))
  | _ => (0, 0)
section
variable {X : Cx} {e : Expr} {te : TE} {p apos cpos pos : Pos}
theorem tups_laid {pins : List (Addr × Obj)} {σ : L2.St} {H : Hp} {s : Shared} {h' : Heap} {tk lo : Nat} {kvs : List (Key × V)} {vs : List (Key × Value)} {as : List Addr} (I : Inv X pins σ H s) (hlo : s.heap.objs.size ≤ lo) (kv : KV kvs vs)
    (hk : ∀ b o, s.heap.get? b = some o → h'.get? b = some o) (hl : as.length = vs.length) (hG : PySem.W.KdxG (mixKind X.prog X.w) vs lo h' as) :
    ∃ H' : Hp, (∀ b o, H b = some o → H' b = some o) ∧ (∀ t ∈ as, H t = none) ∧ Paired (fun (t : Addr) (q : Key × V) => H' t = some (.tup [kV q.1, q.2])) as kvs ∧ Inv X pins σ H' { s with heap := h', toks := tk } := by
  have lk : kvs.length = vs.length := Paired.length kv
  have nd : as.Nodup := List.Pairwise.imp (fun {a b} (h : a < b) => Nat.ne_of_lt h) hG.rise
  have ge : ∀ t ∈ as, s.heap.objs.size ≤ t := fun t ht => Nat.le_trans hlo (Nat.le_of_lt (hG.above t ht))
  have new : ∀ t ∈ as, H t = none := fun t ht => I.hok.fresh (ge t ht)
  have atP := LiI.putT_at as kvs H (by omega) nd
  have off : ∀ b, b ∉ as → LiI.putT H as kvs b = H b := fun b h1 => LiI.putT_off as kvs _ h1
  have low : ∀ b o, s.heap.get? b = some o → b ∉ as := fun b o e z => absurd (Heap.lt_size e) (Nat.not_lt.mpr (ge b z))
  have kp : ∀ b u, H b = some u → (LiI.putT H as kvs) b = some u := fun b u e => by
    rw [off b (fun z => by rw [new b z] at e; cases e)]
    exact e
  refine ⟨LiI.putT H as kvs, kp, new, atP, ?_⟩
  refine I.call' (ch := []) rfl ⟨fun b o q _ _ _ => hk b o q, fun b o q _ _ _ => ⟨o.slots, hk b o q⟩, fun b o q n _ => ?_, fun b o q _ => ⟨o, hk b o q⟩, fun b xs q => kp b _ q, fun b o u q => kp b _ q, fun b ps q => ⟨#[], by rw [kp b _ q]; simp⟩⟩ (fun b u q => ?_) I.bare fun b z => by simp at z
  · rw [off b (low b o q)]
    exact n
  · by_cases hb : b ∈ as
    · obtain ⟨j, pk, e1, e2, e3⟩ := LiI.paired_ix atP hb
      rw [e3] at q
      cases q
      obtain ⟨key, k, x, f1, f2, f3⟩ := hG.pairs j b e1
      obtain ⟨qv, g1, g2, g3⟩ := LiI.paired_get kv e2
      rw [f1] at g1
      cases g1
      have rk : RelV (kV pk.1) key := by
        rw [g2]
        exact relV_key (show keyIs k key = true from f2)
      exact ⟨by show 2 ≤ sizeLine; decide, [key, x], .cons rk (.cons g3 .nil), ⟨_, f3, rfl, _, rfl⟩⟩
    · rw [off b hb] at q
      exact (I.hok b u q).stay (fun d v _ y => hk d v y) (fun d y => kp d _ y) fun d xs y => kp d _ y
theorem ofH_eq {H : Hp} {a : Addr} {q : Int × Int} (h : H a = some (.tup [.int q.1, .int q.2])) : ofH H (.ref a) = q := by
  show (match H a with | some (.tup [.int x, .int y]) => (x, y) | _ => (0, 0)) = q
  rw [h]
theorem ofH_is {H : Hp} : ∀ {as : List Addr} {kvs : List (Int × Int)}, Paired (fun (t : Addr) (q : Key × V) => H t = some (.tup [kV q.1, q.2])) as (encI kvs) → (as.map Value.ref).map (ofH H) = kvs
  | [], [], _ => rfl
  | [], _ :: _, h => by cases h
  | _ :: _, [], h => by cases h
  | a :: as, q :: kvs, h => by
    cases h with
    | cons h1 h2 =>
      rw [List.map_cons, List.map_cons, ofH_is h2]
      have h1 : H a = some (.tup [.int q.1, .int q.2]) := h1
      show ofH H (.ref a) :: kvs = _
      rw [ofH_eq h1]
theorem ofH_at {H : Hp} : ∀ {as : List Addr} {kvs : List (Int × Int)}, Paired (fun (t : Addr) (q : Key × V) => H t = some (.tup [kV q.1, q.2])) as (encI kvs) → ∀ {a}, a ∈ as → H a = some (.tup [.int (ofH H (.ref a)).1, .int (ofH H (.ref a)).2])
  | [], _, _, a, h => absurd h (by simp)
  | _ :: _, [], h, _, _ => by cases h
  | b :: as, q :: kvs, h, a, ha => by
    cases h with
    | cons h1 h2 =>
      rcases List.mem_cons.mp ha with e | ha
      · subst e
        have h1 : H a = some (.tup [.int q.1, .int q.2]) := h1
        have e : ofH H (.ref a) = q := ofH_eq h1
        rw [e]; exact h1
      · exact ofH_at h2 ha
theorem paired_self {H : Hp} : ∀ {ts : List Addr}, (∀ t ∈ ts, H t = some (.tup [.int (ofH H (.ref t)).1, .int (ofH H (.ref t)).2])) → Paired (fun (t : Addr) (q : Int × Int) => H t = some (.tup [.int q.1, .int q.2])) ts ((ts.map Value.ref).map (ofH H))
  | [], _ => .nil
  | t :: ts, h => .cons (h t List.mem_cons_self) (paired_self fun u hu => h u (List.mem_cons_of_mem _ hu))
theorem refs_of : ∀ {us : List Value}, (∀ u ∈ us, ∃ a, u = Value.ref a) → ∃ ts : List Addr, us = ts.map Value.ref
  | [], _ => ⟨[], rfl⟩
  | u :: us, h => by
    obtain ⟨a, rfl⟩ := h u List.mem_cons_self
    obtain ⟨ts, rfl⟩ := refs_of fun v hv => h v (List.mem_cons_of_mem _ hv)
    exact ⟨a :: ts, rfl⟩
/-- sorted(e.items()) -/
theorem pe_sortI (hc : X.calm = true) (he : PE X e te) (hg : Gl X "sorted") (hm : X.mg "sorted" = none) (hv : bootBuiltins "sorted" = some (.builtin "sorted")) (hbase : attributeBase e "items" X.env (eval e X.env) = eval e X.env := by rfl) (hline : (apos.endLine == cpos.line) = true := by rfl)
    (hs : starEach [.Call (.Attribute e "items" apos) [] [] cpos] X.env = (false, eval (.Call (.Attribute e "items" apos) [] [] cpos) X.env) :: starEach [] X.env := by rfl) :
    PE X (.Call (.Name "sorted" p) [.Call (.Attribute e "items" apos) [] [] cpos] [] pos) (tSortI te) := by
  refine ⟨fun pins s σ H Q I hq => ?_⟩
  refine wpAny_Call_Name_kw (ld_blt I hg hm hv ?_)
  refine PyProof.Rows.callWith_builtin1 ?_ hs (by rfl)
  rw [hs]
  show wpAny _ _ (spliced ((false, eval (.Call (.Attribute e "items" apos) [] [] cpos) X.env) :: backTo pos (starEach [] X.env))) _ _ s
  refine Calls.spliced_cons ?_
  refine wpAny_Call_method (T := "dict") (id := "dict.items") hbase rfl hline F.plainAttrs_dict F.slot_dict_items F.type_dict_items (thn (he.run pins s σ H _ I hq) fun u s1 ⟨x, H1, I1, rx, d, kvs, ex, hd, q⟩ => ?_)
  subst ex
  obtain rfl : u = Value.ref d := rx
  obtain ⟨hz, hs0, vs, kv, hdo⟩ := I1.hok d _ hd
  obtain ⟨ep, hat⟩ := hdo.dictAt
  have lk : (encI kvs).length = vs.length := Paired.length kv
  have I2 : Inv X pins σ H1 { s1 with heap := s1.heap.push { cls := .type "dict_items", data := .fields #[.ref d] } } := I1.kept (t' := s1.toks) fun b ob q => Heap.get?_push_of_some _ q
  refine ⟨hdo.typeIs, hdo.mapOf.noDict, ?_⟩
  show wpAny _ _ (callWith cpos (.builtin "dict.items") [.ref d] [] []) _ X.xe s1
  refine method_meetsIn F.slot_dict_items F.entry_dict_items rfl (PySem.evalArgs_none ⟨rfl, hdo.typeIs, F.args_dict_items_1 _, _, meets_dict_items (mixKind X.prog X.w) d hs0, ⟨vs, hdo⟩, ?_⟩)
  refine Calls.spliced_nil ?_
  refine Calls.call_function_entry kind_sorted plain_sorted entry_sorted (args_sorted1 _) ?_
  unfold Builtin.«sorted»
  refine wpAny_bind (m := checkCount "sorted" 1 1 _) (wpAny_pure ?_)
  have hh : X.A.in1.handled = none := I1.ok.hd hc
  refine wpAny_bind (PySem.W.kdx_collect (A := X.A.in1) (knd := mixKind X.prog X.w) (kvs := vs) (ep := ep) hh ⟨_, Heap.get?_push_size _ rfl, rfl, rfl⟩ (hat.push _) (by omega) fun h' tk as hk hl hG => ?_)
  obtain ⟨H', k1, k3, k6, J⟩ := tups_laid (tk := tk) I2 (Nat.le_refl _) kv hk hl hG
  have hz2 : (as.map Value.ref).length ≤ sizeLine := by rw [List.length_map, hl]; omega
  refine wpAny_bind (wpAny_newList ?_ hz2)
  have hoL : (h'.push (seqObj "list" (as.map Value.ref).toArray 0)).get? h'.objs.size = some (seqObj "list" (as.map Value.ref).toArray 0) := Heap.get?_push_size _ rfl
  have isP : ∀ v ∈ as.map Value.ref, Srt.IsPair h' v (ofH H' v).1 (ofH H' v).2 := fun v hv => by
    obtain ⟨t, ht, rfl⟩ := List.mem_map.mp hv
    have ha := ofH_at k6 ht
    obtain ⟨_, its2, r2, o, ho, hc, n, hd⟩ := J.hok _ _ ha
    obtain ⟨u1, u2, rfl, ri, rj⟩ := vals2 r2
    obtain ⟨t1, rfl⟩ := ri
    obtain ⟨t2, rfl⟩ := rj
    exact ⟨t, o, t1, t2, n, rfl, ho, hc, hd⟩
  refine wpAny_bind (wpAny_holding (wpAny_call_entry slot_list_sort ⟨_, hoL, rfl⟩ entry_list_sort (SrtO.list_sort_ord (n := 0) (SrtO.swo_lex (ofH H')) hoL hz2 (fun h2 => SrtO.pairs_sortableO (by omega) (fun v hm => (isP v hm).keeps fun b o e _ => Heap.get?_push_of_some _ e) fun o e => ?_) fun out hs hb => ⟨_, rfl, ?_⟩) (args_list_sort _)))
  · have e' : some o = some (seqObj "list" (as.map Value.ref).toArray 0) := e.symm.trans hoL
    cases e'
    intro c
    exact absurd (Value.type.inj c) (by decide)
  · refine wpAny_pure ⟨_, rfl, ?_⟩
    obtain ⟨ts, rfl⟩ := refs_of (us := out) fun u hu => by
      obtain ⟨t, _, e⟩ := List.mem_map.mp (hb.perm.mem_iff.mp hu)
      exact ⟨t, e.symm⟩
    have mem : ∀ t ∈ ts, t ∈ as := fun t ht => by
      obtain ⟨t', h1, h2⟩ := List.mem_map.mp (hb.perm.mem_iff.mp (List.mem_map.mpr ⟨t, ht, rfl⟩))
      cases h2
      exact h1
    have hl2 := hb.perm.length_eq
    have e1 := ofH_is k6
    obtain ⟨n, hn⟩ := sortedHeap_at (out := (ts.map Value.ref).toArray) hoL
    have old : ∀ b o, h'.get? b = some o → (sortedHeap (h'.push (seqObj "list" (as.map Value.ref).toArray 0)) h'.objs.size (as.map Value.ref) (ts.map Value.ref).toArray).get? b = some o := fun b o e => by
      have := Heap.lt_size e
      rw [sortedHeap_old (Nat.ne_of_lt this) (by rw [size_push']; exact Nat.lt_succ_of_lt this)]
      exact Heap.get?_push_of_some _ e
    refine ⟨.ref h'.objs.size, _, J.laid (a := h'.objs.size) (o := .lst (ts.map V.ref)) (t' := tk) old (Nat.le_refl _) ?_, rfl, q H' h'.objs.size ts ((ts.map Value.ref).map (ofH H')) k1 (fun t ht => k3 t (mem t ht)) (J.hok.fresh (Nat.le_refl _)) (paired_self fun t ht => ofH_at k6 (mem t ht)) ?_ ?_⟩
    · refine ⟨by rw [List.length_map]; rw [List.length_map] at hl2; rw [hl2]; exact hz2, ts.map Value.ref, n, LiI.vals_refs ts, hn⟩
    · rw [← e1]
      exact hb.perm.map _
    · exact SrtO.srtd_map (lt := SrtO.lexB) hs
end
end L3G
namespace L3
open PySem L2
open Evl (Ex ex_rd ex_l ex_t sq_of st_of fresh_back)

/-! ### dicts of ints by ints -/
def putI : List (Int × Int) → Int → Int → List (Int × Int)
  | [], k, v => [(k, v)]
  | q :: kvs, k, v => if q.1 = k then (q.1, v) :: kvs.map (fun q => if q.1 = k then (q.1, v) else q) else q :: putI kvs k v
def leI (a b : Int × Int) : Bool := !SrtO.lexB b a
def sortI (l : List (Int × Int)) : List (Int × Int) := l.mergeSort leI
def cDk : CRep (List (Int × Int)) := ⟨fun _ _ o a => o = .dK (L3G.encI a), fun _ h => h⟩
theorem putI_cons_ne {q : Int × Int} {kvs : List (Int × Int)} {k v : Int} (h : q.1 ≠ k) : putI (q :: kvs) k v = q :: putI kvs k v := by
  show (if q.1 = k then _ else _) = _
  rw [if_neg h]
theorem enc_map (k v : Int) : ∀ kvs : List (Int × Int), (L3G.encI kvs).map (fun kv => if kv.1 = (Sum.inl k : Key) then (kv.1, V.int v) else kv) = L3G.encI (kvs.map fun q => if q.1 = k then (q.1, v) else q)
  | [] => rfl
  | q :: kvs => by
    have ih := enc_map k v kvs
    by_cases h : q.1 = k
    · show (if (Sum.inl q.1 : Key) = Sum.inl k then _ else _) :: (L3G.encI kvs).map _ = L3G.encI ((if q.1 = k then (q.1, v) else q) :: _)
      rw [ih, if_pos (by rw [h]), if_pos h]; rfl
    · show (if (Sum.inl q.1 : Key) = Sum.inl k then _ else _) :: (L3G.encI kvs).map _ = L3G.encI ((if q.1 = k then (q.1, v) else q) :: _)
      rw [ih, if_neg (fun z => h (Sum.inl.inj z)), if_neg h]; rfl
theorem enc_put (k v : Int) : ∀ kvs : List (Int × Int), putK (L3G.encI kvs) (Sum.inl k) (V.int v) = L3G.encI (putI kvs k v)
  | [] => rfl
  | q :: kvs => by
    by_cases h : q.1 = k
    · have e1 : ((L3G.encI (q :: kvs)).any fun kv => decide (kv.1 = (Sum.inl k : Key))) = true := by
        show (decide ((Sum.inl q.1 : Key) = Sum.inl k) || _) = true
        rw [h, decide_eq_true rfl, Bool.true_or]
      unfold putK
      rw [if_pos e1, enc_map]
      unfold putI
      rw [if_pos h, List.map_cons, if_pos h]
    · have ne : ¬ (Sum.inl q.1 : Key) = Sum.inl k := fun z => h (Sum.inl.inj z)
      have ih := enc_put k v kvs
      rw [putI_cons_ne h]
      unfold putK at ih ⊢
      have e0 : ((L3G.encI (q :: kvs)).any fun kv => decide (kv.1 = (Sum.inl k : Key))) = ((L3G.encI kvs).any fun kv => decide (kv.1 = (Sum.inl k : Key))) := by
        show (decide ((Sum.inl q.1 : Key) = Sum.inl k) || _) = _
        rw [decide_eq_false ne, Bool.false_or]
      rw [e0]
      by_cases ha : ((L3G.encI kvs).any fun kv => decide (kv.1 = (Sum.inl k : Key))) = true
      · rw [if_pos ha] at ih ⊢
        show (if (Sum.inl q.1 : Key) = Sum.inl k then _ else _) :: (L3G.encI kvs).map _ = _
        rw [if_neg ne, ih]
        rfl
      · rw [if_neg ha] at ih ⊢
        show _ :: (L3G.encI kvs ++ _) = _
        rw [ih]
        rfl
theorem sortI_eq {ys l : List (Int × Int)} (hp : ys.Perm l) (hs : ys.Pairwise (fun a b => SrtO.lexB b a = false)) : ys = sortI l := by
  refine List.Perm.eq_of_pairwise (le := fun a b => SrtO.lexB b a = false) (fun a b _ _ h1 h2 => ?_) hs ?_ (hp.trans (List.mergeSort_perm l leI).symm)
  · have a1 := SrtO.lexB_no.mp h1
    have a2 := SrtO.lexB_no.mp h2
    exact Prod.ext (by omega) (by omega)
  · refine (List.pairwise_mergeSort (le := leI) (fun a b c h1 h2 => ?_) (fun a b => ?_) l).imp fun {a b} h => ?_
    · unfold leI at *
      rw [Bool.not_eq_true'] at *
      have a1 := SrtO.lexB_no.mp h1
      have a2 := SrtO.lexB_no.mp h2
      refine SrtO.lexB_no.mpr ?_
      omega
    · unfold leI
      cases e : SrtO.lexB b a with
      | false => rfl
      | true =>
        have a1 := SrtO.lexB_iff.mp e
        have a2 : SrtO.lexB a b = false := SrtO.lexB_no.mpr (by omega)
        rw [a2]; rfl
    · unfold leI at h
      rwa [Bool.not_eq_true'] at h
theorem sortI_perm (l : List (Int × Int)) : (sortI l).Perm l := List.mergeSort_perm l leI
def rSetD : V → V → V → Hp → (Hp → Prop) → Prop := fun o i v H Q => ∃ a H4, o = .ref a ∧ DPut H a i v H4 ∧ Q H4
theorem set_dict {X : Cx} (hu : X.A.units + 1 < cLine) : PSet X rSetD := by
  intro pins s σ H o i v ov iv u Q I ro ri rv h
  obtain ⟨a, H4, rfl, g, q⟩ := h
  cases ro
  exact d_setItem hu I g ri rv fun s4 I4 => ⟨H4, I4, q⟩
section
variable {K : Fg} {M : Fr} {σ : St} {B H H' : Hp} {L L1 L2 L' : List Cell} {α β γ δ : Type} {r : Rep α} {s : Rep β} {ta tb tc te : TE} {tt tu : TT} {tA : TA} {i j k : Int} {D : Ends} {tz : TS}
theorem Own.grow (w : Own K B M L H) (k : ∀ b o, H b = some o → H' b = some o) : Own K B M L H' :=
  ⟨fun b u e => k b u (w.b b u e), fun b u e => k b u (w.m b u e), w.bm, fun x hx => by
    obtain ⟨⟨o, h1, h2⟩, h3⟩ := w.l x hx
    exact ⟨⟨o, k _ _ h1, h2⟩, h3⟩, w.nd, fun P hP => by
    obtain ⟨⟨ps, h1, h2⟩, h3⟩ := w.t P hP
    exact ⟨⟨ps, k _ _ h1, h2⟩, h3⟩⟩
/-- new things that stay -/
theorem Own.join {ts : List Addr} (w : Own K B M L H) (k : ∀ b o, H b = some o → H' b = some o) (new : ∀ t ∈ ts, H t = none) : Ex B (fun a => if a ∈ ts then H' a else B a) ∧ Own K (fun a => if a ∈ ts then H' a else B a) M L H' := by
  have off : ∀ {b u}, B b = some u → b ∉ ts := fun {b u} e z => by
    have := w.b b u e
    rw [new b z] at this
    cases this
  have e0 : Ex B (fun a => if a ∈ ts then H' a else B a) := fun b u e => by
    show (if b ∈ ts then H' b else B b) = some u
    rw [if_neg (off e)]; exact e
  refine ⟨e0, fun b u e => ?_, fun b u e => k b u (w.m b u e), fun b => ?_, fun x hx => ?_, w.nd, fun P hP => ?_⟩
  · have e : (if b ∈ ts then H' b else B b) = some u := e
    by_cases hb : b ∈ ts
    · rw [if_pos hb] at e; exact e
    · rw [if_neg hb] at e; exact k b u (w.b b u e)
  · by_cases hb : b ∈ ts
    · right
      exact fresh_back w.m (new b hb)
    · rcases w.bm b with h | h
      · left
        show (if b ∈ ts then H' b else B b) = none
        rw [if_neg hb]; exact h
      · exact .inr h
  · obtain ⟨⟨o, h1, h2⟩, h3, h4⟩ := w.l x hx
    refine ⟨⟨o, k _ _ h1, x.c.mono e0 h2⟩, ?_, h4⟩
    show (if x.p ∈ ts then H' x.p else B x.p) = none
    rw [if_neg (fun z => by rw [new _ z] at h1; cases h1)]; exact h3
  · obtain ⟨⟨ps, h1, h2⟩, h3, h4⟩ := w.t P hP
    refine ⟨⟨ps, k _ _ h1, h2⟩, ?_, h4⟩
    show (if P ∈ ts then H' P else B P) = none
    rw [if_neg (fun z => by rw [new _ z] at h1; cases h1)]; exact h3
theorem q_asgD {n : Nat} (w : Own K B M L H) (q : ∀ p H', Own K B M (⟨p, cDk, []⟩ :: L) H' → tz D (σ.set n (some (.ref p))) H') : tSeq (tAsg tDNewK (gName n)) tz D σ H :=
  fun p hp => q p _ (w.new hp rfl)
theorem q_setD {n m : Nat} {p : Addr} {as : List (Int × Int)} (w : Own K B M L H) (h : EV K M te σ B L rInt j L1) (hs : σ[m]? = some (some (.ref p))) (hb : EV K M tb σ B L1 rInt i L2) (hc : L2[n]? = some ⟨p, cDk, as⟩) (hr : room as.length = some ())
    (q : ∀ B' H', Ex B B' → Own K B' M (L2.set n ⟨p, cDk, putI as i j⟩) H' → tz D σ H') : tSeq (tAsg te (gSub (tVar m) tb rSetD)) tz D σ H :=
  h B H (Ex.refl _) w _ fun v B1 H1 e1 w1 hv => ⟨_, hs, hb B1 H1 e1 w1 _ fun y B2 H2 e2 w2 hy => by
    obtain ⟨⟨o', g1, g2⟩, _⟩ := w2.at hc
    have g1 : H2 p = some o' := g1
    have g2 : o' = .dK (L3G.encI as) := g2
    have hv : v = .int j := hv
    have hy : y = kV (Sum.inl i) := hy
    subst hv hy
    refine ⟨p, _, rfl, DPut.k (kvs := L3G.encI as) (by rw [g1, g2]) (by rw [List.length_map]; exact room_some hr), q B2 _ (e1.trans e2) (w2.set hc ?_)⟩
    show _ = HO.dK (L3G.encI (putI as i j))
    rw [← enc_put]⟩
theorem el_sortI {n m : Nat} {p : Addr} {as : List (Int × Int)} (hs : σ[m]? = some (some (.ref p))) (hc : L[n]? = some ⟨p, cDk, as⟩) : EVL K M (L3G.tSortI (tVar m)) σ B L (rT2 rInt rInt) (sortI as) L := fun B1 H e w Q q => by
  obtain ⟨⟨o', g1, g2⟩, _⟩ := w.at hc
  have g1 : H p = some o' := g1
  have g2 : o' = .dK (L3G.encI as) := g2
  refine ⟨_, hs, p, as, rfl, by rw [g1, g2], fun H' l ts ys k new hl hp pm st => ?_⟩
  obtain ⟨e2, w2⟩ := w.join k new
  have ey := sortI_eq pm st
  subst ey
  refine q l _ _ e2 (w2.new hl ⟨ts.map V.ref, rfl, ?_⟩)
  have go : ∀ (ts' : List Addr) (ys : List (Int × Int)), (∀ t ∈ ts', t ∈ ts) → Paired (fun (t : Addr) (q : Int × Int) => H' t = some (.tup [.int q.1, .int q.2])) ts' ys → Paired ((rT2 rInt rInt).is K fun a => if a ∈ ts then H' a else B1 a) (ts'.map V.ref) ys := fun ts' => by
    induction ts' with
    | nil => intro ys _ h; cases h; exact .nil
    | cons t ts' ih =>
      intro ys hm h
      cases h with
      | cons h1 h2 =>
        refine .cons ⟨t, _, _, rfl, st_of ?_, rfl, rfl⟩ (ih _ (fun u hu => hm u (List.mem_cons_of_mem _ hu)) h2)
        show (if t ∈ ts then H' t else B1 t) = _
        rw [if_pos (hm t List.mem_cons_self)]
        exact h1
  exact go ts _ (fun _ h => h) hp
theorem ints_of {K : Fg} {B : Hp} : ∀ {vs : List V} {xs : List Int}, Paired (rInt.is K B) vs xs → vs = xs.map V.int
  | _, _, .nil => rfl
  | _, _, .cons h t => by
    have h : _ = V.int _ := h
    rw [h, ints_of t]; rfl
theorem ev_sumL {xs : List Int} (h : EV K M te σ B L (rLst rInt) xs L') : EV K M (tCB (rSum K) (tCons te tNil)) σ B L rInt xs.sum L' := fun B1 H e w Q q =>
  h B1 H e w _ fun v B2 H2 e2 w2 hv => by
    obtain ⟨p, vs, rfl, hs, hp⟩ := rl_sc hv
    exact ⟨p, xs, rfl, by rw [← ints_of hp]; exact ex_l w2.b hs, q _ B2 H2 e2 w2 rfl⟩
end
end L3

namespace L3
open PySem L2
open Evl (Ex ex_rd ex_l ex_t sq_of st_of fresh_back)
/-! ### [..] * k -/
section
variable {K : Fg} {M : Fr} {σ : St} {B H H' : Hp} {L L1 L2 L' : List Cell} {α β γ δ : Type} {r : Rep α} {s : Rep β} {ta tb tc te : TE} {i j k : Int}
def repL (xs : List α) (k : Int) : Option (List α) := if -(2 ^ 62) ≤ k ∧ k < 2 ^ 62 ∧ xs.length * k.toNat ≤ sizeLine then some (List.replicate k.toNat xs).flatten else none
theorem el_rep {xs zs : List α} (h : EVL K M ta σ B L r xs L1) (h' : ∀ p, EV K M tb σ B (⟨p, cLst r, xs⟩ :: L1) rInt k (⟨p, cLst r, xs⟩ :: L2)) (hc : repL xs k = some zs) : EVL K M (tOp rRep ta tb) σ B L r zs L2 := fun B1 H e w Q q =>
  h B1 H e w _ fun p B2 H2 e2 w2 => h' p B2 H2 (e.trans e2) w2 _ fun u B3 H3 e3 w3 hu => by
    unfold repL at hc
    split at hc
    · rename_i hl
      obtain ⟨l1, l2, l3⟩ := hl
      obtain rfl := Option.some.inj hc
      obtain ⟨⟨o, g1, vs, g2, hp⟩, _⟩ := w3.at (i := 0) rfl
      have g1 : H3 p = some o := g1
      have ll := paired_len hp
      have ll : vs.length = xs.length := ll
      refine ⟨p, k, vs, rfl, hu, by rw [g1, g2], by omega, by omega, by rw [ll]; exact l3, fun l hl => ?_⟩
      exact q l B3 _ (e2.trans e3) (w3.tail.new hl ⟨_, rfl, paired_rep hp _⟩)
    · cases hc
theorem nn_rT2 {B : Hp} (v : V) (x : α × β) (h : (rT2 r s).is K B v x) : v ≠ .non := by
  obtain ⟨p, _, _, rfl, _⟩ := h
  exact fun z => by cases z
theorem nn_rTup {B : Hp} (v : V) (x : List α) (h : (rTup r).is K B v x) : v ≠ .non := by
  obtain ⟨p, _, rfl, _⟩ := h
  exact fun z => by cases z
theorem nn_rLst {B : Hp} (v : V) (x : List α) (h : (rLst r).is K B v x) : v ≠ .non := by
  obtain ⟨p, _, rfl, _⟩ := h
  exact fun z => by cases z
abbrev rTupOf (K : Fg) : List V → Hp → VK → Prop := fun xs H Q => ∃ p ys, xs = [.ref p] ∧ ((SqL K H p ys ∧ ∀ l, H l = none → Q (.ref l) (upd H l (.tup ys))) ∨ (SqT K H p ys ∧ Q (.ref p) H))
abbrev rListOf (K : Fg) : List V → Hp → VK → Prop := fun xs H Q => ∃ p ys, xs = [.ref p] ∧ (SqL K H p ys ∨ SqT K H p ys) ∧ ∀ l, H l = none → Q (.ref l) (upd H l (.lst ys))
/-! ### a def at an address -/
structure ClA (P : Program) (w : World) (K : Fg) (mg : Str → Option Value) (base : Heap) (k : Nat) (f : Addr) (sp : Sp) (dvs : List V) : Prop where
  ex : ∃ (fd : FuncData) (ps : List Str) (ds : List Value), FnOk P w K mg base CX0 k f fd ps sp ∧ PySem.W.keepIn K (.ref f) = true ∧ Binds K fd ps ds ∧ Vals dvs ds
theorem Cl.at {P : Program} {w : World} {mg : Str → Option Value} {base : Heap} {k : Nat} {x : Str} {sp : Sp} {dvs : List V} (c : Cl P w K mg base k x sp dvs) : ∃ f, mg x = some (.ref f) ∧ PySem.W.keepIn K (.ref f) = true ∧ ClA P w K mg base k f sp dvs := by
  obtain ⟨f, fd, ps, ds, F, hm, kp, b, d⟩ := c.ex
  exact ⟨f, hm, kp, fd, ps, ds, F, kp, b, d⟩
theorem pe_cL {X : Cx} {k j i : Nat} {f : Addr} {x : Str} {sp : Sp} {dvs : List V} {p pos : Pos} {e : Expr} {es : List Expr} {t : TA} (c : ClA X.prog X.w X.K X.mg X.base k f sp dvs) (hr : Room j X.A) (hk : k ≤ j) (hN : X.N[i]? = some x) (hv : Vis X.env.scope x) (ha : PA X (e :: es) t)
    (hdb : (x == ("__debug__" : Str)) = false := by decide) (hcd : (x == ("__classdict__" : Str)) = false := by decide) (he : starEach (e :: es) X.env = (false, eval e X.env) :: starEach es X.env := by rfl) (hpl : (backTo pos (starEach es X.env)).any (·.1) = false := by rfl) :
    PE X (.Call (.Name x p) (e :: es) [] pos) (tCallL i f sp dvs E0 t) := by
  obtain ⟨fd, ps, ds, F, kp, b, d⟩ := c.ex
  exact pe_callL F (hr.mono hk) hN hv kp b d pass0 ha hdb hcd he hpl
theorem ev_callL {i : Nat} {f : Addr} {sp : Sp} {dvs : List V} {E : XK} {tA : TA} {a : α} (hs : σ[i]? = some (some (.ref f))) (h : EV K M (tCall sp dvs E tA) σ B L r a L') : EV K M (tCallL i f sp dvs E tA) σ B L r a L' :=
  fun B1 H e w Q q => ⟨hs, h B1 H e w Q q⟩
/-- list(range(..)) -/
def rgO (a b : Int) : Option (List Int) := if -(2 ^ 62) ≤ a ∧ a < 2 ^ 62 ∧ -(2 ^ 62) ≤ b ∧ b < 2 ^ 62 ∧ (b - a).toNat ≤ 2 ^ 24 then some (rng a b) else none
theorem rg_paired {K : Fg} {B : Hp} (a b : Int) : Paired (rInt.is K B) (rgV a b) (rng a b) := by
  unfold rgV rng
  exact paired_map (F := rInt.is K B) (f := fun (i : Nat) => V.int (a + (i : Int))) (g := fun (k : Nat) => a + (k : Int)) (fun _ => rfl) _
theorem el_listRg1 {xs : List Int} (h : EV K M ta σ B L rInt k L') (hc : rgO 0 k = some xs) : EVL K M (tLstRg (tRg1 ta)) σ B L rInt xs L' := fun B1 H e w Q q =>
  h B1 H e w _ fun v B2 H2 e2 w2 hv => by
    unfold rgO at hc
    split at hc
    · rename_i ok
      obtain rfl := Option.some.inj hc
      exact ⟨k, hv, ok, fun l hl => q l B2 _ e2 (w2.new hl ⟨_, rfl, rg_paired 0 k⟩)⟩
    · cases hc
theorem el_listRg2 {xs : List Int} (h : EV K M ta σ B L rInt j L1) (h' : EV K M tb σ B L1 rInt k L') (hc : rgO j k = some xs) : EVL K M (tLstRg (tRg2 ta tb)) σ B L rInt xs L' := fun B1 H e w Q q =>
  h B1 H e w _ fun v B2 H2 e2 w2 hv => h' B2 H2 (e.trans e2) w2 _ fun u B3 H3 e3 w3 hu => by
    unfold rgO at hc
    split at hc
    · rename_i ok
      obtain rfl := Option.some.inj hc
      exact ⟨j, k, hv, hu, ok, fun l hl => q l B3 _ (e2.trans e3) (w3.new hl ⟨_, rfl, rg_paired j k⟩)⟩
    · cases hc
/-- a store as a part of a target -/
theorem g_setC {n m l : Nat} {p : Addr} {as : List α} {a : α} {v : V} {G : St → Hp → Prop} (w : Own K B M L H) (hv : r.is K B v a) (hs : σ[m]? = some (some (.ref p))) (hb : EV K M tb σ B L rInt i L2) (hc : L2[n]? = some ⟨p, cLst r, as⟩) (hi : ixO as.length i = some l)
    (q : ∀ B' H', Ex B B' → Own K B' M (L2.set n ⟨p, cLst r, as.set l a⟩) H' → G σ H') : gSub (tVar m) tb rSetL v σ H G :=
  ⟨_, hs, hb B H (Ex.refl _) w _ fun y B2 H2 e2 w2 hy => by
    obtain ⟨⟨o', g1, xs, g2, g3⟩, _⟩ := w2.at hc
    have g1 : H2 p = some o' := g1
    exact ⟨p, xs, i, l, rfl, hy, by rw [g1, g2], by rw [paired_len g3]; exact hi, q B2 _ e2 (w2.set hc ⟨_, rfl, paired_set (r.mono e2 hv) l g3⟩)⟩⟩
/-! ### k in xs, of ints -/
theorem flat_ints : ∀ xs : List Int, (xs.map V.int).all flatV = true
  | [] => rfl
  | x :: xs => by rw [List.map_cons, List.all_cons, flat_ints xs]; rfl
theorem inV_ints (k : Int) : ∀ xs : List Int, inV (.int k) (xs.map V.int) = decide (k ∈ xs)
  | [] => rfl
  | x :: xs => by
    have ih := inV_ints k xs
    unfold inV at ih ⊢
    rw [List.map_cons, List.any_cons, ih]
    have e : eqV (.int x) (.int k) = decide (x = k) := rfl
    rw [e]
    clear ih e
    by_cases h : x = k
    · subst h
      rw [decide_eq_true rfl, Bool.true_or, decide_eq_true (List.mem_cons_self)]
    · rw [decide_eq_false h, Bool.false_or]
      by_cases h2 : k ∈ xs
      · rw [decide_eq_true h2, decide_eq_true (List.mem_cons_of_mem _ h2)]
      · rw [decide_eq_false h2, decide_eq_false fun z => (List.mem_cons.mp z).elim (fun q => h q.symm) h2]
theorem sq_ints {B H : Hp} {v : V} {xs : List Int} (e : Ex B H) (h : (rSeq rInt).is K B v xs) : ∃ p, v = .ref p ∧ (SqL K H p (xs.map V.int) ∨ SqT K H p (xs.map V.int)) := by
  obtain ⟨p, vs, h1, h2, h3⟩ := h
  have ev := ints_of h3
  subst ev
  exact ⟨p, h1, h2.imp (ex_l e) (ex_t e)⟩
theorem ev_inI {xs : List Int} (h : EV K M ta σ B L rInt k L1) (h' : EV K M tb σ B L1 (rSeq rInt) xs L2) : EV K M (tOp (rIn K false) ta tb) σ B L rBool (decide (k ∈ xs)) L2 := fun B1 H e w Q q =>
  h B1 H e w _ fun v B2 H2 e2 w2 hv => h' B2 H2 (e.trans e2) w2 _ fun u B3 H3 e3 w3 hu => by
    have hv : v = .int k := hv
    subst hv
    obtain ⟨p, rfl, hs⟩ := sq_ints w3.b hu
    refine ⟨p, _, rfl, hs, rfl, flat_ints xs, ?_⟩
    rw [inV_ints]
    exact q _ B3 H3 (e2.trans e3) w3 rfl
theorem ev_niI {xs : List Int} (h : EV K M ta σ B L rInt k L1) (h' : EV K M tb σ B L1 (rSeq rInt) xs L2) : EV K M (tOp (rIn K true) ta tb) σ B L rBool (!decide (k ∈ xs)) L2 := fun B1 H e w Q q =>
  h B1 H e w _ fun v B2 H2 e2 w2 hv => h' B2 H2 (e.trans e2) w2 _ fun u B3 H3 e3 w3 hu => by
    have hv : v = .int k := hv
    subst hv
    obtain ⟨p, rfl, hs⟩ := sq_ints w3.b hu
    refine ⟨p, _, rfl, hs, rfl, flat_ints xs, ?_⟩
    rw [inV_ints]
    exact q _ B3 H3 (e2.trans e3) w3 rfl
theorem cell_ints {n : Nat} {p : Addr} {xs : List Int} (w : Own K B M L H) (hc : L[n]? = some ⟨p, cLst rInt, xs⟩) : SqL K H p (xs.map V.int) := by
  obtain ⟨⟨o, h1, vs, h2, h3⟩, _⟩ := w.at hc
  have h1 : H p = some o := h1
  have ev := ints_of h3
  subst ev
  exact sq_of (by rw [h1, h2])
theorem ev_inC {n : Nat} {p : Addr} {xs : List Int} (h : EV K M ta σ B L rInt k L1) (h' : EV K M tb σ B L1 rRef p L2) (hc : L2[n]? = some ⟨p, cLst rInt, xs⟩) : EV K M (tOp (rIn K false) ta tb) σ B L rBool (decide (k ∈ xs)) L2 := fun B1 H e w Q q =>
  h B1 H e w _ fun v B2 H2 e2 w2 hv => h' B2 H2 (e.trans e2) w2 _ fun u B3 H3 e3 w3 hu => by
    have hv : v = .int k := hv
    have hu : u = .ref p := hu
    subst hv hu
    refine ⟨p, _, rfl, .inl (cell_ints w3 hc), rfl, flat_ints xs, ?_⟩
    rw [inV_ints]
    exact q _ B3 H3 (e2.trans e3) w3 rfl
theorem ev_niC {n : Nat} {p : Addr} {xs : List Int} (h : EV K M ta σ B L rInt k L1) (h' : EV K M tb σ B L1 rRef p L2) (hc : L2[n]? = some ⟨p, cLst rInt, xs⟩) : EV K M (tOp (rIn K true) ta tb) σ B L rBool (!decide (k ∈ xs)) L2 := fun B1 H e w Q q =>
  h B1 H e w _ fun v B2 H2 e2 w2 hv => h' B2 H2 (e.trans e2) w2 _ fun u B3 H3 e3 w3 hu => by
    have hv : v = .int k := hv
    have hu : u = .ref p := hu
    subst hv hu
    refine ⟨p, _, rfl, .inl (cell_ints w3 hc), rfl, flat_ints xs, ?_⟩
    rw [inV_ints]
    exact q _ B3 H3 (e2.trans e3) w3 rfl
/-- a list of ours that stays from now on -/
theorem ev_frzC {te : TE} {n : Nat} {p : Addr} {xs : List α} (h : EV K M te σ B L rRef p L') (hc : L'[n]? = some ⟨p, cLst r, xs⟩) : EV K M te σ B L (rLst r) xs (L'.eraseIdx n) := fun B1 H e w Q q =>
  h B1 H e w _ fun v B2 H2 e2 w2 hv => by
    have hv : v = .ref p := hv
    subst hv
    obtain ⟨o, h1, ⟨vs, h2, hp⟩, hB, w3⟩ := w2.freeze hc
    have h1 : H2 p = some o := h1
    have eN := Ex.new (o := o) hB
    refine q _ _ H2 (e2.trans eN) w3 ⟨p, vs, rfl, upd_same.trans (congrArg some h2), paired_mono eN hp⟩
/-- a value that may be None, where it is none -/
theorem ev_get {te : TE} {o : Option α} {a : α} (h : EV K M te σ B L (rOpt r) o L') (e : o = some a) : EV K M te σ B L r a L' := by
  subst e
  exact h
end
/-! ### a global that is a pair of ints -/
def pairAt (K : Fg) (a : Addr) (i j : Int) : Bool := match K.lookup a with
  | some o => decide (o.cls = .type "tuple") && (match o.data with
    | .seq its _ => (match its.toList with
      | [.int x _, .int y _] => decide (x = i) && decide (y = j)
      | _ => false)
    | _ => false)
  | none => false
theorem pairAt_ok {K : Fg} {a : Addr} {i j : Int} (h : pairAt K a i j = true) (B : Hp) : (rT2 rInt rInt).is K B (.ref a) (i, j) := by
  unfold pairAt at h
  split at h
  · rename_i o ho
    rw [Bool.and_eq_true] at h
    obtain ⟨hc, h⟩ := h
    split at h
    · rename_i its n hd
      split at h
      · rename_i x tx y ty hi
        rw [Bool.and_eq_true] at h
        have e1 := of_decide_eq_true h.1
        have e2 := of_decide_eq_true h.2
        subst e1 e2
        refine ⟨a, .int x, .int y, rfl, .inr ⟨o, its, n, ho, of_decide_eq_true hc, hd, ?_, ?_⟩, rfl, rfl⟩
        · rw [← Array.length_toList, hi]; show 2 ≤ sizeLine; decide
        · rw [hi]; exact .cons ⟨_, rfl⟩ (.cons ⟨_, rfl⟩ .nil)
      · cases h
    · cases h
  · cases h
def pairG (K : Fg) (x : Str) (i j : Int) : Bool := match PySem.W.nsIn K mainGlobals x with
  | some (some (.ref a)) => pairAt K a i j
  | _ => false
theorem pairG_ok {K : Fg} {h : Heap} {mg : Str → Option Value} {x : Str} {i j : Int} (X : K.In h) (G : h.Ns mainGlobals mg) (e : pairG K x i j = true) : GV K mg x (rT2 rInt rInt) (i, j) := by
  unfold pairG at e
  split at e
  · rename_i a ha
    exact ⟨.ref a, .ref a, PySem.W.mg_of X G ha, rfl, pairAt_ok e⟩
  · cases e
end L3

namespace L3
open PySem L2
open Evl (Ex ex_rd ex_l ex_t sq_of st_of fresh_back)
/-! ### while -/
def iterM {S R : Type} (f : S → Option (Stp S R)) : Nat → S → Option (S ⊕ R)
  | 0, _ => none
  | n + 1, s => match f s with
    | some (.nx s') => iterM f n s'
    | some (.bk s') => some (.inl s')
    | some (.rt r) => some (.inr r)
    | none => none
open Classical in
noncomputable def whileR {S R : Type} (f : S → Option (Stp S R)) (s : S) : Option (S ⊕ R) :=
  if h : ∃ n o, iterM f n s = some o then some (choose (choose_spec h)) else none
theorem whileR_some {S R : Type} {f : S → Option (Stp S R)} {s : S} {o : S ⊕ R} (h : whileR f s = some o) : ∃ n, iterM f n s = some o := by
  unfold whileR at h
  split at h
  · rename_i h'
    rw [← h]
    exact ⟨_, Classical.choose_spec (Classical.choose_spec h')⟩
  · cases h
theorem iterM_up {S R : Type} {f : S → Option (Stp S R)} : ∀ {n m : Nat} {s : S} {o : S ⊕ R}, iterM f n s = some o → n ≤ m → iterM f m s = some o
  | 0, _, _, _, h, _ => by cases h
  | n + 1, 0, _, _, _, h => by omega
  | n + 1, m + 1, s, o, h, l => by
    unfold iterM at h ⊢
    cases hf : f s with
    | none => rw [hf] at h; cases h
    | some t =>
      rw [hf] at h
      cases t with
      | nx s' => exact iterM_up (n := n) h (by omega)
      | bk s' => exact h
      | rt r => exact h
theorem whileR_of {S R : Type} {f : S → Option (Stp S R)} {s : S} {o : S ⊕ R} {n : Nat} (h : iterM f n s = some o) : whileR f s = some o := by
  unfold whileR
  have e : ∃ n o, iterM f n s = some o := ⟨n, o, h⟩
  rw [dif_pos e]
  obtain ⟨m, hm⟩ : ∃ m, iterM f m s = some (Classical.choose (Classical.choose_spec e)) := ⟨_, Classical.choose_spec (Classical.choose_spec e)⟩
  have h1 := iterM_up h (Nat.le_max_left n m)
  have h2 := iterM_up hm (Nat.le_max_right n m)
  rw [h1] at h2
  exact h2.symm
noncomputable def whileB {S : Type} (f : S → Option (Stp S Empty)) (s : S) : Option S := (whileR f s).map fun o => match o with
  | .inl s => s
  | .inr r => nomatch r
section
variable {K : Fg} {M : Fr} {σ : St} {B B' H H' : Hp} {L L1 L2 L' : List Cell} {α β γ δ : Type} {r : Rep α} {s : Rep β} {t : Rep γ} {ta tb tc te : TE} {tt tu : TT} {tA : TA} {i j k : Int} {b c : Bool} {D : Ends} {tz t1 t2 : TS}
theorem q_wt {Q : Bool → Hp → Prop} (w : Own K B M L H) (h : ET K M tt σ B L b L') (h1 : b = true → ∀ B' H', Ex B B' → Own K B' M L' H' → Q true H') (h2 : b = false → ∀ B' H', Ex B B' → Own K B' M L' H' → Q false H') : tt σ H Q :=
  h B H (Ex.refl _) w _ fun B' H' e w' => by
    cases b with
    | true => exact h1 rfl B' H' e w'
    | false => exact h2 rfl B' H' e w'
theorem q_whileR {S R : Type} {tb : TS} (w : Own K B M L H) (f : S → Option (Stp S R)) (P : S → Hp → St → Prop) (Lf : S → List Cell) (s0 : S) {o : S ⊕ R} (hm : whileR f s0 = some o)
    (h0 : ∀ B', Ex B B' → P s0 B' σ) (hL : Lf s0 = L)
    (hs : ∀ s st B0 B' H' σ', f s = some st → Ex B B0 → P s B0 σ' → Ex B0 B' → Own K B' M (Lf s) H' → (∀ q, st = .rt q → o = .inr q) → ∀ (N : St → Hp → Prop) (BK : St → Hp → Prop),
      (∀ s3 B3 H3 σ3, st = .nx s3 → Ex B' B3 → Own K B3 M (Lf s3) H3 → P s3 B3 σ3 → N σ3 H3) → (∀ s3 B3 H3 σ3, st = .bk s3 → Ex B' B3 → Own K B3 M (Lf s3) H3 → P s3 B3 σ3 → BK σ3 H3) →
      ∀ Q : Bool → Hp → Prop, (∀ H1, tb { D with nx := N, ct := N, bk := BK } σ' H1 → Q true H1) → (∀ H1, BK σ' H1 → Q false H1) → tt σ' H' Q)
    (hd : ∀ s B' H' σ', o = .inl s → Ex B B' → Own K B' M (Lf s) H' → P s B' σ' → tz D σ' H') : tSeq (tWhile tt tb) tz D σ H := by
  obtain ⟨n, hn⟩ := whileR_some hm
  refine ⟨fun m σ' H' => ∃ s B', Ex B B' ∧ Own K B' M (Lf s) H' ∧ P s B' σ' ∧ iterM f m s = some o, ⟨n, s0, B, Ex.refl _, by rw [hL]; exact w, h0 B (Ex.refl _), hn⟩, ?_⟩
  rintro m σ' H' ⟨s, B', e', w', hP, hl⟩
  cases m with
  | zero => cases hl
  | succ m =>
    unfold iterM at hl
    cases hst : f s with
    | none => rw [hst] at hl; cases hl
    | some st =>
      rw [hst] at hl
      refine hs s st B' B' H' σ' hst e' hP (Ex.refl _) w' (fun q e => by rw [e] at hl; exact (Option.some.inj hl).symm) (fun σ3 H3 => ∃ s3 B3, st = .nx s3 ∧ Ex B B3 ∧ Own K B3 M (Lf s3) H3 ∧ P s3 B3 σ3) (tz D)
        (fun s3 B3 H3 σ3 e3 e4 w3 p3 => ⟨s3, B3, e3, e'.trans e4, w3, p3⟩) (fun s3 B3 H3 σ3 e3 e4 w3 p3 => by
          rw [e3] at hl
          exact hd s3 B3 H3 σ3 (Option.some.inj hl).symm (e'.trans e4) w3 p3) _ (fun H1 hb => ?_) (fun H1 hb => ?_)
      · refine (if_pos rfl).mpr ⟨_, ?_, hb⟩
        rintro σ3 H3 ⟨s3, B3, e3, a1, a2, a3⟩
        subst e3
        exact ⟨m, Nat.lt_succ_self m, s3, B3, a1, a2, a3, hl⟩
      · exact (if_neg Bool.false_ne_true).mpr hb
theorem q_whileB {S : Type} {tb : TS} (w : Own K B M L H) (f : S → Option (Stp S Empty)) (P : S → Hp → St → Prop) (Lf : S → List Cell) (s0 : S) {s1 : S} (hm : whileB f s0 = some s1)
    (h0 : ∀ B', Ex B B' → P s0 B' σ) (hL : Lf s0 = L)
    (hs : ∀ s st B0 B' H' σ', f s = some st → Ex B B0 → P s B0 σ' → Ex B0 B' → Own K B' M (Lf s) H' → ∀ (N : St → Hp → Prop) (BK : St → Hp → Prop),
      (∀ s3 B3 H3 σ3, st = .nx s3 → Ex B' B3 → Own K B3 M (Lf s3) H3 → P s3 B3 σ3 → N σ3 H3) → (∀ s3 B3 H3 σ3, st = .bk s3 → Ex B' B3 → Own K B3 M (Lf s3) H3 → P s3 B3 σ3 → BK σ3 H3) →
      ∀ Q : Bool → Hp → Prop, (∀ H1, tb { D with nx := N, ct := N, bk := BK } σ' H1 → Q true H1) → (∀ H1, BK σ' H1 → Q false H1) → tt σ' H' Q)
    (hd : ∀ B' H' σ', Ex B B' → Own K B' M (Lf s1) H' → P s1 B' σ' → tz D σ' H') : tSeq (tWhile tt tb) tz D σ H := by
  unfold whileB at hm
  cases h : whileR f s0 with
  | none => rw [h] at hm; cases hm
  | some o =>
    rw [h] at hm
    refine q_whileR w f P Lf s0 h h0 hL (fun s st B0 B' H' σ' a1 a2 a3 a4 a5 _ => hs s st B0 B' H' σ' a1 a2 a3 a4 a5) fun s B' H' σ' a1 => ?_
    subst a1
    have e : s = s1 := Option.some.inj hm
    subst e
    exact hd B' H' σ'
/-! ### calls that read lists of ours -/
def nTup : HO → Prop
  | .lst _ => True
  | .dK _ => True
  | .tbl _ => True
  | _ => False
structure NT {α : Type} (c : CRep α) : Prop where
  nt : ∀ {K : Fg} {B : Hp} {o : HO} {a : α}, c.is K B o a → nTup o
theorem nt_lst {r : Rep α} : NT (cLst r) := ⟨fun ⟨xs, h, _⟩ => by subst h; trivial⟩
theorem nt_l2 {r : Rep α} {s : Rep β} : NT (cL2 r s) := ⟨fun ⟨x, y, h, _⟩ => by subst h; trivial⟩
theorem nt_dk : NT cDk := ⟨fun h => by
  have h : _ = HO.dK _ := h
  subst h; trivial⟩
def NTs (L : List Cell) : Prop := ∀ x ∈ L, NT x.c
theorem nts_nil : NTs [] := fun _ h => absurd h (by simp)
theorem nts_cons {x : Cell} (h : NT x.c) (h' : NTs L) : NTs (x :: L) := fun y hy => (List.mem_cons.mp hy).elim (fun e => e ▸ h) (h' y)
/-- without some addresses -/
def era (B : Hp) (ps : List Addr) : Hp := fun a => if a ∈ ps then none else B a
/-- with lists of ours -/
def frz (B : Hp) (L : List Cell) (H : Hp) : Hp := fun a => if a ∈ L.map (·.p) then H a else B a
structure TO {α : Type} (r : Rep α) : Prop where
  to : ∀ {K : Fg} {B : Hp} {ps : List Addr} {v : V} {a : α}, (∀ p ∈ ps, ∃ o, B p = some o ∧ nTup o) → r.is K B v a → r.is K (era B ps) v a
theorem era_t {ps : List Addr} {p : Addr} {xs : List V} (h : ∀ p ∈ ps, ∃ o, B p = some o ∧ nTup o) (hs : SqT K B p xs) : SqT K (era B ps) p xs := by
  have out : ∀ o, B p = some o → ¬ nTup o → era B ps p = some o := fun o e n => by
    unfold era
    rw [if_neg fun hp => ?_]
    · exact e
    · obtain ⟨u, e1, e2⟩ := h p hp
      rw [e] at e1
      cases e1
      exact n e2
  rcases hs with (e | ⟨o, e⟩) | e
  · exact .inl (.inl (out _ e id))
  · exact .inl (.inr ⟨o, out _ e id⟩)
  · exact .inr e
theorem to_int : TO rInt := ⟨fun _ h => h⟩
theorem to_bool : TO rBool := ⟨fun _ h => h⟩
theorem to_str : TO rStr := ⟨fun _ h => h⟩
theorem to_non : TO rNon := ⟨fun _ h => h⟩
theorem to_opt {r : Rep α} (h : TO r) : TO (rOpt r) := ⟨fun {K B ps v a} q e => by
  cases a with
  | none => exact e
  | some a => exact h.to q e⟩
theorem to_T2 {r : Rep α} {s : Rep β} (h : TO r) (g : TO s) : TO (rT2 r s) := ⟨fun q ⟨p, x, y, e1, e2, e3, e4⟩ => ⟨p, x, y, e1, era_t q e2, h.to q e3, g.to q e4⟩⟩
theorem to_T3 {r : Rep α} {s : Rep β} {t : Rep γ} (h : TO r) (g : TO s) (f : TO t) : TO (rT3 r s t) := ⟨fun q ⟨p, x, y, z, e1, e2, e3, e4, e5⟩ => ⟨p, x, y, z, e1, era_t q e2, h.to q e3, g.to q e4, f.to q e5⟩⟩
theorem paired_to {F G : V → α → Prop} (h : ∀ v a, F v a → G v a) {xs : List V} {as : List α} (e : Paired F xs as) : Paired G xs as := paired_imp h e
theorem to_tup {r : Rep α} (h : TO r) : TO (rTup r) := ⟨fun q ⟨p, xs, e1, e2, e3⟩ => ⟨p, xs, e1, era_t q e2, paired_to (fun _ _ => h.to q) e3⟩⟩
def AF (K : Fg) (M : Fr) (L : List Cell) (as as' : List Arg) : Prop := ∀ B H vs, Own K B M L H → ArgsIs K B vs as → ArgsIs K (frz B L H) vs as'
theorem ex_frz (w : Own K B M L H) : Ex B (frz B L H) := fun a u e => by
  unfold frz
  split
  · exact w.b a u e
  · exact e
theorem af_nil : AF K M L [] [] := fun B H vs w h => by
  match vs, h with
  | [], _ => trivial
theorem af_same {a : Arg} {as as' : List Arg} (h : AF K M L as as') : AF K M L (a :: as) (a :: as') := fun B H vs w g => by
  match vs, g with
  | _ :: _, ⟨g1, g2⟩ => exact ⟨a.r.mono (ex_frz w) g1, h B H _ w g2⟩
theorem af_cell {n : Nat} {p : Addr} {r : Rep α} {xs : List α} {as as' : List Arg} (hc : L[n]? = some ⟨p, cLst r, xs⟩) (h : AF K M L as as') : AF K M L (⟨rRef, p⟩ :: as) (⟨rLst r, xs⟩ :: as') := fun B H vs w g => by
  match vs, g with
  | v :: _, ⟨g1, g2⟩ =>
    obtain ⟨⟨o, h1, ys, h2, h3⟩, _⟩ := w.at hc
    have h1 : H p = some o := h1
    have g1 : v = .ref p := g1
    refine ⟨⟨p, ys, g1, ?_, paired_mono (ex_frz w) h3⟩, h B H _ w g2⟩
    unfold frz
    rw [if_pos (List.mem_map.mpr ⟨_, List.mem_of_getElem? hc, rfl⟩), h1, h2]
theorem Own.frzAll (w : Own K B M L H) : Own K (frz B L H) M [] H := by
  refine ⟨fun a u e => ?_, w.m, fun a => ?_, fun _ h => absurd h (by simp), by simp, fun P hP => ?_⟩
  · unfold frz at e
    split at e
    · exact e
    · exact w.b a u e
  · unfold frz
    split
    · rename_i h
      obtain ⟨x, hx, rfl⟩ := List.mem_map.mp h
      exact .inr (w.l x hx).2.2
    · exact w.bm a
  · obtain ⟨t1, t2, t3, t4⟩ := w.t P hP
    exact ⟨t1, by unfold frz; rw [if_neg t4]; exact t2, t3, by simp⟩
theorem Own.unfrz {B3 H3 : Hp} (w : Own K B M L H) (e : Ex (frz B L H) B3) (w3 : Own K B3 M [] H3) : Ex B (era B3 (L.map (·.p))) ∧ Own K (era B3 (L.map (·.p))) M L H3 := by
  have hex : Ex B (era B3 (L.map (·.p))) := fun a u h => by
    have hn : a ∉ L.map (·.p) := fun hm => by
      obtain ⟨x, hx, rfl⟩ := List.mem_map.mp hm
      rw [(w.l x hx).2.1] at h
      cases h
    unfold era
    rw [if_neg hn]
    exact e a u (ex_frz w a u h)
  refine ⟨hex, fun a u h => ?_, w3.m, fun a => ?_, fun x hx => ?_, w.nd, fun P hP => ?_⟩
  · unfold era at h
    split at h
    · cases h
    · exact w3.b a u h
  · unfold era
    split
    · exact .inl rfl
    · exact w3.bm a
  · obtain ⟨⟨o, h1, h2⟩, h3, h4⟩ := w.l x hx
    have hm : x.p ∈ L.map (·.p) := List.mem_map.mpr ⟨x, hx, rfl⟩
    refine ⟨⟨o, w3.b _ _ (e _ _ ?_), x.c.mono hex h2⟩, by unfold era; rw [if_pos hm], h4⟩
    unfold frz
    rw [if_pos hm, h1]
  · obtain ⟨t1, t2, t3, _⟩ := w3.t P hP
    obtain ⟨_, _, _, t4⟩ := w.t P hP
    exact ⟨t1, by unfold era; rw [if_neg t4]; exact t2, t3, t4⟩
theorem ev_callF {C : List Arg → List Cell → Arg → List Cell → Prop} {E : XK} {as as' : List Arg} {a : α} (ha : EA K M tA σ B L as L1) (hf : AF K M L1 as as') (hn : NTs L1) (hr : TO r) (h : C as' [] ⟨r, a⟩ []) : EV K M (tCall (spV K M.T C) [] E tA) σ B L r a L1 := fun B1 H e w Q q =>
  ha B1 H e w _ fun vs B2 H2 e2 w2 hv => by
    show spV K M.T C (vs ++ []) H2 Q E
    rw [List.append_nil]
    refine ⟨frz B2 L1 H2, M, [], as', ⟨r, a⟩, [], rfl, w2.frzAll, hf B2 H2 vs w2 hv, h, fun v B' H' e3 w3 hr3 => ?_⟩
    obtain ⟨e4, w4⟩ := w2.unfrz e3 w3
    refine q v _ H' (e2.trans e4) w4 (hr.to (fun p hp => ?_) hr3)
    obtain ⟨x, hx, rfl⟩ := List.mem_map.mp hp
    obtain ⟨⟨o, h1, h2⟩, _⟩ := w2.l x hx
    refine ⟨o, e3 _ _ ?_, (hn x hx).nt h2⟩
    unfold frz
    rw [if_pos hp, h1]
/-- a list of ours stays from now on -/
theorem frz_step {n : Nat} {p : Addr} {xs : List α} (w : Own K B M L H) (hc : L[n]? = some ⟨p, cLst r, xs⟩) : ∃ B', Ex B B' ∧ Own K B' M (L.eraseIdx n) H ∧ (rLst r).is K B' (.ref p) xs := by
  obtain ⟨o, h1, ⟨vs, h2, h3⟩, h4, w'⟩ := w.freeze hc
  have h4 : B p = none := h4
  refine ⟨_, Ex.new h4, w', p, vs, rfl, ?_, paired_mono (Ex.new h4) h3⟩
  show upd B p o p = _
  rw [upd_same, h2]
end
/-! ### defs that return a new list -/
def spN (K : Fg) (T : List Addr) {α : Type} (r : Rep α) (C : List Arg → List Cell → List α → List Cell → Prop) : Sp := fun vs H Q _ => ∃ B M L as xs L', M.T = T ∧ Own K B M L H ∧ ArgsIs K B vs as ∧ C as L xs L' ∧
  ∀ p B' H', Ex B B' → Own K B' M (⟨p, cLst r, xs⟩ :: L') H' → Q (.ref p) H'
section
variable {K : Fg} {M : Fr} {σ : St} {B B' H H' : Hp} {L L1 L2 L' : List Cell} {α β γ δ : Type} {r : Rep α} {s : Rep β} {t : Rep γ} {ta tb tc te : TE} {tt tu : TT} {tA : TA} {i j k : Int} {b c : Bool} {D : Ends} {tz t1 t2 : TS}
theorem Own.pick {n d : Nat} {x : Cell} (w : Own K B M L H) (hc : L[n]? = some x) (h : n < d) : Own K B M (x :: L.drop d) H := by
  have hx : x ∈ L.take d := by
    refine List.mem_of_getElem? (i := n) ?_
    rw [List.getElem?_take, if_pos h]; exact hc
  have sub : (x :: L.drop d).Sublist L := by
    have := (List.singleton_sublist.mpr hx).append (List.Sublist.refl (L.drop d))
    rwa [List.take_append_drop] at this
  exact w.perm (fun y hy => sub.subset hy) (w.nd.sublist (sub.map _))
theorem back_new {L2 : List Cell} {B1 B3 H1 H3 : Hp} {x : Cell} (w : Own K B1 M L2 H1) (e : Ex B1 B3) (w3 : Own K B3 (absorb M L2 H1) [x] H3) : Own K B3 M (x :: L2) H3 := by
  have hx := w3.l x (List.mem_singleton.mpr rfl)
  refine w.back (L := L2) (L1' := [x]) (L2 := L2) (fun _ h => h) w.nd e w3 fun y hy => ?_
  rw [List.mem_singleton.mp hy]
  intro hm
  obtain ⟨z, hz, ez⟩ := List.mem_map.mp hm
  have h1 := hx.2.2
  obtain ⟨⟨o, g1, _⟩, _⟩ := w.l z hz
  have e2 : absorb M L2 H1 z.p = H1 z.p := absorb_in hz
  rw [ez] at e2
  rw [e2] at h1
  rw [← ez, g1] at h1
  cases h1
theorem el_call {C : List Arg → List Cell → List α → List Cell → Prop} {E : XK} {as : List Arg} {xs : List α} (ha : EA K M tA σ B L as L1) (h : C as [] xs []) : EVL K M (tCall (spN K M.T r C) [] E tA) σ B L r xs L1 := fun B1 H e w Q q =>
  ha B1 H e w _ fun vs B2 H2 e2 w2 hv => by
    show spN K M.T r C (vs ++ []) H2 Q E
    rw [List.append_nil]
    refine ⟨B2, absorb M L1 H2, [], as, xs, [], rfl, w2.lend (L1 := []) (L2 := L1) (fun _ h => absurd h (by simp)) (fun _ h => h) (by simp) (fun _ h => absurd h (by simp)), hv, h, fun p B' H' e3 w3 => ?_⟩
    exact q p B' H' (e2.trans e3) (back_new w2 e3 w3)
theorem el_callF {C : List Arg → List Cell → List α → List Cell → Prop} {E : XK} {as as' : List Arg} {xs : List α} (ha : EA K M tA σ B L as L1) (hf : AF K M L1 as as') (hn : NTs L1) (hr : TO r) (h : C as' [] xs []) : EVL K M (tCall (spN K M.T r C) [] E tA) σ B L r xs L1 := fun B1 H e w Q q =>
  ha B1 H e w _ fun vs B2 H2 e2 w2 hv => by
    show spN K M.T r C (vs ++ []) H2 Q E
    rw [List.append_nil]
    refine ⟨frz B2 L1 H2, M, [], as', xs, [], rfl, w2.frzAll, hf B2 H2 vs w2 hv, h, fun p B' H' e3 w3 => ?_⟩
    have hx := w3.l _ (List.mem_singleton.mpr rfl)
    obtain ⟨e4, w4⟩ := w2.unfrz e3 w3.tail
    have nt : ∀ q ∈ L1.map (·.p), ∃ o, B' q = some o ∧ nTup o := fun q hq => by
      obtain ⟨x, hx, rfl⟩ := List.mem_map.mp hq
      obtain ⟨⟨o, h1, h2⟩, _⟩ := w2.l x hx
      refine ⟨o, e3 _ _ ?_, (hn x hx).nt h2⟩
      unfold frz
      rw [if_pos hq, h1]
    obtain ⟨⟨o, g1, ys, g2, g3⟩, gB, gM⟩ := hx
    have pn : p ∉ L1.map (·.p) := fun hp => by
      obtain ⟨o, e5, _⟩ := nt p hp
      have gB : B' p = none := gB
      rw [e5] at gB
      cases gB
    refine q p _ H' (e2.trans e4) ⟨w4.b, w4.m, w4.bm, fun x hx => ?_, ?_, fun P hP => ?_⟩
    · rcases List.mem_cons.mp hx with rfl | hx
      · refine ⟨⟨o, g1, ys, g2, paired_imp (fun v a => hr.to nt) g3⟩, ?_, gM⟩
        show era B' _ p = none
        unfold era
        rw [if_neg pn]
        exact gB
      · exact w4.l x hx
    · rw [List.map_cons, List.nodup_cons]
      exact ⟨pn, w4.nd⟩
    · obtain ⟨t1, t2, t3, t4⟩ := w4.t P hP
      obtain ⟨_, _, _, t5⟩ := w3.t P hP
      refine ⟨t1, t2, t3, fun z => ?_⟩
      rcases List.mem_cons.mp z with e | z
      · exact t5 (by rw [e]; simp)
      · exact t4 z
theorem q_retCN {n m : Nat} {p : Addr} {as : List α} (w : Own K B M L H) (hs : σ[m]? = some (some (.ref p))) (hc : L[n]? = some ⟨p, cLst r, as⟩) (q : D.rt (.ref p) H) : tSeq (tRet (tVar m)) tz D σ H := ⟨_, hs, q⟩
theorem q_retL {as : List α} (w : Own K B M L H) (h : EVL K M te σ B L r as L') (q : ∀ p B' H', Ex B B' → Own K B' M (⟨p, cLst r, as⟩ :: L') H' → D.rt (.ref p) H') : tSeq (tRet te) tz D σ H := h B H (Ex.refl _) w _ q
end
/-! ### lists: + -/
section
variable {K : Fg} {M : Fr} {σ : St} {B B' H H' : Hp} {L L1 L2 L' : List Cell} {α β γ δ : Type} {r : Rep α} {s : Rep β} {t : Rep γ} {ta tb tc te : TE} {tt tu : TT} {tA : TA} {i j k : Int} {b c : Bool} {D : Ends} {tz t1 t2 : TS}
theorem el_cat {xs ys zs : List α} (h : EV K M ta σ B L (rLst r) xs L1) (h' : EV K M tb σ B L1 (rLst r) ys L2) (hc : catT xs ys = some zs) : EVL K M (tOp rCat ta tb) σ B L r zs L2 := fun B1 H e w Q q =>
  h B1 H e w _ fun v B2 H2 e2 w2 hv => h' B2 H2 (e.trans e2) w2 _ fun u B3 H3 e3 w3 hu => by
    obtain ⟨p, vs, rfl, hs, hp⟩ := hv
    obtain ⟨p', us, rfl, hs', hp'⟩ := hu
    unfold catT at hc
    split at hc
    · rename_i hl
      obtain rfl := Option.some.inj hc
      have hp3 := paired_mono e3 hp
      have l1 := paired_len hp
      have l2 := paired_len hp'
      exact ⟨p, p', vs, us, rfl, rfl, w3.b _ _ (e3 _ _ hs), w3.b _ _ hs', Nat.le_trans (by omega) (show 1000000 ≤ sizeLine by decide), fun l hl => q l B3 _ (e2.trans e3) (w3.new hl ⟨_, rfl, paired_app hp3 hp'⟩)⟩
    · cases hc
end
/-! ### while: it ends -/
section
variable {S R : Type}
theorem y_while (f : S → Option (Stp S R)) (I : S → Prop) (μ : S → Nat) (E : S ⊕ R → Prop) {s : S} (h0 : I s)
    (hs : ∀ s, I s → Yes (f s) fun t => match t with | .nx s' => I s' ∧ μ s' < μ s | .bk s' => E (.inl s') | .rt r => E (.inr r)) : Yes (whileR f s) E := by
  have key : ∀ (n : Nat) (s : S), μ s < n → I s → ∃ o, iterM f n s = some o ∧ E o := by
    intro n
    induction n with
    | zero => intro s h; omega
    | succ n ih =>
      intro s h hI
      obtain ⟨t, h1, h2⟩ := hs s hI
      unfold iterM
      rw [h1]
      cases t with
      | nx s' => exact ih s' (by have := h2.2; omega) h2.1
      | bk s' => exact ⟨_, rfl, h2⟩
      | rt r => exact ⟨_, rfl, h2⟩
  obtain ⟨o, h1, h2⟩ := key _ s (Nat.lt_succ_self _) h0
  exact ⟨o, whileR_of h1, h2⟩
theorem y_whileB (f : S → Option (Stp S Empty)) (I : S → Prop) (μ : S → Nat) (E : S → Prop) {s : S} (h0 : I s)
    (hs : ∀ s, I s → Yes (f s) fun t => match t with | .nx s' => I s' ∧ μ s' < μ s | .bk s' => E s' | .rt r => False) : Yes (whileB f s) E := by
  obtain ⟨o, h1, h2⟩ := y_while f I μ (fun o => match o with | .inl s => E s | .inr r => False) h0 fun s hI => (hs s hI).mono fun t ht => by cases t <;> exact ht
  unfold whileB
  rw [h1]
  cases o with
  | inl s => exact ⟨s, rfl, h2⟩
  | inr r => exact h2.elim
end
end L3

namespace L3
open PySem L2
open Evl (Ex ex_rd ex_l ex_t sq_of st_of fresh_back)
/-! ### sorted ints -/
def sortL (xs : List Int) : List Int := xs.mergeSort fun a b => decide (a ≤ b)
theorem sortL_perm (xs : List Int) : (sortL xs).Perm xs := List.mergeSort_perm xs _
theorem sortL_le (xs : List Int) : (sortL xs).Pairwise (· ≤ ·) := by
  refine (List.pairwise_mergeSort (le := fun a b : Int => decide (a ≤ b)) (fun a b c h1 h2 => ?_) (fun a b => ?_) xs).imp fun {a b} h => of_decide_eq_true h
  · simp at *; omega
  · simp; omega
theorem sortL_eq {ys xs : List Int} (hp : ys.Perm xs) (hs : ys.Pairwise (· ≤ ·)) : ys = sortL xs :=
  List.Perm.eq_of_pairwise (le := fun a b : Int => a ≤ b) (fun a b _ _ h1 h2 => Int.le_antisymm h1 h2) hs (sortL_le xs) (hp.trans (sortL_perm xs).symm)
theorem paired_intsY {K : Fg} {B : Hp} : ∀ ns : List Int, Paired (rInt.is K B) (ns.map V.int) ns
  | [] => .nil
  | _ :: l => .cons rfl (paired_intsY l)
section
variable {K : Fg} {M : Fr} {σ : St} {B B' H H' : Hp} {L L1 L2 L' : List Cell} {α β γ δ : Type} {r : Rep α} {s : Rep β} {t : Rep γ} {ta tb tc te : TE} {tt tu : TT} {tA : TA} {i j k : Int} {b c : Bool} {D : Ends} {tz t1 t2 : TS}
theorem el_sorted {xs : List Int} (h : EV K M te σ B L (rScr rInt) xs L') : EVL K M (tCB (rSortedI K) (tCons te tNil)) σ B L rInt (sortL xs) L' := fun B1 H e w Q q =>
  h B1 H e w _ fun v B2 H2 e2 w2 hv => by
    obtain ⟨p, vs, rfl, hs, hp⟩ := hv
    have ev := ints_of hp
    subst ev
    refine ⟨p, xs, rfl, ex_l w2.b hs, fun ns l hp2 hs2 hl => ?_⟩
    rw [sortL_eq hp2 hs2]
    exact q l B2 _ e2 (w2.new hl ⟨_, rfl, paired_intsY _⟩)
/-! ### a, b, .. = a list -/
def un2 : List α → Option (α × α)
  | [a, b] => some (a, b)
  | _ => none
def un3 : List α → Option (α × α × α)
  | [a, b, c] => some (a, b, c)
  | _ => none
def un4 : List α → Option (α × α × α × α)
  | [a, b, c, d] => some (a, b, c, d)
  | _ => none
variable {Qs : St → Hp → Prop}
theorem g_U2 {as : List α} {a : α × α} {v : V} {gs : TGs} (h : (rLst r).is K B v as) (w : Own K B M L H) (e : un2 as = some a) (q : ∀ x y, r.is K B x a.1 → r.is K B y a.2 → gs [x, y] σ H Qs) : gUnl K 2 gs v σ H Qs := by
  obtain ⟨p, vs, rfl, hs, hp⟩ := h
  match as, e, vs, hp, hs with
  | [a, b], e, [x, y], .cons h1 (.cons h2 .nil), hs =>
    cases e
    exact ⟨p, _, rfl, sq_of (w.b _ _ hs), rfl, q x y h1 h2⟩
theorem g_U3 {as : List α} {a : α × α × α} {v : V} {gs : TGs} (h : (rLst r).is K B v as) (w : Own K B M L H) (e : un3 as = some a) (q : ∀ x y z, r.is K B x a.1 → r.is K B y a.2.1 → r.is K B z a.2.2 → gs [x, y, z] σ H Qs) : gUnl K 3 gs v σ H Qs := by
  obtain ⟨p, vs, rfl, hs, hp⟩ := h
  match as, e, vs, hp, hs with
  | [a, b, c], e, [x, y, z], .cons h1 (.cons h2 (.cons h3 .nil)), hs =>
    cases e
    exact ⟨p, _, rfl, sq_of (w.b _ _ hs), rfl, q x y z h1 h2 h3⟩
theorem g_U4 {as : List α} {a : α × α × α × α} {v : V} {gs : TGs} (h : (rLst r).is K B v as) (w : Own K B M L H) (e : un4 as = some a) (q : ∀ x y z u, r.is K B x a.1 → r.is K B y a.2.1 → r.is K B z a.2.2.1 → r.is K B u a.2.2.2 → gs [x, y, z, u] σ H Qs) : gUnl K 4 gs v σ H Qs := by
  obtain ⟨p, vs, rfl, hs, hp⟩ := h
  match as, e, vs, hp, hs with
  | [a, b, c, d], e, [x, y, z, u], .cons h1 (.cons h2 (.cons h3 (.cons h4 .nil))), hs =>
    cases e
    exact ⟨p, _, rfl, sq_of (w.b _ _ hs), rfl, q x y z u h1 h2 h3 h4⟩
end
end L3

namespace L3G
open PySem L2
variable {X : Cx}
/-! ### is True, is False -/
def rIsB : R2 := fun x y H Q => ∃ a b, x = .bl a ∧ y = .bl b ∧ Q (.bl (decide (a = b))) H
def rNotB : R2 := fun x y H Q => ∃ a b, x = .bl a ∧ y = .bl b ∧ Q (.bl (!decide (a = b))) H
theorem op_isB : OpR X (compareOp .Is) rIsB := by
  intro pins s σ H x y v u Q I rx ry h
  obtain ⟨a, b, rfl, rfl, q⟩ := h
  cases (show v = Value.bool a from rx)
  cases (show u = Value.bool b from ry)
  exact wpAny_is_plain rfl (fin_bl I q (by cases a <;> cases b <;> rfl))
theorem op_isnB : OpR X (compareOp .IsNot) rNotB := by
  intro pins s σ H x y v u Q I rx ry h
  obtain ⟨a, b, rfl, rfl, q⟩ := h
  cases (show v = Value.bool a from rx)
  cases (show u = Value.bool b from ry)
  exact wpAny_isNot_plain rfl (fin_bl I q (by cases a <;> cases b <;> rfl))
end L3G
namespace L3
open PySem L2
open Evl (Ex ex_rd ex_l ex_t sq_of st_of fresh_back)
/-! ### any new thing that may change -/
def ENC (K : Fg) (M : Fr) {α : Type} (te : TE) (σ : St) (B : Hp) (L : List Cell) (c : CRep α) (a : α) (L' : List Cell) : Prop :=
  ∀ B1 H, Ex B B1 → Own K B1 M L H → ∀ Q : VK, (∀ p B2 H2, Ex B1 B2 → Own K B2 M (⟨p, c, a⟩ :: L') H2 → Q (.ref p) H2) → te σ H Q
def spC (K : Fg) (T : List Addr) {α : Type} (c : CRep α) (C : List Arg → List Cell → α → List Cell → Prop) : Sp := fun vs H Q _ => ∃ B M L as x L', M.T = T ∧ Own K B M L H ∧ ArgsIs K B vs as ∧ C as L x L' ∧
  ∀ p B' H', Ex B B' → Own K B' M (⟨p, c, x⟩ :: L') H' → Q (.ref p) H'
/-- a dict of a list and an int -/
def cBox : CRep (List Int × Int) := ⟨fun K B o a => ∃ q, o = .dK [(Sum.inr "row", .ref q), (Sum.inr "at", .int a.2)] ∧ (rLst rInt).is K B (.ref q) a.1, fun e ⟨q, h1, h2⟩ => ⟨q, h1, (rLst rInt).mono e h2⟩⟩
section
variable {K : Fg} {M : Fr} {σ : St} {B B' H H' : Hp} {L L1 L2 L' : List Cell} {α β γ δ : Type} {r : Rep α} {s : Rep β} {t : Rep γ} {ta tb tc te : TE} {tt tu : TT} {tA : TA} {i j k : Int} {b c : Bool} {D : Ends} {tz t1 t2 : TS}
theorem nt_box : NT cBox := ⟨fun ⟨q, h, _⟩ => by subst h; trivial⟩
theorem ec_call {cr : CRep α} {C : List Arg → List Cell → α → List Cell → Prop} {E : XK} {as : List Arg} {x : α} (ha : EA K M tA σ B L as L1) (h : C as [] x []) : ENC K M (tCall (spC K M.T cr C) [] E tA) σ B L cr x L1 := fun B1 H e w Q q =>
  ha B1 H e w _ fun vs B2 H2 e2 w2 hv => by
    show spC K M.T cr C (vs ++ []) H2 Q E
    rw [List.append_nil]
    refine ⟨B2, absorb M L1 H2, [], as, x, [], rfl, w2.lend (L1 := []) (L2 := L1) (fun _ h => absurd h (by simp)) (fun _ h => h) (by simp) (fun _ h => absurd h (by simp)), hv, h, fun p B' H' e3 w3 => ?_⟩
    exact q p B' H' (e2.trans e3) (back_new w2 e3 w3)
theorem q_asgC {n : Nat} {cr : CRep α} {a : α} (w : Own K B M L H) (h : ENC K M te σ B L cr a L') (q : ∀ p B' H', Ex B B' → Own K B' M (⟨p, cr, a⟩ :: L') H' → tz D (σ.set n (some (.ref p))) H') : tSeq (tAsg te (gName n)) tz D σ H := h B H (Ex.refl _) w _ q
theorem q_retNC {cr : CRep α} {a : α} (w : Own K B M L H) (h : ENC K M te σ B L cr a L') (q : ∀ p B' H', Ex B B' → Own K B' M (⟨p, cr, a⟩ :: L') H' → D.rt (.ref p) H') : tSeq (tRet te) tz D σ H := h B H (Ex.refl _) w _ q
theorem ec_box {tx ty : TE} {xs : List Int} (hx : ∀ p, EV K M tx σ B (⟨p, cDk, []⟩ :: L) (rLst rInt) xs (⟨p, cDk, []⟩ :: L1)) (hy : ∀ p, EV K M ty σ B (⟨p, cDk, []⟩ :: L1) rInt i (⟨p, cDk, []⟩ :: L')) : ENC K M (tDisp [(tC (.str "row"), tx), (tC (.str "at"), ty)]) σ B L cBox (xs, i) L' := fun B1 H e w Q q p hp => by
  have w1 : Own K B1 M (⟨p, cDk, []⟩ :: L) (upd H p (.dK [])) := w.new hp rfl
  refine hx p B1 _ e w1 _ fun u B2 H2 e2 w2 hu => hy p B2 H2 (e.trans e2) w2 _ fun v B3 H3 e3 w3 hv => ?_
  have hv : v = .int i := hv
  obtain ⟨l, vs, rfl, hl⟩ := (rLst rInt).mono e3 hu
  obtain ⟨⟨o, h1, h2⟩, _⟩ := w3.at (i := 0) rfl
  have h1 : H3 p = some o := h1
  have h2 : o = .dK [] := h2
  refine ⟨by rw [h1, h2], [(Sum.inr "row", .ref l), (Sum.inr "at", v)], rfl, by show 2 ≤ 15; decide, ?_⟩
  refine q p B3 _ (e2.trans e3) ?_
  have := w3.set (i := 0) (o := .dK (mergeK [] [(Sum.inr "row", V.ref l), (Sum.inr "at", v)])) rfl (c' := cBox) (a' := (xs, i)) ⟨l, by rw [hv]; rfl, l, vs, rfl, hl⟩
  exact this
theorem ev_boxAt {n m : Nat} {p : Addr} {x : List Int × Int} (hs : σ[m]? = some (some (.ref p))) (hc : L[n]? = some ⟨p, cBox, x⟩) : EV K M (tDGet (tVar m) (tC (.str "at"))) σ B L rInt x.2 L := fun B1 H e w Q q => by
  obtain ⟨⟨o, h1, l, h2, h3⟩, _⟩ := w.at hc
  have h1 : H p = some o := h1
  subst h2
  exact ⟨_, hs, p, .int x.2, rfl, DGet.k (k := Sum.inr "at") h1, q _ B1 H (Ex.refl _) w rfl⟩
theorem ev_boxRow {n m : Nat} {p : Addr} {x : List Int × Int} (hs : σ[m]? = some (some (.ref p))) (hc : L[n]? = some ⟨p, cBox, x⟩) : EV K M (tDGet (tVar m) (tC (.str "row"))) σ B L (rLst rInt) x.1 L := fun B1 H e w Q q => by
  obtain ⟨⟨o, h1, l, h2, h3⟩, _⟩ := w.at hc
  have h1 : H p = some o := h1
  subst h2
  exact ⟨_, hs, p, .ref l, rfl, DGet.k (k := Sum.inr "row") h1, q _ B1 H (Ex.refl _) w h3⟩
theorem q_boxAt {n m : Nat} {p : Addr} {x : List Int × Int} (w : Own K B M L H) (h : EV K M te σ B L rInt i L1) (hs : σ[m]? = some (some (.ref p))) (hc : L1[n]? = some ⟨p, cBox, x⟩)
    (q : ∀ B' H', Ex B B' → Own K B' M (L1.set n ⟨p, cBox, (x.1, i)⟩) H' → tz D σ H') : tSeq (tAsg te (gSub (tVar m) (tC (.str "at")) rSetD)) tz D σ H :=
  h B H (Ex.refl _) w _ fun v B1 H1 e1 w1 hv => ⟨_, hs, by
    obtain ⟨⟨o, h1, l, h2, h3⟩, _⟩ := w1.at hc
    have h1 : H1 p = some o := h1
    have hv : v = .int i := hv
    subst h2 hv
    refine ⟨p, _, rfl, DPut.k (k := Sum.inr "at") h1 (by show 2 < sizeLine; decide), q B1 _ e1 ?_⟩
    exact w1.set (c' := cBox) (a' := (x.1, i)) hc ⟨l, rfl, h3⟩⟩
/-! ### is True; texts in a tuple -/
theorem ev_isB {x y : Bool} (ha : EV K M ta σ B L rBool x L1) (hb : EV K M tb σ B L1 rBool y L2) : EV K M (tOp L3G.rIsB ta tb) σ B L rBool (decide (x = y)) L2 :=
  ev_op ha hb fun _ _ _ _ _ _ hx hy q => ⟨x, y, hx, hy, q _ rfl⟩
theorem ev_isnB {x y : Bool} (ha : EV K M ta σ B L rBool x L1) (hb : EV K M tb σ B L1 rBool y L2) : EV K M (tOp L3G.rNotB ta tb) σ B L rBool (!decide (x = y)) L2 :=
  ev_op ha hb fun _ _ _ _ _ _ hx hy q => ⟨x, y, hx, hy, q _ rfl⟩
theorem strs_of : ∀ {vs : List V} {xs : List Str}, Paired (rStr.is K B) vs xs → vs = xs.map V.str
  | _, _, .nil => rfl
  | _, _, .cons h t => by
    have h : _ = V.str _ := h
    rw [h, strs_of t]; rfl
theorem flat_strs : ∀ xs : List Str, (xs.map V.str).all flatV = true
  | [] => rfl
  | x :: xs => by rw [List.map_cons, List.all_cons, flat_strs xs]; rfl
theorem inV_strs (k : Str) : ∀ xs : List Str, inV (.str k) (xs.map V.str) = decide (k ∈ xs)
  | [] => rfl
  | x :: xs => by
    have ih := inV_strs k xs
    unfold inV at ih ⊢
    rw [List.map_cons, List.any_cons, ih]
    have e : eqV (.str x) (.str k) = decide (x = k) := by
      show (x == k) = _
      rw [Bool.eq_iff_iff, beq_iff_eq, decide_eq_true_iff]
    rw [e]
    clear ih e
    by_cases h : x = k
    · subst h
      rw [decide_eq_true rfl, Bool.true_or, decide_eq_true (List.mem_cons_self)]
    · rw [decide_eq_false h, Bool.false_or]
      by_cases h2 : k ∈ xs
      · rw [decide_eq_true h2, decide_eq_true (List.mem_cons_of_mem _ h2)]
      · rw [decide_eq_false h2, decide_eq_false fun z => (List.mem_cons.mp z).elim (fun q => h q.symm) h2]
theorem sq_strs {v : V} {xs : List Str} (e : Ex B H) (h : (rSeq rStr).is K B v xs) : ∃ p, v = .ref p ∧ (SqL K H p (xs.map V.str) ∨ SqT K H p (xs.map V.str)) := by
  obtain ⟨p, vs, h1, h2, h3⟩ := h
  have ev := strs_of h3
  subst ev
  exact ⟨p, h1, h2.imp (ex_l e) (ex_t e)⟩
theorem ev_inS {z : Str} {xs : List Str} (h : EV K M ta σ B L rStr z L1) (h' : EV K M tb σ B L1 (rSeq rStr) xs L2) : EV K M (tOp (rIn K false) ta tb) σ B L rBool (decide (z ∈ xs)) L2 := fun B1 H e w Q q =>
  h B1 H e w _ fun v B2 H2 e2 w2 hv => h' B2 H2 (e.trans e2) w2 _ fun u B3 H3 e3 w3 hu => by
    have hv : v = .str z := hv
    subst hv
    obtain ⟨p, rfl, hs⟩ := sq_strs w3.b hu
    refine ⟨p, _, rfl, hs, rfl, flat_strs xs, ?_⟩
    rw [inV_strs]
    exact q _ B3 H3 (e2.trans e3) w3 rfl
theorem ev_niS {z : Str} {xs : List Str} (h : EV K M ta σ B L rStr z L1) (h' : EV K M tb σ B L1 (rSeq rStr) xs L2) : EV K M (tOp (rIn K true) ta tb) σ B L rBool (!decide (z ∈ xs)) L2 := fun B1 H e w Q q =>
  h B1 H e w _ fun v B2 H2 e2 w2 hv => h' B2 H2 (e.trans e2) w2 _ fun u B3 H3 e3 w3 hu => by
    have hv : v = .str z := hv
    subst hv
    obtain ⟨p, rfl, hs⟩ := sq_strs w3.b hu
    refine ⟨p, _, rfl, hs, rfl, flat_strs xs, ?_⟩
    rw [inV_strs]
    exact q _ B3 H3 (e2.trans e3) w3 rfl
/-! ### data that is known to be of a kind -/
def asS : PyData → Option Str
  | .str x => some x
  | _ => none
def asI : PyData → Option Int
  | .int i => some i
  | _ => none
def asB : PyData → Option Bool
  | .bool b => some b
  | _ => none
def asT : PyData → Option (List PyData)
  | .tuple ds => some ds
  | _ => none
def asIs : List PyData → Option (List Int)
  | [] => some []
  | .int i :: ds => (asIs ds).map (i :: ·)
  | _ :: _ => none
def asQ : PyData → Option (Int × Int)
  | .tuple [.int i, .int j] => some (i, j)
  | _ => none
variable {d : PyData}
theorem ev_asS {z : Str} (h : EV K M te σ B L rDat d L') (e : asS d = some z) : EV K M te σ B L rStr z L' := ev_as h fun _ _ h => by
  have h : Dp _ _ _ d := h
  cases h <;> cases e
  rfl
theorem ev_asI (h : EV K M te σ B L rDat d L') (e : asI d = some i) : EV K M te σ B L rInt i L' := ev_as h fun _ _ h => by
  have h : Dp _ _ _ d := h
  cases h <;> cases e
  rfl
theorem ev_asB (h : EV K M te σ B L rDat d L') (e : asB d = some b) : EV K M te σ B L rBool b L' := ev_as h fun _ _ h => by
  have h : Dp _ _ _ d := h
  cases h <;> cases e
  rfl
theorem ev_asT {ds : List PyData} (h : EV K M te σ B L rDat d L') (e : asT d = some ds) : EV K M te σ B L (rTup rDat) ds L' := ev_as h fun _ _ h => by
  have h : Dp _ _ _ d := h
  cases h with
  | tup hs hd => cases e; exact ⟨_, _, rfl, hs, dpAll_paired hd⟩
  | _ => cases e
theorem asIs_paired : ∀ {vs : List V} {ds : List PyData} {is : List Int}, Paired (rDat.is K B) vs ds → asIs ds = some is → Paired (rInt.is K B) vs is
  | _, _, _, .nil, e => by cases e; exact .nil
  | v :: vs, d :: ds, is, .cons h t, e => by
    have h : Dp K B v d := h
    cases d <;> try (cases e)
    rename_i i
    unfold asIs at e
    cases hi : asIs ds with
    | none => rw [hi] at e; cases e
    | some js =>
      rw [hi] at e
      cases e
      cases h
      exact .cons rfl (asIs_paired t hi)
theorem ev_asIs {ds : List PyData} {is : List Int} (h : EV K M te σ B L (rTup rDat) ds L') (e : asIs ds = some is) : EV K M te σ B L (rTup rInt) is L' := ev_as h fun _ _ ⟨p, vs, h1, h2, h3⟩ => ⟨p, vs, h1, h2, asIs_paired h3 e⟩
theorem dpQ {v : V} {q : Int × Int} (h : Dp K B v d) (e : asQ d = some q) : (rT2 rInt rInt).is K B v q := by
  unfold asQ at e
  split at e
  · cases e
    cases h with
    | tup hs hd =>
      cases hd with
      | cons h1 h2 =>
        cases h2 with
        | cons h2 h3 =>
          cases h3
          cases h1
          cases h2
          exact ⟨_, _, _, rfl, hs, rfl, rfl⟩
  · cases e
theorem ev_asQ {q : Int × Int} (h : EV K M te σ B L rDat d L') (e : asQ d = some q) : EV K M te σ B L (rT2 rInt rInt) q L' := ev_as h fun _ _ h => dpQ h e
/-- len of a pair -/
theorem ev_lenT2 {a : α × β} (ha : EV K M ta σ B L (rT2 r s) a L1) : EV K M (tCB (rLen K) (tCons ta tNil)) σ B L rInt 2 L1 :=
  ev_cb1 ha fun B1 H1 x Q w hx q => by
    obtain ⟨p, u, v, rfl, hs, h1, h2⟩ := hx
    exact ⟨p, _, rfl, .inr (ex_t w.b hs), q _ rfl⟩
end
/-! ### a list of two kinds -/
def rL2 {α β : Type} (r : Rep α) (s : Rep β) : Rep (α × β) := ⟨fun K B v a => ∃ p x y, v = .ref p ∧ B p = some (.lst [x, y]) ∧ r.is K B x a.1 ∧ s.is K B y a.2,
  fun e ⟨p, x, y, h1, h2, h3, h4⟩ => ⟨p, x, y, h1, e _ _ h2, r.mono e h3, s.mono e h4⟩⟩
def dL2 {α β : Type} (f : α → PyData) (g : β → PyData) (a : α × β) : PyData := .list [f a.1, g a.2]
section
variable {K : Fg} {M : Fr} {σ : St} {B B' H H' : Hp} {L L1 L2 L' : List Cell} {α β γ δ : Type} {r : Rep α} {s : Rep β} {t : Rep γ} {ta tb tc te : TE} {tA : TA} {f : α → PyData} {g : β → PyData} {n m : Nat}
theorem ev_L2 {a : α} {b : β} (h : EA K M tA σ B L [⟨r, a⟩, ⟨s, b⟩] L') : EV K M (tLst tA) σ B L (rL2 r s) (a, b) L' := fun B1 H e w Q q =>
  h B1 H e w _ fun vs B2 H2 e2 w2 hv => by
    match vs, hv with
    | [x0, x1], ⟨h1, h2, _⟩ =>
      refine ⟨by show 2 ≤ sizeLine; decide, fun p hp => ?_⟩
      have eN := Ex.new (o := HO.lst [x0, x1]) (fresh_back w2.b hp)
      exact q _ (upd B2 p _) _ (e2.trans eN) (w2.ext hp) ⟨p, _, _, rfl, upd_same, r.mono eN h1, s.mono eN h2⟩
theorem ev_L2fst {a : α × β} (ha : EV K M ta σ B L (rL2 r s) a L1) : EV K M (tOp (rIx K) ta (tC (.int 0))) σ B L r a.1 L1 := fun B1 H e w Q q =>
  ha B1 H e w _ fun x B2 H2 e2 w2 hx => by
    obtain ⟨p, x0, x1, rfl, hs, h0, h1⟩ := hx
    exact .inl ⟨p, _, 0, x0, rfl, rfl, sq_of (w2.b _ _ hs), rfl, q _ B2 H2 e2 w2 h0⟩
theorem ev_L2snd {a : α × β} (ha : EV K M ta σ B L (rL2 r s) a L1) : EV K M (tOp (rIx K) ta (tC (.int 1))) σ B L s a.2 L1 := fun B1 H e w Q q =>
  ha B1 H e w _ fun x B2 H2 e2 w2 hx => by
    obtain ⟨p, x0, x1, rfl, hs, h0, h1⟩ := hx
    exact .inl ⟨p, _, 1, x1, rfl, rfl, sq_of (w2.b _ _ hs), rfl, q _ B2 H2 e2 w2 h1⟩
theorem dr_L2 (d : DR r f n) (e : DR s g m) : DR (rL2 r s) (dL2 f g) (max n m + 1) := ⟨fun K B v a ⟨p, x, y, h1, h2, h3, h4⟩ => by subst h1; exact .lst (sq_of h2) (.cons (d.dp _ _ _ _ h3) (.cons (e.dp _ _ _ _ h4) .nil)),
  fun a => by simp [dL2, PyData.canLay0, PyData.canLayAll0, d.lay, e.lay], fun a => by have := d.dep a.1; have := e.dep a.2; simp only [dL2, PyData.depth, PyData.depthAll]; omega,
  fun a b => by simp only [dL2, PyData.eqv, PyData.eqvAll, Bool.and_true, Bool.and_eq_true, d.eqv, e.eqv]; exact ⟨fun ⟨x, y⟩ => Prod.ext x y, fun e => by rw [e]; exact ⟨rfl, rfl⟩⟩,
  fun a b q => by unfold dL2 at q; injection q with q; injection q with q1 q2; injection q2 with q2 _; exact Prod.ext (d.inj _ _ q1) (e.inj _ _ q2)⟩
theorem dq_L2 (d : DQ r f) (e : DQ s g) : DQ (rL2 r s) (dL2 f g) := fun K B v a ⟨p, x, y, h1, h2, h3, h4⟩ => by subst h1; exact .lst (sq_of h2) (.cons (d _ _ _ _ h3) (.cons (e _ _ _ _ h4) .nil))
end
/-! ### a global dict of texts -/
def lookI : List (Str × Int) → Str → Option Int
  | [], _ => none
  | q :: l, z => if q.1 = z then some q.2 else lookI l z
def entB : List DictEntry → List (Str × Int) → Bool
  | [], [] => true
  | e :: es, q :: qs => (match e.key, e.val with
    | .str k _, .int i _ => decide (k = q.1) && decide (i = q.2)
    | _, _ => false) && entB es qs
  | _, _ => false
def tabG (K : Fg) (x : Str) (l : List (Str × Int)) : Bool := match PySem.W.nsIn K mainGlobals x with
  | some (some (.ref a)) => decide (a = He.ga K x) && (match K.lookup a with
    | some ⟨_, _, .dict es _, _⟩ => entB es.toList l
    | _ => false)
  | _ => false
structure GD (K : Fg) (w : World) (mg : Str → Option Value) (x : Str) (l : List (Str × Int)) : Prop where
  ex : ∃ a es n, mg x = some (.ref a) ∧ KDict K w a es n ∧ (∀ z, lookI l z = none → PySem.W.nsIn K a z = some none) ∧ ∀ z i, lookI l z = some i → ∃ t, PySem.W.nsIn K a z = some (some (.int i t))
theorem ent_find : ∀ {es : List DictEntry} {l : List (Str × Int)} (z : Str), entB es l = true → (lookI l z = none → es.find? (·.key.isStr z) = none ∧ es.any (·.refKey) = false) ∧ ∀ i, lookI l z = some i → ∃ e t, es.find? (·.key.isStr z) = some e ∧ e.val = .int i t
  | [], [], z, _ => ⟨fun _ => ⟨rfl, rfl⟩, fun i h => by cases h⟩
  | e :: es, q :: l, z, h => by
    unfold entB at h
    rw [Bool.and_eq_true] at h
    obtain ⟨h1, h2⟩ := h
    have ih := ent_find z h2
    obtain ⟨hh, ek, ev⟩ := e
    cases ek <;> try (cases h1)
    cases ev <;> try (cases h1)
    rename_i k tk i ti
    have h1 : (decide (k = q.1) && decide (i = q.2)) = true := h1
    rw [Bool.and_eq_true, decide_eq_true_iff, decide_eq_true_iff] at h1
    obtain ⟨rfl, rfl⟩ := h1
    unfold lookI
    have is : (Value.str q.1 tk).isStr z = decide (q.1 = z) := by
      rw [Bool.eq_iff_iff, decide_eq_true_iff]
      show (q.1 == z) = true ↔ _
      exact beq_iff_eq
    by_cases e : q.1 = z
    · rw [if_pos e]
      refine ⟨fun h => (by cases h), fun i h => ?_⟩
      cases h
      refine ⟨⟨hh, .str q.1 tk, .int q.2 ti⟩, ti, ?_, rfl⟩
      rw [List.find?_cons, is, decide_eq_true e]
    · rw [if_neg e]
      refine ⟨fun h => ?_, fun i h => ?_⟩
      · obtain ⟨a, b⟩ := ih.1 h
        refine ⟨?_, ?_⟩
        · rw [List.find?_cons, is, decide_eq_false e]; exact a
        · rw [List.any_cons, b]; rfl
      · obtain ⟨e', t, a, b⟩ := ih.2 i h
        refine ⟨e', t, ?_, b⟩
        rw [List.find?_cons, is, decide_eq_false e]; exact a
theorem tabG_ok {K : Fg} {w : World} {h : Heap} {mg : Str → Option Value} {x : Str} {l : List (Str × Int)} (X : K.In h) (G : h.Ns mainGlobals mg) (e : tabG K x l = true) (D : ∃ es n, KDict K w (He.ga K x) es n) : GD K w mg x l := by
  unfold tabG at e
  split at e
  · rename_i a ha
    rw [Bool.and_eq_true, decide_eq_true_iff] at e
    obtain ⟨ea, e⟩ := e
    obtain ⟨es, n, D⟩ := D
    rw [← ea] at D
    rw [D.at_] at e
    have e : entB es.toList l = true := e
    refine ⟨a, es, n, PySem.W.mg_of X G ha, D, fun z hz => ?_, fun z i hz => ?_⟩
    · obtain ⟨h1, h2⟩ := (ent_find z e).1 hz
      unfold PySem.W.nsIn
      rw [D.at_]
      show (match es.toList.find? (·.key.isStr z) with | some e => some (some e.val) | none => if es.toList.any (·.refKey) then none else some none) = _
      rw [h1, h2]; rfl
    · obtain ⟨e', t, h1, h2⟩ := (ent_find z e).2 i hz
      refine ⟨t, ?_⟩
      unfold PySem.W.nsIn
      rw [D.at_]
      show (match es.toList.find? (·.key.isStr z) with | some e => some (some e.val) | none => if es.toList.any (·.refKey) then none else some none) = _
      rw [h1, ← h2]
  · cases e
section
variable {K : Fg} {M : Fr} {σ : St} {B B' H H' : Hp} {L L1 L2 L' : List Cell} {α β γ δ : Type} {r : Rep α} {s : Rep β} {t : Rep γ} {ta tb tc te : TE} {tt tu : TT} {tA : TA} {i j k : Int} {b c : Bool} {D : Ends} {tz t1 t2 : TS}
abbrev rInG (K : Fg) (d : Addr) : R2 := fun x y H Q => ∃ (z : Str) (r : Option Value), x = .str z ∧ y = .ref d ∧ PySem.W.nsIn K d z = some r ∧ Q (.bl r.isSome) H
abbrev rNiG (K : Fg) (d : Addr) : R2 := fun x y H Q => ∃ (z : Str) (r : Option Value), x = .str z ∧ y = .ref d ∧ PySem.W.nsIn K d z = some r ∧ Q (.bl (!r.isSome)) H
theorem ev_inG {d : Addr} {z : Str} {l : List (Str × Int)} (h0 : ∀ z, lookI l z = none → PySem.W.nsIn K d z = some none) (h1 : ∀ z i, lookI l z = some i → ∃ t, PySem.W.nsIn K d z = some (some (.int i t))) (h : EV K M ta σ B L rStr z L1) (h' : EV K M tb σ B L1 rRef d L2) : EV K M (tOp (rInG K d) ta tb) σ B L rBool (lookI l z).isSome L2 :=
  ev_op h h' fun _ _ _ _ _ _ hx hy q => by
    cases e : lookI l z with
    | none => exact ⟨z, none, hx, hy, h0 z e, q _ (by rw [e]; rfl)⟩
    | some i =>
      obtain ⟨t, ht⟩ := h1 z i e
      exact ⟨z, _, hx, hy, ht, q _ (by rw [e]; rfl)⟩
theorem ev_niG {d : Addr} {z : Str} {l : List (Str × Int)} (h0 : ∀ z, lookI l z = none → PySem.W.nsIn K d z = some none) (h1 : ∀ z i, lookI l z = some i → ∃ t, PySem.W.nsIn K d z = some (some (.int i t))) (h : EV K M ta σ B L rStr z L1) (h' : EV K M tb σ B L1 rRef d L2) : EV K M (tOp (rNiG K d) ta tb) σ B L rBool (!(lookI l z).isSome) L2 :=
  ev_op h h' fun _ _ _ _ _ _ hx hy q => by
    cases e : lookI l z with
    | none => exact ⟨z, none, hx, hy, h0 z e, q _ (by rw [e]; rfl)⟩
    | some i =>
      obtain ⟨t, ht⟩ := h1 z i e
      exact ⟨z, _, hx, hy, ht, q _ (by rw [e]; rfl)⟩
theorem ev_ixG {w0 : World} {d : Addr} {es : Array DictEntry} {n : Nat} {z : Str} {l : List (Str × Int)} (D : KDict K w0 d es n) (h1 : ∀ z i, lookI l z = some i → ∃ t, PySem.W.nsIn K d z = some (some (.int i t))) (h : EV K M ta σ B L rRef d L1) (h' : EV K M tb σ B L1 rStr z L2) (e : lookI l z = some i) : EV K M (tOp (rIxD K w0) ta tb) σ B L rInt i L2 :=
  ev_op h h' fun _ _ _ _ _ _ hx hy q => by
    obtain ⟨t, ht⟩ := h1 z i e
    exact ⟨d, z, .int i, hx, hy, ⟨es, n, .int i t, D.at_, D.lit, ht, ⟨t, rfl⟩⟩, q _ rfl⟩
end
end L3

namespace L3G
open PySem PySem.Spec PyProof.Rows L2
variable {X : Cx}
/-- name = {k: v for ..} on one line, the name a local -/
theorem ps_setDc {i : Nat} {y : Str} {py : Pos} {kx vx tg iter : Expr} {ifs : List Expr} {scope : Scope} {own : List (Str × Nat)} {pos spos : Pos} {wi : TI} {g : TG} {tt : TT} {tk tv : TE} (hc : X.calm = true) (hN : X.N.Nodup) (hy : X.N[i]? = some y) (hyl : X.env.scope.names.lookup y = some .local)
    (hsw : swapsWith (.DictComp kx vx [⟨tg, iter, ifs, 0⟩] scope pos) (some (.Name y py)) spos.line X.env = pure true) (hi : PI X tg iter wi) (ok : BlkOk X.N X.env.scope scope own)
    (hg : ∀ (s : Shared) (H : Hp) (C : Addr) (cl : List (Str × Addr)) (fp : List Addr), PG (X.blk s H scope (compEnvC scope cl C X.env) fp) tg g) (ht : ∀ (s : Shared) (H : Hp) (C : Addr) (cl : List (Str × Addr)) (fp : List Addr), PTs (X.blk s H scope (compEnvC scope cl C X.env) fp) ifs tt)
    (hk : ∀ (s : Shared) (H : Hp) (C : Addr) (cl : List (Str × Addr)) (fp : List Addr), PE (X.blk s H scope (compEnvC scope cl C X.env) fp) kx tk)
    (he : ∀ (s : Shared) (H : Hp) (C : Addr) (cl : List (Str × Addr)) (fp : List Addr), PE (X.blk s H scope (compEnvC scope cl C X.env) fp) vx tv) (hs : ∀ x, foldedSetIterable iter X.env x = pure x := by intro _; rfl) :
    PS X (.Assign [.Name y py] (.DictComp kx vx [⟨tg, iter, ifs, 0⟩] scope pos) spos) (tAsg (tDc wi g tt tk tv (own.map (·.2))) (gName i)) := by
  refine ⟨fun pins s σ H D I h => ?_⟩
  rw [exec_Assign_Name_used _ _ _ _ hsw]
  refine wpAny_bind (wpAny_standAt (wpAny_bind ?_))
  show wpAny _ X.A (do let _ ← comprehension (.DictComp kx vx [⟨tg, iter, ifs, 0⟩] scope pos) scope X.env (firstIterPos [⟨tg, iter, ifs, 0⟩] pos) newDict false (eval iter X.env) (some (assign (.Name y py) X.env))) _ _ s
  have h : tDc wi g tt tk tv (own.map (·.2)) σ H (fun x H1 => gName i x σ H1 D.nx) := h
  refine wpAny_bind (thn (dc_core (Qf := fun _ s' => SP X pins D .next s') hc hN I hi ok hg ht hk he hs h fun L C s' m H' I' q hn f => ?_) fun _ s' hq => wpAny_pure (wpAny_pure hq))
  show wpAny _ _ (assign (.Name y py) X.env (.ref L)) _ _ _
  refine wpAny_assign_Name (store_ok2 (v := V.ref L) I' hN hy (.inl hyl) rfl (fun s2 I2 ⟨a, sb, ha⟩ => ?_) (.inr hyl))
  obtain ⟨f0, f1, f2, f3, f4, f5⟩ := f
  have haC : C ≠ a := by
    rcases ha with z | z
    · rw [z]; exact f1
    · exact fun e => f4 y a z e.symm
  refine ⟨m, hn.sameBut sb haC, fun h3 sb3 => ?_⟩
  exact ⟨_, H', I2.turned (t' := s2.toks) (fun b o hb e => (sb3.2 b hb).trans e) f0 f1 f3 f4 f5, q⟩
end L3G
namespace L3
open PySem L2
open Evl (Ex ex_rd ex_l ex_t sq_of st_of fresh_back)
/-! ### dicts of ints: made by a comprehension, read, asked -/
def getI : List (Int × Int) → Int → Option Int
  | [], _ => none
  | q :: l, k => if q.1 = k then some q.2 else getI l k
theorem valV_enc (k : Int) : ∀ kvs : List (Int × Int), valV (L3G.encI kvs) (Sum.inl k : Key) = (getI kvs k).map V.int
  | [] => rfl
  | q :: l => by
    have ih := valV_enc k l
    unfold valV L3G.encI at ih ⊢
    rw [List.map_cons, List.find?_cons]
    unfold getI
    by_cases h : q.1 = k
    · rw [if_pos h]
      have : (decide ((Sum.inl q.1 : Key) = Sum.inl k)) = true := decide_eq_true (by rw [h])
      rw [this]
      rfl
    · rw [if_neg h]
      have : (decide ((Sum.inl q.1 : Key) = Sum.inl k)) = false := decide_eq_false fun z => h (Sum.inl.inj z)
      rw [this]
      exact ih
def dcM {α : Type} (f : α → Option (Int × Int)) : List (Int × Int) → List α → Option (List (Int × Int))
  | kvs, [] => some kvs
  | kvs, x :: xs => match f x with
    | some q => dcM f (putI kvs q.1 q.2) xs
    | none => none
theorem putI_len (kvs : List (Int × Int)) (k v : Int) : (putI kvs k v).length ≤ kvs.length + 1 := by
  have h := L2.length_putK (L3G.encI kvs) (Sum.inl k : Key) (V.int v)
  rw [enc_put] at h
  simpa [L3G.encI] using h
section
variable {K : Fg} {M : Fr} {σ : St} {B : Hp} {L L1 L2 L' : List Cell} {α β γ δ : Type} {r : Rep α} {s : Rep β} {t : Rep γ} {ta tb tc te tk tv : TE} {tt tu : TT} {tA : TA} {i j k : Int} {b c : Bool} {wi : TI} {g : TG}
theorem ec_dc {vs : List Nat} {σ' : St} {xs : List α} {kvs : List (Int × Int)} (hi : EI K M wi σ B L r xs L1) (f : α → Option (Int × Int)) (hm : dcM f [] xs = some kvs) (hr : room xs.length = some ()) (hw : wipe σ vs = σ')
    (hs : ∀ x o v D acc B' H', f x = some o → Ex B B' → Own K B' M (⟨D, cDk, acc⟩ :: L1) H' → r.is K B' v x → ∀ (PY : V → V → Hp → Prop) (PN : Hp → Prop),
      (∀ y z B2 H2, Ex B' B2 → Own K B2 M (⟨D, cDk, acc⟩ :: L1) H2 → y = .int o.1 → z = .int o.2 → PY y z H2) →
      g v σ' H' fun σ2 H2 => wipe σ2 vs = σ' ∧ tYes σ2 H2 fun b H3 => if b = true then tk σ2 H3 fun y H4 => tv σ2 H4 fun z H5 => PY y z H5 else PN H3) :
    ENC K M (tDc wi g tYes tk tv vs) σ B L cDk kvs L1 := fun B1 H e w Q q => by
  refine hi B1 H e w _ fun J B2 H2 e2 w2 wk => ?_
  intro D hD
  subst hw
  have w3 : Own K B2 M (⟨D, cDk, []⟩ :: L1) (upd H2 D (.dK [])) := w2.new (c := cDk) hD rfl
  refine ⟨fun i m H' => m = xs.length - i ∧ i ≤ xs.length ∧ ∃ acc B', Ex B2 B' ∧ Own K B' M (⟨D, cDk, acc⟩ :: L1) H' ∧ acc.length ≤ i ∧ dcM f acc (xs.drop i) = some kvs,
    ⟨_, rfl, Nat.zero_le _, [], B2, Ex.refl _, w3, Nat.zero_le _, hm⟩, ?_⟩
  rintro i m H' ⟨rfl, hil, acc, B', eb, w', hacc, hz⟩
  by_cases hl : i = xs.length
  · subst hl
    rw [List.drop_length] at hz
    obtain rfl := Option.some.inj hz
    exact .inl ⟨wk.stop B' _ H' eb w', q D B' H' (e2.trans eb) w'⟩
  · have hlt : i < xs.length := by omega
    rw [List.drop_eq_getElem_cons hlt] at hz
    have hx : xs[i]? = some xs[i] := List.getElem?_eq_getElem hlt
    obtain ⟨g1, g2⟩ := wk.go i xs[i] B' _ H' eb w' hx
    unfold dcM at hz
    cases hf : f xs[i] with
    | none => rw [hf] at hz; cases hz
    | some o =>
      rw [hf] at hz
      dsimp only at hz
      refine .inr ⟨g1, fun H5 => i + 1 ≤ xs.length ∧ ∃ acc B', Ex B2 B' ∧ Own K B' M (⟨D, cDk, acc⟩ :: L1) H5 ∧ acc.length ≤ i + 1 ∧ dcM f acc (xs.drop (i + 1)) = some kvs, fun H5 h5 => ⟨xs.length - (i + 1), by omega, rfl, h5⟩, fun x H4 hy => ?_⟩
      obtain ⟨B4, e4, w4, hrx⟩ := g2 x H4 hy
      have hb := (e.trans e2).trans (eb.trans e4)
      refine hs xs[i] o x D acc B4 H4 hf hb w4 hrx (fun y z H6 => ∃ kvs' k', y = kV k' ∧ H6 D = some (.dK kvs') ∧ kvs'.length < sizeLine ∧ (fun H5 => i + 1 ≤ xs.length ∧ ∃ acc B', Ex B2 B' ∧ Own K B' M (⟨D, cDk, acc⟩ :: L1) H5 ∧ acc.length ≤ i + 1 ∧ dcM f acc (xs.drop (i + 1)) = some kvs) (upd H6 D (.dK (putK kvs' k' z)))) _ fun y z B5 H5 e5 w5 hy hz' => ?_
      subst hy hz'
      obtain ⟨⟨o', a1, a2⟩, _⟩ := w5.at (i := 0) rfl
      have a1 : H5 D = some o' := a1
      have a2 : o' = .dK (L3G.encI acc) := a2
      refine ⟨L3G.encI acc, Sum.inl o.1, rfl, by rw [a1, a2], ?_, hlt, putI acc o.1 o.2, B5, (eb.trans e4).trans e5, ?_, ?_, hz⟩
      · have hq := room_some hr
        have : (L3G.encI acc).length = acc.length := by simp [L3G.encI]
        omega
      · rw [enc_put]
        exact w5.set (i := 0) rfl (c' := cDk) rfl
      · have := putI_len acc o.1 o.2
        omega
theorem dc_yes {PY : V → V → Hp → Prop} {PN : Hp → Prop} {H : Hp} (h : tk σ H fun y H4 => tv σ H4 fun z H5 => PY y z H5) : tYes σ H fun b H3 => if b = true then tk σ H3 fun y H4 => tv σ H4 fun z H5 => PY y z H5 else PN H3 := by
  show (if true = true then tk σ H fun y H4 => tv σ H4 fun z H5 => PY y z H5 else PN H)
  rw [if_pos rfl]
  exact h
theorem ev_dGet {n : Nat} {p : Addr} {kvs : List (Int × Int)} {v : Int} (h : EV K M ta σ B L rRef p L1) (h' : EV K M tb σ B L1 rInt k L2) (hc : L2[n]? = some ⟨p, cDk, kvs⟩) (e : getI kvs k = some v) : EV K M (tDGet ta tb) σ B L rInt v L2 := fun B1 H e1 w Q q =>
  h B1 H e1 w _ fun x B2 H2 e2 w2 hx => h' B2 H2 (e1.trans e2) w2 _ fun u B3 H3 e3 w3 hu => by
    obtain ⟨⟨o', g1, g2⟩, _⟩ := w3.at hc
    have g1 : H3 p = some o' := g1
    have g2 : o' = .dK (L3G.encI kvs) := g2
    have hu : u = .int k := hu
    subst hu
    have hd : DGet H3 p (kV (Sum.inl k)) (valV (L3G.encI kvs) (Sum.inl k)) := DGet.k (by rw [g1, g2])
    rw [valV_enc, e] at hd
    exact ⟨p, .int v, hx, hd, q _ B3 H3 (e2.trans e3) w3 rfl⟩
theorem ev_dIn {n : Nat} {p : Addr} {kvs : List (Int × Int)} (h' : EV K M tb σ B L rInt k L1) (h : EV K M ta σ B L1 rRef p L2) (hc : L2[n]? = some ⟨p, cDk, kvs⟩) : EV K M (tDIn tb ta) σ B L rBool (getI kvs k).isSome L2 := fun B1 H e1 w Q q =>
  h' B1 H e1 w _ fun u B2 H2 e2 w2 hu => h B2 H2 (e1.trans e2) w2 _ fun x B3 H3 e3 w3 hx => by
    obtain ⟨⟨o', g1, g2⟩, _⟩ := w3.at hc
    have g1 : H3 p = some o' := g1
    have g2 : o' = .dK (L3G.encI kvs) := g2
    have hu : u = .int k := hu
    subst hu
    have hd : DGet H3 p (kV (Sum.inl k)) (valV (L3G.encI kvs) (Sum.inl k)) := DGet.k (by rw [g1, g2])
    rw [valV_enc] at hd
    refine ⟨p, _, hx, hd, q _ B3 H3 (e2.trans e3) w3 ?_⟩
    cases getI kvs k <;> rfl
theorem ev_dNi {n : Nat} {p : Addr} {kvs : List (Int × Int)} (h' : EV K M tb σ B L rInt k L1) (h : EV K M ta σ B L1 rRef p L2) (hc : L2[n]? = some ⟨p, cDk, kvs⟩) : EV K M (tDNotIn tb ta) σ B L rBool (!(getI kvs k).isSome) L2 := fun B1 H e1 w Q q =>
  h' B1 H e1 w _ fun u B2 H2 e2 w2 hu => h B2 H2 (e1.trans e2) w2 _ fun x B3 H3 e3 w3 hx => by
    obtain ⟨⟨o', g1, g2⟩, _⟩ := w3.at hc
    have g1 : H3 p = some o' := g1
    have g2 : o' = .dK (L3G.encI kvs) := g2
    have hu : u = .int k := hu
    subst hu
    have hd : DGet H3 p (kV (Sum.inl k)) (valV (L3G.encI kvs) (Sum.inl k)) := DGet.k (by rw [g1, g2])
    rw [valV_enc] at hd
    refine ⟨p, _, hx, hd, q _ B3 H3 (e2.trans e3) w3 ?_⟩
    cases getI kvs k <;> rfl
/-! ### list.index of ints -/
def idxI : List Int → Int → Option Int
  | [], _ => none
  | x :: l, k => if x = k then some 0 else (idxI l k).map (· + 1)
theorem idxI_at {k : Int} : ∀ {xs : List Int} {v : Int}, idxI xs k = some v → ∃ n : Nat, v = (n : Int) ∧ xs[n]? = some k ∧ ∀ (m : Nat) (z : Int), m < n → xs[m]? = some z → z ≠ k
  | [], _, h => by cases h
  | x :: l, v, h => by
    unfold idxI at h
    split at h
    · rename_i e
      obtain rfl := Option.some.inj h
      exact ⟨0, rfl, by rw [← e]; rfl, fun m z hm => absurd hm (by omega)⟩
    · rename_i e
      cases e2 : idxI l k with
      | none => rw [e2] at h; cases h
      | some u =>
        rw [e2] at h
        obtain rfl := Option.some.inj h
        obtain ⟨n, rfl, h1, h2⟩ := idxI_at e2
        refine ⟨n + 1, by simp, by simpa using h1, fun m z hm hz => ?_⟩
        cases m with
        | zero => obtain rfl : x = z := Option.some.inj hz; exact e
        | succ m => exact h2 m z (by omega) (by simpa using hz)
theorem ev_index {xs : List Int} {v : Int} (h : EV K M ta σ B L (rLst rInt) xs L1) (h' : EV K M tb σ B L1 rInt k L2) (e : idxI xs k = some v) : EV K M (tBM K "list" (rIndex K) ta (tCons tb tNil)) σ B L rInt v L2 := fun B1 H e1 w Q q =>
  h B1 H e1 w _ fun x B2 H2 e2 w2 hx => by
    obtain ⟨p, ys, rfl, hs, hp⟩ := rl_sc hx
    refine ⟨.inl ⟨rfl, ys, ex_l w2.b hs⟩, h' B2 H2 (e1.trans e2) w2 _ fun u B3 H3 e3 w3 hu => ?_⟩
    have hu : u = .int k := hu
    subst hu
    obtain ⟨n, rfl, h1, h2⟩ := idxI_at e
    obtain rfl := ints_of hp
    refine ⟨p, xs.map V.int, .int k, n, .int k, rfl, rfl, ex_l w3.b (ex_l e3 hs), rfl, ?_, by rw [List.getElem?_map, h1]; rfl, by simp [eqV], fun m z hm hz => ?_, q _ B3 H3 (e2.trans e3) w3 rfl⟩
    · rw [List.all_eq_true]
      intro y hy
      obtain ⟨z, _, rfl⟩ := List.mem_map.mp hy
      rfl
    · rw [List.getElem?_map] at hz
      cases hx : xs[m]? with
      | none => rw [hx] at hz; cases hz
      | some z2 =>
        rw [hx] at hz
        obtain rfl : V.int z2 = z := Option.some.inj hz
        have := h2 m z2 hm hx
        simpa [eqV] using this
end
end L3

namespace L3G
open PySem PySem.Spec PyProof.Rows L2
variable {X : Cx}
/-! ### one of two readings -/
def orI (a b : TI) : TI := fun σ H R => a σ H R ∨ b σ H R
theorem pi_or {tg e : Expr} {a b : TI} (h1 : PI X tg e a) (h2 : PI X tg e b) : PI X tg e (orI a b) := ⟨fun pins s σ H R I h => h.elim (h1.run pins s σ H R I) (h2.run pins s σ H R I)⟩
/-- a generator expression within a comprehension -/
def relab (sc fsc : Scope) : Scope := { sc with names := sc.names.map fun (n, k) => if (k == .free && fsc.kind == .function && fsc.names.lookup n == some .cell) then (n, .cell) else (n, k) }
theorem gs_in {scC scope fsc : Scope} (e : X.env.scope = fsc) (h : gsB (relab scC fsc) scope = true) : GSc (relabel scC X.env) scope := by
  have : relabel scC X.env = relab scC fsc := by subst e; rfl
  rw [this]
  exact gs_by h
/-! ### the truth of a list, a text -/
def tTru (K : PySem.W.Frag) (te : TE) : TT := fun σ H Q => te σ H fun x H' => ∃ k, TruV K x H' k ∧ Q k H'
theorem pt_tru {a : Expr} {ta : TE} (ha : PE X a ta) (he : ∀ whole, isTrue a X.env whole = (do let v ← whole; standAt a.pos; holding [v] (truthy v)) := by intro _; rfl) : PT X a (tTru X.K ta) := pt_truth ha he
end L3G
namespace L3
open PySem L2
open Evl (Ex ex_rd ex_l ex_t sq_of st_of fresh_back)
def truS (x : Str) : Option Bool := if x.length ≤ 1000000 then some (decide (x.length ≠ 0)) else none
section
variable {K : Fg} {M : Fr} {σ : St} {B B' H H' : Hp} {L L1 L2 L' : List Cell} {α β γ δ : Type} {r : Rep α} {s : Rep β} {t : Rep γ} {ta tb tc te : TE} {tt tu : TT} {tA : TA} {i j k : Int} {b c : Bool} {D : Ends} {tz t1 t2 : TS} {wa wb : TI}
theorem seq_cases {v : V} {xs : List α} (h : (rSeq r).is K B v xs) : (rScr r).is K B v xs ∨ (rTup r).is K B v xs := by
  obtain ⟨p, vs, h1, h2, h3⟩ := h
  exact h2.imp (fun z => ⟨p, vs, h1, z, h3⟩) (fun z => ⟨p, vs, h1, z, h3⟩)
theorem ei_or {xs : List α} (h : EI K M wa σ B L r xs L' ∨ EI K M wb σ B L r xs L') : EI K M (L3G.orI wa wb) σ B L r xs L' := fun B1 H e w R q => h.imp (fun z => z B1 H e w R q) (fun z => z B1 H e w R q)
theorem ei_seqV {n : Nat} {v : V} {xs : List α} (h : σ[n]? = some (some v)) (hr : (rSeq r).is K B v xs) : EI K M (L3G.orI (iList K (tVar n)) (iTup K (tVar n))) σ B L r xs L := ei_or ((seq_cases hr).imp (fun z => ei_scr (ev_var h z)) (fun z => ei_tup (ev_var h z)))
theorem ei_enumSc {xs : List α} (h : EV K M te σ B L (rScr r) xs L') : EI K M (iEnum K (tCons te tNil)) σ B L (rT2 rInt r) (enumI 0 xs) L' := fun B1 H e w R q => h B1 H e w _ fun v B2 H2 e2 w2 hv => by
  obtain ⟨p, vs, rfl, hs, hp⟩ := hv
  refine ⟨p, vs, rfl, ex_l w2.b hs, q _ B2 H2 e2 w2 ⟨fun i a B' L' H' e' w' hi => ?_, fun B' L' H' e' w' => ⟨vs, ex_l (e'.trans w'.b) hs, by rw [enumI_len, paired_len hp]; exact Nat.le_refl _⟩⟩⟩
  obtain ⟨h1, h2⟩ := enumI_get hi
  obtain ⟨x, hx, hr⟩ := paired_get hp h2
  refine ⟨⟨vs, x, ex_l (e'.trans w'.b) hs, hx⟩, fun y H3 hy => ?_⟩
  obtain ⟨T, z, rfl, hT, rfl, hy⟩ := hy
  have := hy vs (ex_l (e'.trans w'.b) hs)
  rw [hx] at this
  cases this
  have eN := Ex.new (o := HO.tup [.int (i : Nat), x]) (fresh_back w'.b hT)
  exact ⟨upd B' T _, eN, w'.ext hT, ⟨T, _, _, rfl, st_of upd_same, by rw [h1]; show V.int _ = V.int _; congr 1; simp, r.mono (e'.trans eN) hr⟩⟩
theorem ei_enumSV {n : Nat} {v : V} {xs : List α} (h : σ[n]? = some (some v)) (hr : (rSeq r).is K B v xs) : EI K M (L3G.orI (iEnum K (tCons (tVar n) tNil)) (L3G.iEnumT K (tCons (tVar n) tNil))) σ B L (rT2 rInt r) (enumI 0 xs) L := ei_or ((seq_cases hr).imp (fun z => ei_enumSc (ev_var h z)) (fun z => ei_enumT (ev_var h z)))
theorem pair_empty {F : V → α → Prop} {vs : List V} {xs : List α} (h : Paired F vs xs) : vs.isEmpty = xs.isEmpty := by cases h <;> rfl
theorem et_truL {xs : List α} (h : EV K M te σ B L (rSeq r) xs L') : ET K M (L3G.tTru K te) σ B L (!xs.isEmpty) L' := fun B1 H e w Q q => h B1 H e w _ fun v B2 H2 e2 w2 hv => by
  obtain ⟨p, vs, rfl, hs, hp⟩ := hv
  refine ⟨_, ?_, q B2 H2 e2 w2⟩
  rcases hs with hs | hs
  · exact .inl ⟨vs, ex_l w2.b hs, by rw [pair_empty hp]⟩
  · exact .inr (.inl ⟨vs, ex_t w2.b hs, by rw [pair_empty hp]⟩)
theorem et_truC {n : Nat} {p : Addr} {xs : List α} (h : EV K M te σ B L rRef p L') (hc : L'[n]? = some ⟨p, cLst r, xs⟩) : ET K M (L3G.tTru K te) σ B L (!xs.isEmpty) L' := fun B1 H e w Q q => h B1 H e w _ fun v B2 H2 e2 w2 hv => by
  have hv : v = .ref p := hv
  subst hv
  obtain ⟨⟨o, h1, vs, h2, hp⟩, _⟩ := w2.at hc
  have h1 : H2 p = some o := h1
  exact ⟨_, .inl ⟨vs, sq_of (by rw [h1, h2]), by rw [pair_empty hp]⟩, q B2 H2 e2 w2⟩
theorem et_truI (h : EV K M te σ B L rInt i L') : ET K M (L3G.tTru K te) σ B L (!decide (i = 0)) L' := fun B1 H e w Q q => h B1 H e w _ fun v B2 H2 e2 w2 hv => by
  have hv : v = .int i := hv
  subst hv
  refine ⟨_, ?_, q B2 H2 e2 w2⟩
  show _ = (i != 0)
  by_cases g : i = 0 <;> simp [g]
theorem et_truS {x : Str} (h : EV K M te σ B L rStr x L') (e : truS x = some b) : ET K M (L3G.tTru K te) σ B L b L' := fun B1 H e1 w Q q => h B1 H e1 w _ fun v B2 H2 e2 w2 hv => by
  have hv : v = .str x := hv
  subst hv
  unfold truS at e
  split at e
  · rename_i hl
    obtain rfl := Option.some.inj e
    refine ⟨_, ⟨Nat.le_trans hl (by decide), rfl⟩, ?_⟩
    have : decide (x.length ≠ 0) = ((x.length : Int) != 0) := by
      by_cases g : x.length = 0 <;> simp [g]
    rw [← this]
    exact q B2 H2 e2 w2
  · cases e
theorem ev_chP {g g' : Int → Int → Bool} {d : Bool} (ha : EV K M ta σ B L rInt i L1) (hb : EV K M tb σ B L1 rInt j L2) (h1 : g i j = true → ∃ k, EV K M tc σ B L2 rInt k L2 ∧ d = g' j k) (h2 : g i j = false → d = false) : EV K M (tChain (rI0 fun i j => .bl (g i j)) (rI0 fun i j => .bl (g' i j)) ta tb tc) σ B L rBool d L2 := fun B1 H e w Q q =>
  ha B1 H e w _ fun x B2 H2 e2 w2 hx => hb B2 H2 (e.trans e2) w2 _ fun y B3 H3 e3 w3 hy => ⟨i, j, hx, hy, g i j, rfl, by
    cases hg : g i j with
    | true =>
      obtain ⟨k, hc, rfl⟩ := h1 hg
      exact hc B3 H3 ((e.trans e2).trans e3) w3 _ fun z B4 H4 e4 w4 hz => ⟨j, k, hy, hz, q _ B4 H4 ((e2.trans e3).trans e4) w4 rfl⟩
    | false => exact q _ B3 H3 (e2.trans e3) w3 (by show V.bl _ = V.bl _; rw [h2 hg])⟩
/-- a new list from a def that changes the one at n -/
theorem el_callC {C : List Arg → List Cell → List α → List Cell → Prop} {E : XK} {as : List Arg} {xs : List α} (n : Nat) {x x' : Cell} (ha : EA K M tA σ B L as L1) (hx : L1[n]? = some x) (h : C as [x] xs [x']) (hp : x'.p = x.p) : EVL K M (tCall (spN K M.T r C) [] E tA) σ B L r xs (L1.set n x') := fun B1 H e w Q q =>
  ha B1 H e w _ fun vs B2 H2 e2 w2 hv => by
    show spN K M.T r C (vs ++ []) H2 Q E
    rw [List.append_nil]
    have nd := w2.nd
    have hn := erase_mem nd hx
    have sub : ∀ y ∈ L1.eraseIdx n, y ∈ L1 := fun y hy => List.mem_of_mem_eraseIdx hy
    refine ⟨B2, absorb M (L1.eraseIdx n) H2, [x], as, xs, [x'], rfl, w2.lend (L1 := [x]) (L2 := L1.eraseIdx n) (fun y h => by rw [List.mem_singleton.mp h]; exact List.mem_of_getElem? hx) sub nodup_one (fun y h => by rw [List.mem_singleton.mp h]; exact hn), hv, h, fun p B' H' e3 w3 => ?_⟩
    have hnew := w3.l _ (List.mem_cons_self)
    have hpn : p ∉ (L1.eraseIdx n).map (·.p) := fun hm => by
      obtain ⟨z, hz, ez⟩ := List.mem_map.mp hm
      have h1 := hnew.2.2
      obtain ⟨⟨o, g1, _⟩, _⟩ := w2.l z (sub z hz)
      have e2 : absorb M (L1.eraseIdx n) H2 z.p = H2 z.p := absorb_in hz
      have h1 : absorb M (L1.eraseIdx n) H2 p = none := h1
      rw [ez] at e2
      rw [e2] at h1
      rw [← ez, g1] at h1
      cases h1
    have w4 := w2.back (L1' := [⟨p, cLst r, xs⟩, x']) sub (nd.sublist ((List.eraseIdx_sublist L1 n).map _)) e3 w3 (fun y h => by
      rcases List.mem_cons.mp h with rfl | h
      · exact hpn
      · rw [List.mem_singleton.mp h, hp]; exact hn)
    refine q p B' H' (e2.trans e3) (w4.perm (fun y hy => ?_) ?_)
    · rcases List.mem_cons.mp hy with rfl | hy
      · exact List.mem_cons_self
      · exact List.mem_cons_of_mem _ (set_perm hx y hy)
    · rw [List.map_cons, List.nodup_cons, set_keys hx hp]
      refine ⟨fun hm => ?_, nd⟩
      obtain ⟨z, hz, ez⟩ := List.mem_map.mp hm
      have ez : z.p = p := ez
      by_cases g : z.p = x.p
      · have := w4.nd
        rw [List.map_append, List.map_cons, List.map_cons, List.cons_append, List.nodup_cons] at this
        exact this.1 (by rw [List.map_nil, List.cons_append]; exact List.mem_cons.mpr (.inl (by show p = x'.p; rw [← ez, g, hp])))
      · obtain ⟨m, hm2⟩ := List.getElem?_of_mem hz
        exact hpn (List.mem_map.mpr ⟨z, List.mem_eraseIdx_iff_getElem?.mpr ⟨m, fun e => g (by rw [e, hx] at hm2; cases hm2; rfl), hm2⟩, ez⟩)
theorem ev_neB {x y : Bool} (ha : EV K M ta σ B L rBool x L1) (hb : EV K M tb σ B L1 rBool y L2) : EV K M (tOp rNe ta tb) σ B L rBool (!decide (x = y)) L2 :=
  ev_op ha hb fun _ _ _ _ _ _ hx hy q => by
    have hx : _ = V.bl x := hx
    have hy : _ = V.bl y := hy
    subst hx hy
    exact ⟨rfl, q _ (by show V.bl _ = V.bl _; congr 1; simp)⟩
theorem ev_p3_0 {a : α × β × γ} (ha : EV K M ta σ B L (rT3 r s t) a L1) : EV K M (tOp (rIx K) ta (tC (.int 0))) σ B L r a.1 L1 := fun B1 H e w Q q =>
  ha B1 H e w _ fun x B2 H2 e2 w2 hx => by
    obtain ⟨p, x0, x1, x2, rfl, hs, h0, h1, h2⟩ := hx
    exact .inr (.inl ⟨p, _, 0, x0, rfl, rfl, ex_t w2.b hs, rfl, q _ B2 H2 e2 w2 h0⟩)
theorem ev_p3_1 {a : α × β × γ} (ha : EV K M ta σ B L (rT3 r s t) a L1) : EV K M (tOp (rIx K) ta (tC (.int 1))) σ B L s a.2.1 L1 := fun B1 H e w Q q =>
  ha B1 H e w _ fun x B2 H2 e2 w2 hx => by
    obtain ⟨p, x0, x1, x2, rfl, hs, h0, h1, h2⟩ := hx
    exact .inr (.inl ⟨p, _, 1, x1, rfl, rfl, ex_t w2.b hs, rfl, q _ B2 H2 e2 w2 h1⟩)
theorem ev_p3_2 {a : α × β × γ} (ha : EV K M ta σ B L (rT3 r s t) a L1) : EV K M (tOp (rIx K) ta (tC (.int 2))) σ B L t a.2.2 L1 := fun B1 H e w Q q =>
  ha B1 H e w _ fun x B2 H2 e2 w2 hx => by
    obtain ⟨p, x0, x1, x2, rfl, hs, h0, h1, h2⟩ := hx
    exact .inr (.inl ⟨p, _, 2, x2, rfl, rfl, ex_t w2.b hs, rfl, q _ B2 H2 e2 w2 h2⟩)
theorem q_rev {n m : Nat} {p : Addr} {as : List α} (w : Own K B M L H) (hs : σ[m]? = some (some (.ref p))) (hc : L[n]? = some ⟨p, cLst r, as⟩)
    (q : ∀ B' H', Ex B B' → Own K B' M (L.set n ⟨p, cLst r, as.reverse⟩) H' → tz D σ H') : tSeq (tDrop (tBM0 K "list" rReverse (tVar m))) tz D σ H := by
  obtain ⟨⟨o, h1, xs, h2, h3⟩, _⟩ := w.at hc
  have h1 : H p = some o := h1
  exact ⟨_, hs, .inl ⟨rfl, _, sq_of (by rw [h1, h2])⟩, p, xs, rfl, rfl, by rw [h1, h2], q B _ (Ex.refl _) (w.set hc ⟨_, rfl, paired_rev h3⟩)⟩
theorem af_cellS {n : Nat} {p : Addr} {r : Rep α} {xs : List α} {as as' : List Arg} (hc : L[n]? = some ⟨p, cLst r, xs⟩) (h : AF K M L as as') : AF K M L (⟨rRef, p⟩ :: as) (⟨rSeq r, xs⟩ :: as') := fun B H vs w g => by
  match vs, af_cell hc h B H vs w g with
  | _ :: _, ⟨g1, g2⟩ => exact ⟨rLst_seq g1, g2⟩
end
end L3

namespace L3
open PySem L2
open Evl (Ex ex_rd ex_l ex_t sq_of st_of fresh_back)
/-! ### a list of ours that may not be there yet -/
def optC {α : Type} (p : Addr) (r : Rep α) : Option (List α) → List Cell
  | none => []
  | some xs => [⟨p, cLst r, xs⟩]
def oV {α : Type} (p : Addr) : Option (List α) → V
  | none => .non
  | some _ => .ref p
section
variable {K : Fg} {M : Fr} {σ : St} {B B' H H' : Hp} {L L1 L2 L' : List Cell} {α β γ δ : Type} {r : Rep α} {s : Rep β} {t : Rep γ} {ta tb tc te : TE} {tt tu : TT} {tA : TA} {i j k : Int} {b c : Bool} {D : Ends} {tz t1 t2 : TS}
theorem Own.rot {x : Cell} (w : Own K B M (L ++ [x]) H) : Own K B M (x :: L) H := by
  refine w.perm (fun y hy => ?_) ?_
  · rcases List.mem_cons.mp hy with rfl | hy
    · exact List.mem_append_right _ (List.mem_singleton.mpr rfl)
    · exact List.mem_append_left _ hy
  · have := w.nd
    rw [List.map_append, List.map_singleton] at this
    rw [List.map_cons]
    exact (List.perm_append_singleton x.p (L.map (·.p))).nodup_iff.mp this
theorem Own.unrot {x : Cell} (w : Own K B M (x :: L) H) : Own K B M (L ++ [x]) H := by
  refine w.perm (fun y hy => ?_) ?_
  · rcases List.mem_append.mp hy with hy | hy
    · exact List.mem_cons_of_mem _ hy
    · rw [List.mem_singleton.mp hy]; exact List.mem_cons_self
  · have := w.nd
    rw [List.map_cons] at this
    rw [List.map_append, List.map_singleton]
    exact (List.perm_append_singleton x.p (L.map (·.p))).nodup_iff.mpr this
theorem et_isNO {n : Nat} {p : Addr} {o : Option (List α)} (hs : σ[n]? = some (some (oV p o))) : ET K M (tB (tIsN (tVar n))) σ B L o.isNone L := et_B fun B1 H e w Q q => by
  refine ⟨_, hs, q _ B1 H (Ex.refl _) w ?_⟩
  show V.bl _ = V.bl _
  cases o <;> rfl
theorem isNO_some {o : Option (List α)} (h : o.isNone = false) : ∃ y, o = some y := by
  cases o with
  | none => cases h
  | some y => exact ⟨y, rfl⟩
theorem isNO_none {o : Option (List α)} (h : o.isNone = true) : o = none := by
  cases o with
  | none => rfl
  | some y => cases h
theorem nts_app (h : NTs L) (h' : NTs L') : NTs (L ++ L') := fun y hy => (List.mem_append.mp hy).elim (h y) (h' y)
theorem nts_opt {p : Addr} {o : Option (List α)} : NTs (optC p r o) := by
  cases o with
  | none => exact nts_nil
  | some xs => exact nts_cons nt_lst nts_nil
theorem ev_lenT3 {a : α × β × γ} (ha : EV K M ta σ B L (rT3 r s t) a L1) : EV K M (tCB (rLen K) (tCons ta tNil)) σ B L rInt 3 L1 :=
  ev_cb1 ha fun B1 H1 x Q w hx q => by
    obtain ⟨p, u, v, z, rfl, hs, h1, h2, h3⟩ := hx
    exact ⟨p, _, rfl, .inr (ex_t w.b hs), q _ rfl⟩
theorem q_foldG {S Γ : Type} {wi : TI} {g : TG} {tb : TS} {xs : List α} (w : Own K B M L H) (hi : EI K M wi σ B L r xs L1) (f : S → α → Option S) (P : S → Γ → Hp → St → Prop) (Lf : S → Γ → List Cell) (s0 : S) (γ0 : Γ) {s1 : S} (hm : foldO f s0 xs = some s1)
    (h0 : ∀ B', Ex B B' → P s0 γ0 B' σ) (hL : Lf s0 γ0 = L1)
    (hs : ∀ s γ x s' v B0 B' H' σ', f s x = some s' → Ex B B0 → P s γ B0 σ' → Ex B0 B' → Own K B' M (Lf s γ) H' → r.is K B' v x → ∀ (N : St → Hp → Prop) (BK : St → Hp → Prop),
      (∀ γ3 B3 H3 σ3, Ex B' B3 → Own K B3 M (Lf s' γ3) H3 → P s' γ3 B3 σ3 → N σ3 H3) →
      g v σ' H' fun σ2 H2 => tb { D with nx := N, ct := N, bk := BK } σ2 H2)
    (hd : ∀ γ B' H' σ', Ex B B' → Own K B' M (Lf s1 γ) H' → P s1 γ B' σ' → tz D σ' H') : tSeq (tFor wi g tb) tz D σ H :=
  hi B H (Ex.refl _) w _ fun J B1 H1 e1 w1 k => by
    refine ⟨fun i m σ' H' => m = xs.length - i ∧ i ≤ xs.length ∧ ∃ s γ B', Ex B1 B' ∧ Own K B' M (Lf s γ) H' ∧ P s γ B' σ' ∧ foldO f s (xs.drop i) = some s1, ⟨xs.length, by simp, Nat.zero_le _, s0, γ0, B1, Ex.refl _, by rw [hL]; exact w1, h0 B1 e1, hm⟩, ?_⟩
    rintro i m σ' H' ⟨rfl, hle, s, γ, B', e', w', hP, hl⟩
    by_cases hlt : i < xs.length
    · right
      obtain ⟨a, ha⟩ : ∃ a, xs[i]? = some a := ⟨xs[i], List.getElem?_eq_getElem hlt⟩
      obtain ⟨hgo, hy⟩ := k.go i a B' _ H' e' w' ha
      obtain ⟨_, ha2⟩ := List.getElem?_eq_some_iff.mp ha
      rw [List.drop_eq_getElem_cons hlt, ha2] at hl
      unfold foldO at hl
      cases hst : f s a with
      | none => rw [hst] at hl; cases hl
      | some s' =>
        rw [hst] at hl
        refine ⟨hgo, fun σ3 H3 => ∃ γ3 B3, Ex B1 B3 ∧ Own K B3 M (Lf s' γ3) H3 ∧ P s' γ3 B3 σ3, fun σ3 H3 ⟨γ3, B3, a1, a2, a3⟩ => ?_, fun x H2 hy2 => ?_⟩
        · exact ⟨_, (by omega : xs.length - (i + 1) < xs.length - i), rfl, hlt, s', γ3, B3, a1, a2, a3, hl⟩
        · obtain ⟨B2, e2, w2, hr⟩ := hy x H2 hy2
          exact hs s γ a s' x B' B2 H2 σ' hst (e1.trans e') hP e2 w2 hr _ _ fun γ3 B3 H3 σ3 e4 w3 p3 => ⟨γ3, B3, (e'.trans e2).trans e4, w3, p3⟩
    · left
      have : i = xs.length := by omega
      subst this
      rw [List.drop_length] at hl
      have ho : s = s1 := Option.some.inj hl
      subst ho
      exact ⟨k.stop B' _ H' e' w', hd γ B' H' σ' (e1.trans e') w' hP⟩
end
end L3

namespace L3G
open PySem PySem.Spec PyProof.Rows L2
variable {X : Cx}
/-! ### enumerate of what is a list or a tuple -/
def iEnumS (K : PySem.W.Frag) (ta : TA) : TI := fun σ H R => ta σ H fun vs H1 => ∃ a xs, vs = [.ref a] ∧ ((SqL K H1 a xs ∧ R (Ite K a) H1) ∨ (SqT K H1 a xs ∧ R (IteT K a) H1))
theorem pi_enumS {X : Cx} {e : Expr} {ta : TA} {p pos tpos : Pos} {elts : List Expr} {kk : Nat} (hg : Gl X "enumerate") (hm : X.mg "enumerate" = none) (ha : PA X [e] ta) (hs : starEach [e] X.env = [(false, eval e X.env)] := by rfl) :
    PI X (.Tuple elts kk tpos) (.Call (.Name "enumerate" p) [e] [] pos) (iEnumS X.K ta) := by
  refine ⟨fun pins s σ H R I h => ?_⟩
  refine Call_ (ld_blt I hg hm boot_enumerate (PyProof.Rows.callWith_type1 (thn (ha.run pos pins s σ H _ I h) fun us s1 ⟨vs, H1, I1, r1, q1⟩ => ?_) hs rfl))
  obtain ⟨a, xs, ex, q1⟩ := q1
  subst ex
  cases r1 with
  | cons r rr =>
    cases rr
    cases r
    have hfp : ∀ b ∈ [s1.heap.objs.size + 1, s1.heap.objs.size], s1.heap.objs.size ≤ b := fun b hb => by
      have e' : b = s1.heap.objs.size + 1 ∨ b = s1.heap.objs.size := by simpa using hb
      rcases e' with z | z
      · rw [z]; exact Nat.le_add_right _ _
      · rw [z]; exact Nat.le_refl _
    rcases q1 with ⟨hq, q⟩ | ⟨hq, q⟩
    · obtain ⟨its, rv, p', hz⟩ := I1.list hq
      refine call_enumerate_list p'.isList fun h' he hit hsz hk => wpAny_pyIter_enum he ?_
      have I2 : Inv X pins σ H1 { s1 with heap := h' } := I1.kept (t' := s1.toks) hk
      exact ⟨s1.heap.objs.size + 1, [s1.heap.objs.size + 1, s1.heap.objs.size], _, _, H1, rfl, I2, turn_enum a (s1.heap.objs.size + 1) s1.heap.objs.size, ⟨⟨.none, he⟩, hit, Nat.succ_ne_self _⟩, fun b hb => I1.fpOk (hfp b hb) (I1.hok.fresh (hfp b hb)), q⟩
    · obtain ⟨its, rv, p', hz⟩ := I1.tuple hq
      refine call_enumT (show s1.heap.IsTuple a its.toArray from p') fun h' he hit hsz hk => wpAny_pyIter_enum he ?_
      have I2 : Inv X pins σ H1 { s1 with heap := h' } := I1.kept (t' := s1.toks) hk
      exact ⟨s1.heap.objs.size + 1, [s1.heap.objs.size + 1, s1.heap.objs.size], _, _, H1, rfl, I2, turn_enumT a (s1.heap.objs.size + 1) s1.heap.objs.size, ⟨⟨.none, he⟩, hit, Nat.succ_ne_self _⟩, fun b hb => I1.fpOk (hfp b hb) (I1.hok.fresh (hfp b hb)), q⟩
/-! ### a test that is one of two values -/
theorem pt_ifV {c a b : Expr} {tA : TT} {ta tb : TE} {pos : Pos} (hc : PT X c tA) (ha : PE X a ta) (hb : PE X b tb)
    (ea : ∀ whole, isTrue a X.env whole = (do let v ← whole; standAt a.pos; holding [v] (truthy v)) := by intro _; rfl)
    (eb : ∀ whole, isTrue b X.env whole = (do let v ← whole; standAt b.pos; holding [v] (truthy v)) := by intro _; rfl)
    (ei : ∀ whole, isTrue (.IfExp c a b pos) X.env whole = (do if ← isTrue c X.env (eval c X.env) then isTrue a X.env (eval a X.env) else isTrue b X.env (eval b X.env)) := by intro _; rfl) : PT X (.IfExp c a b pos) (tB (tIf tA ta tb)) := by
  refine ⟨fun pins s σ H Q I h => ?_⟩
  rw [ei]
  refine wpAny_bind (thn (hc.run pins s σ H _ I h) fun d s1 ⟨H1, I1, q1⟩ => ?_)
  cases d with
  | true => exact (pt_val ha ea).run pins s1 σ H1 Q I1 q1
  | false => exact (pt_val hb eb).run pins s1 σ H1 Q I1 q1
end L3G
namespace L3
open PySem L2
open Evl (Ex ex_rd ex_l ex_t sq_of st_of fresh_back)
section
variable {K : Fg} {M : Fr} {σ : St} {B B' H H' : Hp} {L L1 L2 L' : List Cell} {α β γ δ : Type} {r : Rep α} {s : Rep β} {t : Rep γ} {te : TE}
theorem ei_enumS {xs : List α} (h : EV K M te σ B L (rSeq r) xs L') : EI K M (L3G.iEnumS K (tCons te tNil)) σ B L (rT2 rInt r) (enumI 0 xs) L' := fun B1 H e w R q => h B1 H e w _ fun v B2 H2 e2 w2 hv => by
  obtain ⟨p, vs, rfl, hs, hp⟩ := hv
  rcases hs with hs | hs
  · refine ⟨p, vs, rfl, .inl ⟨ex_l w2.b hs, q _ B2 H2 e2 w2 ⟨fun i a B' L' H' e' w' hi => ?_, fun B' L' H' e' w' => ⟨vs, ex_l (e'.trans w'.b) hs, by rw [enumI_len, paired_len hp]; exact Nat.le_refl _⟩⟩⟩⟩
    obtain ⟨h1, h2⟩ := enumI_get hi
    obtain ⟨x, hx, hr⟩ := paired_get hp h2
    refine ⟨⟨vs, x, ex_l (e'.trans w'.b) hs, hx⟩, fun y H3 hy => ?_⟩
    obtain ⟨T, z, rfl, hT, rfl, hy⟩ := hy
    have := hy vs (ex_l (e'.trans w'.b) hs)
    rw [hx] at this
    cases this
    have eN := Ex.new (o := HO.tup [.int (i : Nat), x]) (fresh_back w'.b hT)
    exact ⟨upd B' T _, eN, w'.ext hT, ⟨T, _, _, rfl, st_of upd_same, by rw [h1]; show V.int _ = V.int _; congr 1; simp, r.mono (e'.trans eN) hr⟩⟩
  · refine ⟨p, vs, rfl, .inr ⟨ex_t w2.b hs, q _ B2 H2 e2 w2 ⟨fun i a B' L' H' e' w' hi => ?_, fun B' L' H' e' w' => ⟨vs, ex_t (e'.trans w'.b) hs, by rw [enumI_len, paired_len hp]; exact Nat.le_refl _⟩⟩⟩⟩
    obtain ⟨h1, h2⟩ := enumI_get hi
    obtain ⟨x, hx, hr⟩ := paired_get hp h2
    refine ⟨⟨vs, x, ex_t (e'.trans w'.b) hs, hx⟩, fun y H3 hy => ?_⟩
    obtain ⟨T, z, rfl, hT, rfl, hy⟩ := hy
    have := hy vs (ex_t (e'.trans w'.b) hs)
    rw [hx] at this
    cases this
    have eN := Ex.new (o := HO.tup [.int (i : Nat), x]) (fresh_back w'.b hT)
    exact ⟨upd B' T _, eN, w'.ext hT, ⟨T, _, _, rfl, st_of upd_same, by rw [h1]; show V.int _ = V.int _; congr 1; simp, r.mono (e'.trans eN) hr⟩⟩
end
end L3

namespace L3G
open PySem PySem.Spec PyProof.Rows L2 LamX NdefX
/-! ### a lambda with parameters, handed to a def that calls it -/
/-- its words, the cells it captured, its code -/
structure LF where
  qual : Str
  params : Arguments
  body : Expr
  scope : Scope
  cl : List (Str × Addr)
  c : Addr
abbrev LF.fd (F : LF) (pm ctv : Value) : FuncData := PySem.W.kla_fn "<lambda>" F.qual F.params F.body F.scope F.cl pm (.ref F.c) ctv
/-- as a def's words, for its frame -/
abbrev LF.nf (F : LF) : NF := ⟨"<lambda>", F.qual, F.params, [], F.scope, F.cl, F.c⟩
/-- the lambda's object is at f -/
def LamO (f : Addr) (F : LF) : HO := .ext fun h => ∃ (od : Option Addr) (sl : Array (Option Value)) (pm ctv : Value), h.get? f = some (⟨.type "function", od, .func (F.fd pm ctv), sl⟩ : Obj)
/-- the object ob is at c -/
def CelO (c : Addr) (ob : Obj) : HO := .ext fun h => h.get? c = some ob
def del (H : Hp) (c : Addr) : Hp := fun a => if a = c then none else H a
theorem del_same {H : Hp} {c : Addr} : del H c c = none := if_pos rfl
theorem del_ne {H : Hp} {c b : Addr} (h : b ≠ c) : del H c b = H b := if_neg h
theorem del_upd {H : Hp} {c : Addr} {o : HO} (h : H c = none) : del (upd H c o) c = H := by
  funext b
  by_cases e : b = c
  · rw [e, del_same, h]
  · rw [del_ne e, upd_ne e]
theorem celO_ne {c : Addr} {ob : Obj} : (∀ x, CelO c ob ≠ .own x) ∧ (∀ xs, CelO c ob ≠ .tup xs) ∧ (∀ o u, CelO c ob ≠ .frz o u) ∧ ∀ ps, CelO c ob ≠ .tbl ps :=
  ⟨(fun x e => by unfold CelO at e; cases e), (fun x e => by unfold CelO at e; cases e), (fun x y e => by unfold CelO at e; cases e), (fun x e => by unfold CelO at e; cases e)⟩
section
variable {P : Program} {w : World} {K : PySem.W.Frag} {mg : Str → Option Value} {base : Heap} {A : Around} {outer : List Env} {s s' : Shared} {H H' : Hp} {c : Addr} {ob : Obj} {h h' : Heap} {fs : List Addr}
/-- forgotten -/
theorem hok_del (k : HOk P w H h) (e : H c = some (CelO c ob)) : HOk P w (del H c) h := fun a o q => by
  have ne : a ≠ c := fun z => by rw [z, del_same] at q; cases q
  rw [del_ne ne] at q
  refine (k a o q).stay (fun _ _ _ z => z) (fun b z => ?_) fun b xs z => ?_
  · rw [del_ne (show b ≠ c from fun y => by rw [y, e] at z; exact celO_ne.1 a (Option.some.inj z))]; exact z
  · rw [del_ne (show b ≠ c from fun y => by rw [y, e] at z; exact celO_ne.2.1 xs (Option.some.inj z))]; exact z
/-- known again -/
theorem hok_cel (k : HOk P w H h) (n : H c = none) (e : h.get? c = some ob) : HOk P w (upd H c (CelO c ob)) h := fun a o q => by
  by_cases z : a = c
  · subst z
    rw [upd_same] at q
    cases q
    exact ⟨e, ⟨ob, e⟩, fun h1 h2 x st => st _ x⟩
  · rw [upd_ne z] at q
    refine (k a o q).stay (fun _ _ _ y => y) (fun b y => ?_) fun b xs y => ?_
    · rw [upd_ne (show b ≠ c from fun u => by rw [u, n] at y; cases y)]; exact y
    · rw [upd_ne (show b ≠ c from fun u => by rw [u, n] at y; cases y)]; exact y
theorem cel_at (k : HOk P w H h) (e : H c = some (CelO c ob)) : h.get? c = some ob := (k c _ e).1
theorem env0_del (e0 : Env0 P w K mg base A outer s H) (e : H c = some (CelO c ob)) : Env0 P w K mg base A outer s (del H c) := by
  have sub : ∀ b, H b = none → del H c b = none := fun b n => by
    by_cases z : b = c
    · rw [z]; exact del_same
    · rw [del_ne z]; exact n
  exact ⟨e0.frames, e0.mod, fun b o q => ⟨(e0.bs b o q).1, sub b (e0.bs b o q).2⟩, e0.bsz, e0.funs, fun b q => sub b (e0.frf b q), hok_del e0.hok e, e0.bare⟩
theorem env0_cel (e0 : Env0 P w K mg base A outer s H) (n : H c = none) (e : s.heap.get? c = some ob) (nb : base.get? c = none) (nf : c ∉ frs outer) : Env0 P w K mg base A outer s (upd H c (CelO c ob)) := by
  exact ⟨e0.frames, e0.mod, fun b o q => ⟨(e0.bs b o q).1, by rw [upd_ne (show b ≠ c from fun z => by rw [z, nb] at q; cases q)]; exact (e0.bs b o q).2⟩, e0.bsz, e0.funs, fun b q => by rw [upd_ne (show b ≠ c from fun z => nf (by rw [← z]; exact q))]; exact e0.frf b q, hok_cel e0.hok n e, e0.bare⟩
/-- a call made without c, seen by those who know it -/
theorem un_del (e : H c = some (CelO c ob)) (ho : h.get? c = some ob) (nf : c ∉ fs) (u : Un fs [] (del H c) H' h h') : h'.get? c = some ob ∧ H' c = none ∧ Un fs [] H (upd H' c (CelO c ob)) h h' := by
  have k1 := u.keep c ob ho del_same nf (by simp)
  have k2 := u.free c ob ho del_same (by simp)
  have ne : ∀ {b}, H b = none → b ≠ c := fun {b} n z => by rw [z, e] at n; cases n
  refine ⟨k1, k2, fun b o q n hf hx => u.keep b o q (by rw [del_ne (ne n)]; exact n) hf hx, fun b o q n hf hx => u.slot b o q (by rw [del_ne (ne n)]; exact n) hf hx, fun b o q n hx => by rw [upd_ne (ne n)]; exact u.free b o q (by rw [del_ne (ne n)]; exact n) hx, u.there, fun b xs q => ?_, fun b o v q => ?_, fun b ps q => ?_⟩
  · have z : b ≠ c := fun y => by rw [y, e] at q; exact celO_ne.2.1 xs (Option.some.inj q)
    rw [upd_ne z]; exact u.tups b xs (by rw [del_ne z]; exact q)
  · have z : b ≠ c := fun y => by rw [y, e] at q; exact celO_ne.2.2.1 o v (Option.some.inj q)
    rw [upd_ne z]; exact u.frzs b o v (by rw [del_ne z]; exact q)
  · have z : b ≠ c := fun y => by rw [y, e] at q; exact celO_ne.2.2.2 ps (Option.some.inj q)
    rw [upd_ne z]; exact u.tbls b ps (by rw [del_ne z]; exact q)
/-- a call made with c known, seen by those who do not -/
theorem un_cel (n : H c = none) (ho : h.get? c = some ob) (ho' : h'.get? c = some ob) (u : Un fs [] (upd H c (CelO c ob)) H' h h') : Un fs [] H (del H' c) h h' := by
  have nn : ∀ {b}, H b = none → b ≠ c → upd H c (CelO c ob) b = none := fun {b} q z => by rw [upd_ne z]; exact q
  have nc : ∀ {b o}, H b = some o → b ≠ c := fun {b o} q z => by rw [z, n] at q; cases q
  refine ⟨fun b o q m hf hx => ?_, fun b o q m hf hx => ?_, fun b o q m hx => ?_, u.there, fun b xs q => ?_, fun b o v q => ?_, fun b ps q => ?_⟩
  · by_cases z : b = c
    · subst z; rw [ho] at q; cases q; exact ho'
    · exact u.keep b o q (nn m z) hf hx
  · by_cases z : b = c
    · subst z; rw [ho] at q; cases q; exact ⟨ob.slots, ho'⟩
    · exact u.slot b o q (nn m z) hf hx
  · by_cases z : b = c
    · rw [z]; exact del_same
    · rw [del_ne z]; exact u.free b o q (nn m z) hx
  · rw [del_ne (nc q)]; exact u.tups b xs (by rw [upd_ne (nc q)]; exact q)
  · rw [del_ne (nc q)]; exact u.frzs b o v (by rw [upd_ne (nc q)]; exact q)
  · obtain ⟨more, z⟩ := u.tbls b ps (by rw [upd_ne (nc q)]; exact q)
    exact ⟨more, by rw [del_ne (nc q)]; exact z⟩
end
/-! ### the call -/
section
variable {P : Program} {w : World} {K : PySem.W.Frag} {mg : Str → Option Value} {base : Heap} {A : Around} {outer : List Env} {s : Shared} {H : Hp} {N ps fr : List Str} {F : LF} {f c : Addr} {ob : Obj} {k j i : Nat} {us : List Value} {vs : List V} {ws : List (Option V)} {Q : VK} {tb : TE} {sp : Sp}
theorem lam_run (S : NScope N ps fr F.scope) (hb : ∀ (pm ctv : Value) (us : List Value), us.length = ps.length → bindArgs (F.fd pm ctv) ⟨us, []⟩ = pure (ps.zip us)) (hr : Room (k + 1) A) (e0 : Env0 P w K mg base A outer s H)
    (hf : ∃ (od : Option Addr) (sl : Array (Option Value)) (pm ctv : Value), s.heap.get? f = some (⟨.type "function", od, .func (F.fd pm ctv), sl⟩ : Obj)) (hc : s.heap.CodeRec (.ref F.c) F.qual) (C : CellsAt F.cl fr ws s.heap H) (r : Vals vs us) (hl : vs.length = ps.length)
    (hbody : Room k (A.deeper (envF F.nf f s.heap.objs.size)) → PE (ncx CX0 P w K mg base N F.nf f A outer s H E0) F.body tb) (ht : tb (startF N vs ws) H Q) :
    codeAny (model P w) A (.call (.ref f) ⟨us, []⟩) (CR CX0 outer P w H s Q E0) s := by
  have noLim : s.heap.NoLimit := e0.mod.nolimit.keeps fun b ob q => (e0.bs b ob q).1
  obtain ⟨od, sl, pm, ctv, ho⟩ := hf
  refine PySem.W.kla_callFunE hr.depth ho rfl S.co S.gen rfl hc ?_
  rw [hb pm ctv us (by rw [← r.length, hl])]
  refine wpAny_pure (wpAny_newFunctionEnv S.nocell (fun ⟨y, _⟩ hy => S.par y (List.of_mem_zip hy).1) (fun g hns hsb => ⟨noLim.fresh _ hsb, ?_⟩) S.kind)
  have kept : ∀ b q, s.heap.get? b = some q → g.get? b = some q := fun b q e => hsb.extBut b q (Nat.ne_of_lt (Heap.lt_size e)) (Heap.get?_push_of_some _ e)
  have J : Inv (ncx CX0 P w K mg base N F.nf f A outer s H E0) [] (startF N vs ws) H { s with heap := g, toks := s.toks + (ps.zip us).length } := inv_startN S hr.hd e0 hl r C hns kept
  show codeAny _ _ (.expr F.body (envF F.nf f s.heap.objs.size)) _ _
  refine PySem.W.kla_codeExpr (wpAny_mono ((hbody (hr.deeper _)).run [] _ _ H Q J ht) (fun v s' hq => ?_) fun e s' hq => hq)
  obtain ⟨y, H', J', rv, q⟩ := hq
  exact ⟨y, H', J'.os, J'.bare, J'.base, J'.hok, rv, q⟩
/-- what a lambda that captured the one cell c promises -/
structure LOk (P : Program) (w : World) (K : PySem.W.Frag) (mg : Str → Option Value) (base : Heap) (k : Nat) (F : LF) (c : Addr) (ob : Obj) (sp : Sp) : Prop where
  ex : ∃ (N ps : List Str) (y : Str) (kv : V) (u : Value), NScope N ps [y] F.scope ∧ F.cl = [(y, c)] ∧ RelV kv u ∧ ob.data = .cell (some u) ∧ (∀ (pm ctv : Value) (us : List Value), us.length = ps.length → bindArgs (F.fd pm ctv) ⟨us, []⟩ = pure (ps.zip us)) ∧
    (∀ vs H Q E, sp vs H Q E → vs.length = ps.length) ∧ ∀ (f : Addr) (A : Around) (outer : List Env) (s : Shared) (H : Hp) (vs : List V) (Q : VK), Room k (A.deeper (envF F.nf f s.heap.objs.size)) → sp vs H Q E0 →
      ∃ tb, PE (ncx CX0 P w K mg base N F.nf f A outer s H E0) F.body tb ∧ tb (startF N vs [some kv]) H Q
/-- the i-th slot holds it: a call -/
def tLamL (i : Nat) (f : Addr) (F : LF) (c : Addr) (ob : Obj) (sp : Sp) (t : TA) : TE := fun σ H Q => σ[i]? = some (some (.ref f)) ∧ H f = some (LamO f F) ∧ t σ H fun vs H1 => H1 f = some (LamO f F) ∧ H1 F.c = some (CodeO F.c F.qual) ∧ H1 c = some (CelO c ob) ∧ sp vs (del H1 c) (fun v H2 => H2 c = none → Q v (upd H2 c (CelO c ob))) E0
end
section
variable {X : Cx} {F : LF} {f c : Addr} {ob : Obj} {k j i : Nat} {sp : Sp} {x : Str} {p pos : Pos} {e : Expr} {es : List Expr} {t : TA}
theorem pe_lamL (o : LOk X.prog X.w X.K X.mg X.base k F c ob sp) (hr : Room j X.A) (hk : k + 1 ≤ j) (hN : X.N[i]? = some x) (hv : Vis X.env.scope x) (ha : PA X (e :: es) t)
    (hdb : (x == ("__debug__" : Str)) = false := by decide) (hcd : (x == ("__classdict__" : Str)) = false := by decide)
    (he : starEach (e :: es) X.env = (false, eval e X.env) :: starEach es X.env := by rfl) (hpl : (backTo pos (starEach es X.env)).any (·.1) = false := by rfl) : PE X (.Call (.Name x p) (e :: es) [] pos) (tLamL i f F c ob sp t) := by
  obtain ⟨N, ps, y, kv, u, S, hcl, hu, hob, hb, len, body⟩ := o.ex
  refine ⟨fun pins s σ H Q I h => ?_⟩
  obtain ⟨hs, hf0, ht⟩ := h
  refine wpAny_Call_Name_kw (thn ((pe_var (pos := p) hN hv hdb hcd).run pins s σ H (fun v H1 => v = .ref f ∧ H1 = H) I ⟨.ref f, hs, rfl, rfl⟩) fun z s1 ⟨v, H1, I1, r1, q1⟩ => ?_)
  obtain ⟨rfl, rfl⟩ := q1
  cases r1
  obtain ⟨od0, sl0, pm0, ctv0, ho0⟩ := (I1.hok f _ hf0).1
  refine PySem.W.callWith_F (first := []) ⟨_, od0, _, sl0, ho0⟩ (thn (ha.run pos pins s1 σ _ _ I1 ht) fun us s2 ⟨vs, H2, I2, r, h1, h2, h3, q⟩ => ?_) he hpl
  have nf : c ∉ frs X.stack := fun z => by
    have := I2.env0.frf c z
    rw [h3] at this
    cases this
  obtain ⟨od, sl, pm, ctv, ho⟩ := (I2.hok f _ h1).1
  have hce := cel_at I2.hok h3
  obtain ⟨⟨oc, vv, tt, c1, c2, c3⟩, _, _⟩ := I2.hok F.c _ h2
  have lk : ∀ a b, F.cl.lookup a = some b → a = y ∧ b = c := fun a b z => by
    rw [hcl] at z
    unfold List.lookup at z
    split at z
    · rename_i g
      exact ⟨by simpa using g, (Option.some.inj z).symm⟩
    · cases z
  have cat : CellsAt F.cl [y] [some kv] s2.heap (del H2 c) := by
    refine ⟨rfl, fun a b z => ?_, fun a b d z1 z2 => (lk a d z1).1.trans (lk b d z2).1.symm, fun m a z => ?_⟩
    · rw [(lk a b z).2]
      exact ⟨del_same, some u, ob, hce, hob⟩
    · cases m with
      | succ m => simp at z
      | zero =>
        have z : y = a := by simpa using z
        subst z
        refine ⟨c, by rw [hcl]; simp [List.lookup], fun v hv => ?_⟩
        have hv : kv = v := by simpa using hv
        subst hv
        exact ⟨u, hu, ob, hce, hob⟩
  refine ⟨⟨_, od, _, sl, ho⟩, wpAny_call (codeAny_mono (lam_run (k := k) S hb (hr.mono hk) (env0_del I2.env0 h3) ⟨od, sl, pm, ctv, ho⟩ ⟨F.c, oc, vv, tt, rfl, c1, c2, c3⟩ cat r (len _ _ _ _ q) (fun hr2 => (body f _ _ _ _ _ _ hr2 q).choose_spec.1) (body f _ _ _ _ _ _ ((hr.mono hk).deeper _) q).choose_spec.2) fun r s' hq => ?_)⟩
  cases r with
  | error e => exact False.elim hq
  | ok fl =>
    cases fl with
    | next => exact False.elim hq
    | brk => exact False.elim hq
    | cont => exact False.elim hq
    | ret u' =>
      obtain ⟨v', H', os, bare, un, hok, rv, qq⟩ := hq
      obtain ⟨g1, g2, g3⟩ := un_del h3 hce nf un
      exact I2.after ⟨v', _, os, bare, g3, hok_cel hok g2 g1, rv, qq g2⟩
end
/-! ### the making -/
/-- H1 is H with the lambda F at f, its code at F.c, the table at P grown -/
structure LamMade (H H1 : Hp) (P : Addr) (q : Str) (f : Addr) (F : LF) : Prop where
  tab : ∃ ps ps1 : Array Value, H P = some (.tbl ps) ∧ H1 P = some (.tbl ps1) ∧ TriplesOk ps1.toList ∧ (∀ (pos : Pos) (cv : Value), codeAmong pos ps1.toList = some cv → codeAmong pos ps.toList = some cv ∨ cv = .ref F.c) ∧ (H F.c = none ∨ ∃ pos, codeAmong pos ps.toList = some (.ref F.c))
  new : H f = none
  obj : H1 f = some (LamO f F)
  code : H1 F.c = some (CodeO F.c q)
  nP : f ≠ P ∧ F.c ≠ P ∧ f ≠ F.c
  else_ : ∀ b, b ≠ P → b ≠ f → b ≠ F.c → H1 b = H b
section
variable {X : Cx} {pins : List (Addr × Obj)} {σ : L2.St} {H : Hp} {s : Shared}
theorem inv_lam {F : LF} {t' : Nat} {pm ctv : Value} {o : Obj} (I : Inv X pins σ H s) (ho : o = { cls := .type "function", data := .func (F.fd pm ctv) }) :
    Inv X pins σ (upd H s.heap.objs.size (LamO s.heap.objs.size F)) { s with heap := s.heap.push o, toks := t' } := by
  subst ho
  have e : (s.heap.push ({ cls := .type "function", data := .func (F.fd pm ctv) } : Obj)).get? s.heap.objs.size = some ({ cls := .type "function", data := .func (F.fd pm ctv) } : Obj) := Heap.get?_push_size _ rfl
  exact I.laid (a := s.heap.objs.size) (fun b u z => Heap.get?_push_of_some _ z) (Nat.le_refl _) ⟨⟨_, _, pm, ctv, e⟩, ⟨_, e⟩, fun h1 h2 ⟨od, sl, p, t, z⟩ st => ⟨od, sl, p, t, st _ z⟩⟩
theorem lam_mk {c P : Addr} {params : Arguments} {body : Expr} {scope : Scope} {pos : Pos} {E : Value → Shared → Prop} {Q : Value → Shared → Prop} (I : Inv X pins σ H s) (TB : TabB X.base X.mg c P) (hcode : X.env.code = .ref c)
    (hT : TabS H P (X.env.qual ++ "<lambda>")) (hdef : defaultsOf params X.env = ([], [])) (hfree : ∀ y ∈ scope.names, y.2 = .free → ∃ c, X.env.cells.lookup y.1 = some c)
    (h : ∀ (f c' : Addr) (H1 : Hp) (s' : Shared), Inv X pins σ H1 s' → LamMade H H1 P (X.env.qual ++ "<lambda>") f ⟨X.env.qual ++ "<lambda>", params, body, scope, cloFrom X.env.cells scope.names [], c'⟩ → Q (.ref f) s') :
    wpAny (model X.prog X.w) X.A (eval (.Lambda params body scope pos) X.env) Q E s := by
  obtain ⟨tb, hP, ht, ha⟩ := hT
  have hb : s.heap.BuiltinsAt X.mg P := TB.bm.keeps I.bk
  have hP2 : s.heap.get? P = some { cls := .none, data := .fields tb } := I.hok P _ hP
  refine PySem.W.kla_eval hdef ?_
  cases hc : codeAmong pos tb.toList with
  | some cv =>
    obtain ⟨c', rfl, hco⟩ := ha pos cv hc
    refine PySem.W.kla_makeFunctionHit (mg := X.mg) (c := c) (P := P) (ps := tb) (closure_ok hfree) I.ok.glob (I.mod.glob.keeps I.bk) hcode (TB.code.keeps I.bk) hP2 ht hc hb fun ctv g tk k1 k2 => ?_
    have I1 : Inv X pins σ H { s with heap := g, toks := tk } := I.kept fun b o e => k1 b o e
    have I2 := inv_lam (F := ⟨X.env.qual ++ "<lambda>", params, body, scope, cloFrom X.env.cells scope.names [], c'⟩) (t' := tk) (pm := (X.mg "__name__").getD .none) (ctv := ctv) I1 rfl
    have nF : H g.objs.size = none := I.hok.fresh k2
    have n1 : c' ≠ g.objs.size := fun z => by rw [z, nF] at hco; cases hco
    have n2 : P ≠ g.objs.size := fun z => by rw [z, nF] at hP; cases hP
    refine h _ c' _ _ I2 ⟨⟨tb, tb, hP, (upd_ne n2).trans hP, ht, fun p v z => .inl z, .inr ⟨pos, hc⟩⟩, nF, upd_same, (upd_ne n1).trans hco, ⟨n2.symm, fun z => ?_, n1.symm⟩, fun b _ b2 _ => upd_ne b2⟩
    · have z : c' = P := z
      rw [z, hP] at hco
      exact codeO_ne tb (Option.some.inj hco).symm
  | none =>
    refine PySem.W.kla_makeFunction (mg := X.mg) (c := c) (P := P) (ps := tb) (closure_ok hfree) I.ok.glob (I.mod.glob.keeps I.bk) hcode (TB.code.keeps I.bk) hP2 ht hc TB.gP hb fun c' ctv g tk hx hge hlt hrec htb => ?_
    obtain ⟨c2, oc, vs, t, e2, k1, k2, k3⟩ := hrec
    cases e2
    have nC : H c' = none := I.hok.fresh hge
    have I1 := inv_table (t' := tk) (more := #[rawInt pos.line, rawInt pos.col, .ref c']) (h' := g) I hP (fun b o y z => hx b o y z) htb hge ⟨oc, vs, t, k1, k2, k3⟩
    have I2 := inv_lam (F := ⟨X.env.qual ++ "<lambda>", params, body, scope, cloFrom X.env.cells scope.names [], c'⟩) (t' := tk) (pm := (X.mg "__name__").getD .none) (ctv := ctv) I1 rfl
    have nPc : P ≠ c' := ne_of_none hP nC
    have nf : g.objs.size ≠ c' := Nat.ne_of_gt hlt
    have nfP : g.objs.size ≠ P := Nat.ne_of_gt (Nat.lt_of_lt_of_le (Heap.lt_size hP2) (Nat.le_trans hge (Nat.le_of_lt hlt)))
    have eL : (tb ++ #[rawInt pos.line, rawInt pos.col, Value.ref c']).toList = tb.toList ++ [rawInt pos.line, rawInt pos.col, .ref c'] := by simp
    refine h _ c' _ _ I2 ⟨⟨tb, _, hP, (upd_ne nfP.symm).trans ((upd_ne nPc).trans upd_same), by rw [eL]; exact PySem.TriplesOk_snoc _ _ _ _ ht, fun p v z => ?_, .inl nC⟩, I.hok.fresh (Nat.le_trans hge (Nat.le_of_lt hlt)), upd_same, (upd_ne nf.symm).trans upd_same, ⟨nfP, nPc.symm, nf⟩, fun b b1 b2 b3 => (upd_ne b2).trans ((upd_ne b3).trans (upd_ne b1))⟩
    rw [eL] at z
    exact among_app _ ht z
end
/-! ### x(.., lambda ..): the captured cell is known to the def that is called -/
def cyOf (X : Cx) (y : Str) : Addr := (X.env.cells.lookup y).getD 0
/-- the lambda as a value -/
def tLam (P : Addr) (q : Str) (params : Arguments) (body : Expr) (scope : Scope) (y : Str) (cy : Addr) : TE := fun σ H Q => TabS H P q ∧ ∀ f c' H1, LamMade H H1 P q f ⟨q, params, body, scope, [(y, cy)], c'⟩ → Q (.ref f) H1
/-- the call -/
def tCallK (j : Nat) (cy : Addr) (sp : Sp) (t : TA) : TE := fun σ H Q => t σ H fun vs H1 => ∃ kv, σ[j]? = some (some kv) ∧ ∀ (ob : Obj) (u : Value), RelV kv u → ob.data = .cell (some u) → H1 cy = none → sp vs (upd H1 cy (CelO cy ob)) (fun v H2 => H2 cy = some (CelO cy ob) ∧ Q v (del H2 cy)) E0
section
variable {X : Cx} {params : Arguments} {body : Expr} {scope : Scope} {y x : Str} {c P f : Addr} {j k : Nat} {fd : FuncData} {ps : List Str} {sp : Sp} {p pos lpos : Pos} {e : Expr} {es : List Expr} {t : TA}
theorem pe_lam (TB : TabB X.base X.mg c P) (hcode : X.env.code = .ref c) (L : ∀ y ∈ scope.names, y.2 = .free → X.env.scope.names.lookup y.1 = some .cell ∨ X.env.scope.names.lookup y.1 = some .free) (hcl : ∀ cells, cloFrom cells scope.names [] = [(y, (cells.lookup y).getD 0)]) (hdef : defaultsOf params X.env = ([], []) := by rfl) :
    PE X (.Lambda params body scope lpos) (tLam P (X.env.qual ++ "<lambda>") params body scope y (cyOf X y)) := by
  refine ⟨fun pins s σ H Q I h => ?_⟩
  refine lam_mk I TB hcode h.1 hdef (fun z hz hf => (L z hz hf).elim (fun q => I.ok.has _ (.inl q)) fun q => I.ok.has _ (.inr q)) fun f c' H1 s' I' m => ?_
  rw [hcl] at m
  exact ⟨.ref f, H1, I', rfl, h.2 f c' H1 m⟩
theorem pe_callK (F : FnOk X.prog X.w X.K X.mg X.base CX0 k f fd ps sp) (hr : Room k X.A) (hg : Gl X x) (hm : X.mg x = some (.ref f)) (hk : PySem.W.keepIn X.K (.ref f) = true) (hb : Binds X.K fd ps []) (hy : X.N[j]? = some y) (hyc : X.env.scope.names.lookup y = some .cell) (hfn : X.fn y = true)
    (ha : PA X (e :: es) t) (hdb : (x == ("__debug__" : Str)) = false := by decide) (he : starEach (e :: es) X.env = (false, eval e X.env) :: starEach es X.env := by rfl) (hpl : (backTo pos (starEach es X.env)).any (·.1) = false := by rfl) :
    PE X (.Call (.Name x p) (e :: es) [] pos) (tCallK j (cyOf X y) sp t) := by
  refine ⟨fun pins s σ H Q I h => ?_⟩
  refine wpAny_Call_Name_kw (ld_glob I hg hm ?_ hdb)
  refine PySem.W.callWith_K (h₀ := X.base) I.ok.mod.kin hk (thn (ha.run pos pins s σ H _ I h) fun us s1 ⟨vs, H1, I1, r, kv, hs, q⟩ => ⟨I1.kIn, ?_⟩) he hpl
  obtain ⟨m, hn, hl⟩ := I1.loc
  obtain ⟨u, ru, lk⟩ := hl j y kv hy hs (.inr (.inl hyc))
  rcases lk with ⟨z, _⟩ | ⟨_, cc, hcc, ob, ho, hd⟩
  · have z : X.env.scope.names.lookup y = some .local := z
    rw [hyc] at z
    cases z
  have ecy : cyOf X y = cc := by
    unfold cyOf
    rw [hcc]
    rfl
  rw [ecy] at q
  have nH : H1 cc = none := I1.freeC y cc hcc
  have lo : X.s_0.heap.objs.size ≤ cc := I1.ok.cab y cc hfn hcc
  have nb : X.base.get? cc = none := by
    cases z : X.base.get? cc with
    | none => rfl
    | some o => exact absurd (Heap.lt_size z) (Nat.not_lt.mpr (Nat.le_trans I1.ok.bsz lo))
  have nf : cc ∉ frs X.stack := fun z => by
    rcases List.mem_cons.mp (I1.stkSub cc z) with g | g
    · obtain ⟨o, es', ep, h1, h2, _⟩ := hn
      rw [← g, ho] at h1
      cases h1
      rw [hd] at h2
      cases h2
    · obtain ⟨_, o, h1, _⟩ := I1.ok.funs.mem g
      exact absurd (Heap.lt_size h1) (Nat.not_lt.mpr lo)
  have q := q ob u ru hd nH
  refine wpAny_call (codeAny_mono (F.run X.A X.stack s1 _ ⟨us, []⟩ us vs _ E0 hr (env0_cel I1.env0 nH ho nb nf) ?_ r q) fun r' s' hq => ?_)
  · have := hb s1 us I1.kIn (by rw [List.append_nil, ← r.length]; exact F.len _ _ _ _ q)
    rw [List.append_nil] at this
    exact this
  · cases r' with
    | error e => exact False.elim hq
    | ok fl =>
      cases fl with
      | next => exact False.elim hq
      | brk => exact False.elim hq
      | cont => exact False.elim hq
      | ret u' =>
        obtain ⟨v', H', os, bare, un, hok, rv, hcel, qq⟩ := hq
        exact I1.after ⟨v', _, os, bare, un_cel nH ho (cel_at hok hcel) un, hok_del hok hcel, rv, qq⟩
end
end L3G

namespace L3
open PySem L2
open Evl (Ex ex_rd ex_l ex_t sq_of st_of fresh_back)
open L3G (LamO CelO del LF LamMade LOk tLam tCallK tLamL del_same del_ne del_upd)
open LamX (CodeO TabS)
/-! ### a lambda handed to a def, over what is ours -/
/-- the table of the code of the def that makes it: every code object in it has the name q -/
def cTab (q : Str) : CRep Unit := ⟨fun _ B o _ => ∃ ps : Array Value, o = .tbl ps ∧ TriplesOk ps.toList ∧ ∀ (pos : Pos) (cv : Value), codeAmong pos ps.toList = some cv → ∃ c, cv = .ref c ∧ B c = some (CodeO c q), fun e ⟨ps, h1, h2, h3⟩ => ⟨ps, h1, h2, fun pos cv z => by
  obtain ⟨c, e1, e2⟩ := h3 pos cv z
  exact ⟨c, e1, e _ _ e2⟩⟩⟩
/-- the lambda as a value -/
def rLam (q : Str) (params : Arguments) (body : Expr) (scope : Scope) (y : Str) (cy : Addr) : Rep Unit := ⟨fun _ B v _ => ∃ f c', v = .ref f ∧ B f = some (LamO f ⟨q, params, body, scope, [(y, cy)], c'⟩) ∧ B c' = some (CodeO c' q), fun e ⟨f, c', h1, h2, h3⟩ => ⟨f, c', h1, e _ _ h2, e _ _ h3⟩⟩
section
variable {K : Fg} {M : Fr} {σ : St} {B B' B0 H H' H1 : Hp} {L L1 L2 L' : List Cell} {α β γ δ : Type} {r : Rep α} {s : Rep β} {ta tb tc te : TE} {tA : TA} {i j k : Int} {cy P f : Addr} {ob : Obj} {o : HO} {q : Str} {params : Arguments} {body : Expr} {scope : Scope} {y : Str}
/-- without the known cell -/
def Fr.del (M : Fr) (c : Addr) : Fr := ⟨L3G.del M.h c, M.T⟩
def Fr.put (M : Fr) (c : Addr) (o : HO) : Fr := ⟨upd M.h c o, M.T⟩
theorem Own.del (w : Own K B M L H) (hm : M cy = some o) : Own K B (M.del cy) L (L3G.del H cy) := by
  have hB : B cy = none := (w.bm cy).elim id fun z => by rw [hm] at z; cases z
  have nT : ∀ Q ∈ M.T, Q ≠ cy := fun Q hQ z => by
    have := (w.t Q hQ).2.2.1
    rw [z, hm] at this
    cases this
  have nL : ∀ x ∈ L, x.p ≠ cy := fun x hx z => by
    have := (w.l x hx).2.2
    rw [z, hm] at this
    cases this
  refine ⟨fun b u e => ?_, fun b u e => ?_, fun b => ?_, fun x hx => ?_, w.nd, fun Q hQ => ?_⟩
  · rw [del_ne (show b ≠ cy from fun z => by rw [z, hB] at e; cases e)]
    exact w.b b u e
  · have nb : b ≠ cy := fun z => by
      have e : L3G.del M.h cy b = some u := e
      rw [z, del_same] at e
      cases e
    have e : L3G.del M.h cy b = some u := e
    rw [del_ne nb] at e ⊢
    exact w.m b u e
  · rcases w.bm b with z | z
    · exact .inl z
    · right
      show L3G.del M.h cy b = none
      by_cases g : b = cy
      · rw [g, del_same]
      · rw [del_ne g]; exact z
  · obtain ⟨⟨u, h1, h2⟩, h3, h4⟩ := w.l x hx
    exact ⟨⟨u, by rw [del_ne (nL x hx)]; exact h1, h2⟩, h3, (del_ne (nL x hx)).trans h4⟩
  · obtain ⟨⟨ps, h1, h2⟩, h3, h4, h5⟩ := w.t Q hQ
    exact ⟨⟨ps, (del_ne (nT Q hQ)).trans h1, h2⟩, h3, (del_ne (nT Q hQ)).trans h4, h5⟩
theorem Own.undel (w : Own K B (M.del cy) L H) (n : H cy = none) (hm : M cy = some o) : Own K B M L (upd H cy o) := by
  have hB : B cy = none := fresh_back w.b n
  have ne : ∀ {b u}, H b = some u → b ≠ cy := fun {b u} e z => by rw [z, n] at e; cases e
  refine ⟨fun b u e => ?_, fun b u e => ?_, fun b => ?_, fun x hx => ?_, w.nd, fun Q hQ => ?_⟩
  · rw [upd_ne (ne (w.b b u e))]
    exact w.b b u e
  · by_cases z : b = cy
    · rw [z] at e ⊢
      rw [show (M.h cy) = some o from hm] at e
      rw [upd_same]; exact e
    · rw [upd_ne z]
      exact w.m b u ((del_ne z).trans e)
  · by_cases z : b = cy
    · rw [z]; exact .inl hB
    · exact (w.bm b).imp id fun g => (del_ne z).symm.trans g
  · obtain ⟨⟨u, h1, h2⟩, h3, h4⟩ := w.l x hx
    exact ⟨⟨u, by rw [upd_ne (ne h1)]; exact h1, h2⟩, h3, (del_ne (ne h1)).symm.trans h4⟩
  · obtain ⟨⟨ps, h1, h2⟩, h3, h4, h5⟩ := w.t Q hQ
    exact ⟨⟨ps, (upd_ne (ne h1)).trans h1, h2⟩, h3, (del_ne (ne h1)).symm.trans h4, h5⟩
theorem Own.addM (w : Own K B M L H) (n : H cy = none) : Own K B (M.put cy o) L (upd H cy o) := by
  have hB : B cy = none := fresh_back w.b n
  have ne : ∀ {b u}, H b = some u → b ≠ cy := fun {b u} e z => by rw [z, n] at e; cases e
  refine ⟨fun b u e => ?_, fun b u e => ?_, fun b => ?_, fun x hx => ?_, w.nd, fun Q hQ => ?_⟩
  · rw [upd_ne (ne (w.b b u e))]
    exact w.b b u e
  · have e : upd M.h cy o b = some u := e
    by_cases z : b = cy
    · rw [z, upd_same] at e ⊢; exact e
    · rw [upd_ne z] at e ⊢; exact w.m b u e
  · by_cases z : b = cy
    · rw [z]; exact .inl hB
    · exact (w.bm b).imp id fun g => (upd_ne z).trans g
  · obtain ⟨⟨u, h1, h2⟩, h3, h4⟩ := w.l x hx
    exact ⟨⟨u, by rw [upd_ne (ne h1)]; exact h1, h2⟩, h3, (upd_ne (ne h1)).trans h4⟩
  · obtain ⟨⟨ps, h1, h2⟩, h3, h4, h5⟩ := w.t Q hQ
    exact ⟨⟨ps, (upd_ne (ne h1)).trans h1, h2⟩, h3, (upd_ne (ne h1)).trans h4, h5⟩
theorem Fr.put_del (n : M cy = none) : (M.put cy o).del cy = M := by
  unfold Fr.put Fr.del
  rw [show L3G.del (upd M.h cy o) cy = M.h from del_upd n]
/-- the lambda is made -/
theorem ev_lam {n : Nat} (hc : L[n]? = some ⟨P, cTab q, ()⟩) : EV K M (tLam P q params body scope y cy) σ B L (rLam q params body scope y cy) () L := fun B1 H e w Q k => by
  obtain ⟨⟨o', g1, ps, rfl, g2, g3⟩, bP, mP⟩ := w.at hc
  have g1 : H P = some (.tbl ps) := g1
  refine ⟨⟨ps, g1, g2, fun pos cv z => ?_⟩, fun f c' H1 m => ?_⟩
  · obtain ⟨c, e1, e2⟩ := g3 pos cv z
    exact ⟨c, e1, w.b _ _ e2⟩
  · obtain ⟨⟨ps', ps1, t1, t2, t3, t4, t5⟩, nf, of, oc, ⟨n1, n2, n3⟩, el⟩ := m
    rw [g1] at t1
    cases t1
    replace n2 : c' ≠ P := n2
    replace n3 : f ≠ c' := n3
    replace oc : H1 c' = some (CodeO c' q) := oc
    replace el : ∀ b, b ≠ P → b ≠ f → b ≠ c' → H1 b = H b := el
    replace t4 : ∀ (pos : Pos) (cv : Value), codeAmong pos ps1.toList = some cv → codeAmong pos ps.toList = some cv ∨ cv = .ref c' := t4
    have bc : B1 c' = some (CodeO c' q) ∨ H c' = none := by
      rcases t5 with z | ⟨pos, z⟩
      · exact .inr z
      · obtain ⟨c, e1, e2⟩ := g3 pos _ z
        cases e1
        exact .inl e2
    have bf : B1 f = none := fresh_back w.b nf
    have mf : M f = none := fresh_back w.m nf
    have mc : M c' = none := bc.elim (fun z => (w.bm c').elim (fun y => by rw [z] at y; cases y) id) fun z => fresh_back w.m z
    have e0 : Ex B1 (upd (upd B1 c' (CodeO c' q)) f (LamO f ⟨q, params, body, scope, [(y, cy)], c'⟩)) := fun b u z => by
      rw [upd_ne (show b ≠ f from fun g => by rw [g, bf] at z; cases z)]
      by_cases g : b = c'
      · rw [g, upd_same]
        rcases bc with h | h
        · rw [g, h] at z; exact z
        · rw [g, fresh_back w.b h] at z; cases z
      · rw [upd_ne g]; exact z
    have nx : ∀ x ∈ L, x.p ≠ P → x.p ≠ f ∧ x.p ≠ c' := fun x hx hp => by
      obtain ⟨⟨u, h1, _⟩, h3, _⟩ := w.l x hx
      refine ⟨(fun z => by rw [z, nf] at h1; cases h1), fun z => ?_⟩
      rcases bc with h | h
      · rw [z, h] at h3; cases h3
      · rw [z, h] at h1; cases h1
    have own : Own K (upd (upd B1 c' (CodeO c' q)) f (LamO f ⟨q, params, body, scope, [(y, cy)], c'⟩)) M L H1 := by
      refine ⟨fun b u z => ?_, fun b u z => ?_, fun b => ?_, fun x hx => ?_, w.nd, fun T hT => ?_⟩
      · by_cases b1 : b = f
        · rw [b1, upd_same] at z; rw [b1]; exact of.trans z
        · rw [upd_ne b1] at z
          by_cases b2 : b = c'
          · rw [b2, upd_same] at z; rw [b2]; exact oc.trans z
          · rw [upd_ne b2] at z
            have b3 : b ≠ P := fun g => by
              rw [g] at z
              have bP : B1 P = none := bP
              rw [bP] at z; cases z
            rw [el b b3 b1 b2]
            exact w.b b u z
      · have b1 : b ≠ f := fun g => by rw [g] at z; rw [show M.h f = none from mf] at z; cases z
        have b2 : b ≠ c' := fun g => by rw [g] at z; rw [show M.h c' = none from mc] at z; cases z
        have b3 : b ≠ P := fun g => by rw [g] at z; rw [show M.h P = none from mP] at z; cases z
        rw [el b b3 b1 b2]
        exact w.m b u z
      · by_cases b1 : b = f
        · right; rw [b1]; exact mf
        · by_cases b2 : b = c'
          · right; rw [b2]; exact mc
          · rw [upd_ne b1, upd_ne b2]; exact w.bm b
      · obtain ⟨⟨u, h1, h2⟩, h3, h4⟩ := w.l x hx
        by_cases hp : x.p = P
        · obtain ⟨j, hj⟩ := List.getElem?_of_mem hx
          have ej : j = n := nodup_at w.nd (by rw [List.getElem?_map, hj]; rfl) (by rw [List.getElem?_map, hc]; exact congrArg some hp.symm)
          rw [ej, hc] at hj
          cases hj
          refine ⟨⟨.tbl ps1, t2, ps1, rfl, t3, fun pos cv z => ?_⟩, ?_, h4⟩
          · rcases t4 pos cv z with g | g
            · obtain ⟨c, e1, e2⟩ := g3 pos cv g
              exact ⟨c, e1, e0 _ _ e2⟩
            · exact ⟨c', g, (upd_ne n3.symm).trans upd_same⟩
          · show upd _ f _ P = none
            rw [upd_ne n1.symm, upd_ne n2.symm]; exact bP
        · obtain ⟨x1, x2⟩ := nx x hx hp
          refine ⟨⟨u, by rw [el x.p hp x1 x2]; exact h1, x.c.mono e0 h2⟩, ?_, h4⟩
          rw [upd_ne x1, upd_ne x2]; exact h3
      · obtain ⟨⟨ts, h1, h2⟩, h3, h4, h5⟩ := w.t T hT
        have b3 : T ≠ P := fun g => h5 (by rw [g]; exact List.mem_map.mpr ⟨_, List.mem_of_getElem? hc, rfl⟩)
        have b1 : T ≠ f := fun g => by rw [g, nf] at h1; cases h1
        have b2 : T ≠ c' := fun g => by
          rcases bc with h | h
          · rw [g, h] at h3; cases h3
          · rw [g, h] at h1; cases h1
        exact ⟨⟨ts, (el T b3 b1 b2).trans h1, h2⟩, (upd_ne b1).trans ((upd_ne b2).trans h3), h4, h5⟩
    exact k _ _ _ e0 own ⟨f, c', rfl, upd_same, (upd_ne n3.symm).trans upd_same⟩
theorem nt_tab : NT (cTab q) := ⟨fun ⟨ps, h, _⟩ => by subst h; trivial⟩
/-! ### promises -/
/-- of a lambda that captured something told over B0 -/
def spVB (K : Fg) (T : List Addr) (B0 : Hp) (C : List Arg → List Cell → Arg → List Cell → Prop) : Sp := fun vs H Q _ => ∃ B M L as r L', Ex B0 B ∧ M.T = T ∧ Own K B M L H ∧ ArgsIs K B vs as ∧ C as L r L' ∧
  ∀ v B' H', Ex B B' → Own K B' M L' H' → r.is K B' v → Q v H'
/-- of a def that gets the lambda last -/
def spL {β : Type} (P : Program) (w : World) (mg : Str → Option Value) (base : Heap) (k : Nat) (K : Fg) (T : List Addr) (q : Str) (params : Arguments) (body : Expr) (scope : Scope) (y : Str) (CL C : β → List Arg → List Cell → Arg → List Cell → Prop) : Sp := fun vs H Q _ => ∃ B M L as r L' cy ob kn B0,
  Ex B0 B ∧ M.T = T ∧ M cy = some (CelO cy ob) ∧ (∀ c', LOk P w K mg base k ⟨q, params, body, scope, [(y, cy)], c'⟩ cy ob (spVB K T B0 (CL kn))) ∧ Own K B M L H ∧ ArgsIs K B vs (as ++ [⟨rLam q params body scope y cy, ()⟩]) ∧ C kn as L r L' ∧
  ∀ v B' H', Ex B B' → Own K B' M L' H' → r.is K B' v → Q v H'
/-- the lambda is called -/
theorem ev_lamL {n : Nat} {CL : List Arg → List Cell → Arg → List Cell → Prop} {as as' : List Arg} {a : α} {c' : Addr} (hs : σ[n]? = some (some (.ref f))) (hM : M cy = some (CelO cy ob)) (hf : B f = some (LamO f ⟨q, params, body, scope, [(y, cy)], c'⟩)) (hc : B c' = some (CodeO c' q)) (hB : Ex B0 B)
    (ha : EA K M tA σ B L as L1) (hz : AF K M L1 as as') (hn : NTs L1) (hr : TO r) (h : CL as' [] ⟨r, a⟩ []) : EV K M (tLamL n f ⟨q, params, body, scope, [(y, cy)], c'⟩ cy ob (spVB K M.T B0 CL) tA) σ B L r a L1 := fun B1 H e w Q k =>
  ⟨hs, w.b _ _ (e _ _ hf), ha B1 H e w _ fun vs B2 H2 e2 w2 hv => ⟨w2.b _ _ (e2 _ _ (e _ _ hf)), w2.b _ _ (e2 _ _ (e _ _ hc)), w2.m _ _ hM, by
    refine ⟨frz B2 L1 H2, M.del cy, [], as', ⟨r, a⟩, [], ((hB.trans e).trans e2).trans (ex_frz w2), rfl, w2.frzAll.del hM, hz B2 H2 vs w2 hv, h, fun v B' H' e3 w3 hr3 nn => ?_⟩
    obtain ⟨e4, w4⟩ := w2.unfrz e3 (w3.undel nn hM)
    refine k v _ _ (e2.trans e4) w4 (hr.to (fun p hp => ?_) hr3)
    obtain ⟨x, hx, rfl⟩ := List.mem_map.mp hp
    obtain ⟨⟨o, h1, h2⟩, _⟩ := w2.l x hx
    exact ⟨o, e3 _ _ (by unfold frz; rw [if_pos hp, h1]), (hn x hx).nt h2⟩⟩⟩
/-- it is handed over -/
theorem ev_callK {β : Type} {P' : Program} {w' : World} {mg : Str → Option Value} {base : Heap} {kk n : Nat} {CL C : β → List Arg → List Cell → Arg → List Cell → Prop} {kn : β} {kv : V} {as as' : List Arg} {a : α} (hs : σ[n]? = some (some kv))
    (hl : ∀ ob u, RelV kv u → ob.data = .cell (some u) → ∀ c', LOk P' w' K mg base kk ⟨q, params, body, scope, [(y, cy)], c'⟩ cy ob (spVB K M.T B (CL kn)))
    (ha : EA K M tA σ B L (as ++ [⟨rLam q params body scope y cy, ()⟩]) L1) (hz : AF K M L1 (as ++ [⟨rLam q params body scope y cy, ()⟩]) (as' ++ [⟨rLam q params body scope y cy, ()⟩])) (hn : NTs L1) (hr : TO r) (h : C kn as' [] ⟨r, a⟩ []) :
    EV K M (tCallK n cy (spL P' w' mg base kk K M.T q params body scope y CL C) tA) σ B L r a L1 := fun B1 H e w Q k =>
  ha B1 H e w _ fun vs B2 H2 e2 w2 hv => ⟨kv, hs, fun ob u hu hd nn => by
    have mn : M cy = none := fresh_back w2.m nn
    refine ⟨frz B2 L1 H2, M.put cy (CelO cy ob), [], as', ⟨r, a⟩, [], cy, ob, kn, B, (e.trans e2).trans (ex_frz w2), rfl, upd_same, hl ob u hu hd, w2.frzAll.addM nn, hz B2 H2 vs w2 hv, h, fun v B' H' e3 w3 hr3 => ⟨w3.m cy _ upd_same, ?_⟩⟩
    have w4 := w3.del (cy := cy) (o := CelO cy ob) upd_same
    rw [Fr.put_del mn] at w4
    obtain ⟨e4, w5⟩ := w2.unfrz e3 w4
    refine k v _ _ (e2.trans e4) w5 (hr.to (fun p hp => ?_) hr3)
    obtain ⟨x, hx, rfl⟩ := List.mem_map.mp hp
    obtain ⟨⟨o, h1, h2⟩, _⟩ := w2.l x hx
    exact ⟨o, e3 _ _ (by unfold frz; rw [if_pos hp, h1]), (hn x hx).nt h2⟩⟩
/-- it is handed over; what is ours is set aside -/
theorem ev_callK0 {β : Type} {P' : Program} {w' : World} {mg : Str → Option Value} {base : Heap} {kk n : Nat} {CL C : β → List Arg → List Cell → Arg → List Cell → Prop} {kn : β} {kv : V} {as : List Arg} {a : α} (hs : σ[n]? = some (some kv))
    (hl : ∀ ob u, RelV kv u → ob.data = .cell (some u) → ∀ c', LOk P' w' K mg base kk ⟨q, params, body, scope, [(y, cy)], c'⟩ cy ob (spVB K M.T B (CL kn)))
    (ha : EA K M tA σ B L (as ++ [⟨rLam q params body scope y cy, ()⟩]) L1) (h : C kn as [] ⟨r, a⟩ []) : EV K M (tCallK n cy (spL P' w' mg base kk K M.T q params body scope y CL C) tA) σ B L r a L1 := fun B1 H e w Q k =>
  ha B1 H e w _ fun vs B2 H2 e2 w2 hv => ⟨kv, hs, fun ob u hu hd nn => by
    have mn : (absorb M L1 H2) cy = none := by
      show (if cy ∈ L1.map (·.p) then H2 cy else M cy) = none
      split
      · exact nn
      · exact fresh_back w2.m nn
    refine ⟨B2, (absorb M L1 H2).put cy (CelO cy ob), [], as, ⟨r, a⟩, [], cy, ob, kn, B, e.trans e2, rfl, upd_same, hl ob u hu hd, (w2.lend (L1 := []) (L2 := L1) (fun _ h => absurd h (by simp)) (fun _ h => h) (by simp) (fun _ h => absurd h (by simp))).addM nn, hv, h, fun v B' H' e3 w3 hr3 => ⟨w3.m cy _ upd_same, ?_⟩⟩
    have w4 := w3.del (cy := cy) (o := CelO cy ob) upd_same
    rw [Fr.put_del mn] at w4
    exact k v B' _ (e2.trans e3) (w2.back (L1' := []) (fun _ h => h) w2.nd e3 w4 (fun _ h => absurd h (by simp))) hr3⟩
/-- a lambda's promise by its body; rk tells what it captured -/
theorem lok_of {β : Type} {P' : Program} {w' : World} {mg : Str → Option Value} {base : Heap} {kk : Nat} {T : List Addr} {CL : β → List Arg → List Cell → Arg → List Cell → Prop} {kn : β} {kv : V} {u : Value} {N ps : List Str} {rk : Rep β} (S : NdefX.NScope N ps [y] scope)
    (hb : ∀ (c' : Addr) (pm ctv : Value) (us : List Value), us.length = ps.length → bindArgs (PySem.W.kla_fn "<lambda>" q params body scope [(y, cy)] pm (.ref c') ctv) ⟨us, []⟩ = pure (ps.zip us)) (hu : RelV kv u) (hd : ob.data = .cell (some u)) (hk : rk.is K B0 kv kn) (hlen : ∀ as L r L', CL kn as L r L' → as.length = ps.length)
    (walk : ∀ (c' f : Addr) (A : Around) (outer : List Env) (s : Shared) (H : Hp), Room kk (A.deeper (NdefX.envF (LF.nf ⟨q, params, body, scope, [(y, cy)], c'⟩) f s.heap.objs.size)) → ∃ tb, PE (NdefX.ncx CX0 P' w' K mg base N (LF.nf ⟨q, params, body, scope, [(y, cy)], c'⟩) f A outer s H E0) body tb ∧
      ∀ B M L vs as r L' (Q : VK), M.T = T → Own K B M L H → ArgsIs K B vs as → CL kn as L r L' → rk.is K B kv kn → (∀ v B' H', Ex B B' → Own K B' M L' H' → r.is K B' v → Q v H') → tb (NdefX.startF N vs [some kv]) H Q) :
    ∀ c', LOk P' w' K mg base kk ⟨q, params, body, scope, [(y, cy)], c'⟩ cy ob (spVB K T B0 (CL kn)) := fun c' => ⟨⟨N, ps, y, kv, u, S, rfl, hu, hd, hb c', fun vs H Q E ⟨B, M, L, as, r, L', _, _, _, ha, hc, _⟩ => (args_len ha).trans (hlen as L r L' hc), fun f A outer s H vs Q hr ⟨B, M, L, as, r, L', e0, hT, w, ha, hc, k⟩ => by
  obtain ⟨tb, h1, h2⟩ := walk c' f A outer s H hr
  exact ⟨tb, h1, h2 B M L vs as r L' Q hT w ha hc (rk.mono e0 hk) k⟩⟩⟩
end
end L3
namespace L3
open PySem L2
/-- the call with a lambda, of a def that is known by its name -/
theorem pe_cK {X : Cx} {k jj j : Nat} {x y : Str} {sp : Sp} {p pos : Pos} {e : Expr} {es : List Expr} {t : TA} (c : Cl X.prog X.w X.K X.mg X.base k x sp []) (hr : Room jj X.A) (hk : k ≤ jj) (hg : Gl X x) (hy : X.N[j]? = some y) (hyc : X.env.scope.names.lookup y = some .cell) (hfn : X.fn y = true) (ha : PA X (e :: es) t)
    (hdb : (x == ("__debug__" : Str)) = false := by decide) (he : starEach (e :: es) X.env = (false, eval e X.env) :: starEach es X.env := by rfl) (hpl : (backTo pos (starEach es X.env)).any (·.1) = false := by rfl) :
    PE X (.Call (.Name x p) (e :: es) [] pos) (L3G.tCallK j (L3G.cyOf X y) sp t) := by
  obtain ⟨f, fd, ps, ds, F, hm, kp, b, d⟩ := c.ex
  cases d
  exact L3G.pe_callK F (hr.mono hk) hg hm kp b hy hyc hfn ha hdb he hpl
end L3

namespace L3
open PySem L2
open Evl (Ex ex_rd ex_l ex_t sq_of st_of fresh_back)
/-! ### == of values that may be None -/
section
variable {α : Type} {r : Rep α} {f : α → PyData} {n : Nat}
theorem dr_opt (d : DR r f n) (hn : ∀ a, PyData.eqv (f a) .none = false ∧ PyData.eqv .none (f a) = false) : DR (rOpt r) (dOpt f) (max n 1) := ⟨dq_opt d.dp, fun a => by
    cases a with
    | none => rfl
    | some a => exact d.lay a, fun a => by
    cases a with
    | none => simp [dOpt, PyData.depth]
    | some a => exact Nat.le_trans (d.dep a) (Nat.le_max_left _ _), fun a b => by
    cases a with
    | none => cases b with
      | none => simp [dOpt, PyData.eqv]
      | some b => simp [dOpt, (hn b).2]
    | some a => cases b with
      | none => simp [dOpt, (hn a).1]
      | some b => simp [dOpt, d.eqv], fun a b e => by
    cases a with
    | none => cases b with
      | none => rfl
      | some b =>
        have e : PyData.none = f b := e
        have := (hn b).2
        rw [← e] at this
        simp [PyData.eqv] at this
    | some a => cases b with
      | none =>
        have e : f a = PyData.none := e
        have := (hn a).1
        rw [e] at this
        simp [PyData.eqv] at this
      | some b => exact congrArg some (d.inj a b e)⟩
end
/-! ### the start where a lambda's table is ours -/
theorem Own.startL (K : Fg) (H : Hp) (T : List Addr) (Pt : Addr) (q : Str) (hT : ∀ P ∈ T, GxR.TabG H P) (hP : H Pt = some (.tbl #[])) (hne : Pt ∉ T) : Own K (noT H (Pt :: T)) ⟨fun _ => none, T⟩ [⟨Pt, cTab q, ()⟩] H := ⟨fun a u h => by
    unfold noT at h
    split at h
    · cases h
    · exact h, fun _ _ h => (by cases h), fun _ => .inr rfl, fun x hx => by
    obtain rfl := List.mem_singleton.mp hx
    exact ⟨⟨.tbl #[], hP, #[], rfl, trivial, fun pos cv z => (by cases z)⟩, by unfold noT; rw [if_pos (List.mem_cons_self)], rfl⟩, by simp, fun P hp => ⟨hT P hp, by unfold noT; rw [if_pos (List.mem_cons_of_mem _ hp)], rfl, by
    intro z
    have z : P ∈ [Pt] := z
    rw [List.mem_singleton.mp z] at hp
    exact hne hp⟩⟩
end L3

/-! dicts of ints by any data; a dict that stays from now on; sets of ints, sorted -/
namespace L3G
open PySem PySem.Spec PyProof.Rows L2
variable {X : Cx}
/-- from here on the thing at d stays (it is read, never written) -/
def tFrz (t : TS) : TS := fun D σ H => ∃ d u, H d = some u ∧ Mut (some u) ∧ ∀ od, t D σ (upd H d (.frz od u))
theorem pss_frz {ss : List Stmt} {t : TS} (h : PSs X ss t) : PSs X ss (tFrz t) := ⟨fun pins s σ H D I q => by
  obtain ⟨d, u, hd, mu, q⟩ := q
  obtain ⟨od, J⟩ := I.lock hd mu
  exact h.run pins s σ _ D J (q od)⟩
/-- what == of two dicts tells, entry by entry -/
inductive HitV (K : PySem.W.Frag) (H : Hp) (fs : List (Key × V)) : List (Key × V) → Bool → Prop
  | nil : HitV K H fs [] true
  | miss {k : Key} {v : V} {r : List (Key × V)} : valV fs k = none → HitV K H fs ((k, v) :: r) false
  | hit {k : Key} {v y : V} {r : List (Key × V)} {d e : PyData} {b : Bool} : valV fs k = some y → Dp K H v d → Dp K H y e → SeqAt.shaped d = true → SeqAt.shaped e = true → d.depth ≤ 60 → HitV K H fs r b → HitV K H fs ((k, v) :: r) (PyData.eqv d e && b)
def rEqM (K : PySem.W.Frag) : R2 := fun x y H Q => ∃ a b es fs r, x = .ref a ∧ y = .ref b ∧ Rd H a (.dK es) ∧ Rd H b (.dK fs) ∧ HitV K H fs es r ∧ Q (.bl (es.length == fs.length && r)) H
theorem hit_run {pins : List (Addr × Obj)} {σ : L2.St} {H : Hp} {s : Shared} (I : Inv X pins σ H s) {A : Around} (hu : A.units + 61 < cLine) {fs : List (Key × V)} {us : List (Key × Value)} (rf : KV fs us) :
    ∀ {es : List (Key × V)} {r : Bool}, HitV X.K H fs es r → ∀ {vs : List (Key × Value)}, KV es vs → PySem.W.KeqHitsP X.prog X.w A s us vs r := fun h => by
  induction h with
  | nil => intro vs kv; cases kv; exact .nil
  | @miss k v r hn =>
    intro vs kv
    cases kv with
    | @cons p q ps qs h1 h2 =>
      obtain ⟨k', u⟩ := q
      obtain ⟨rfl, ru⟩ := h1
      exact .miss (RelO.none_of (by rw [← hn]; exact rf.val k))
  | @hit k v y r d e b hv d1 d2 s1 s2 dz _ ih =>
    intro vs kv
    cases kv with
    | @cons p q ps qs h1 h2 =>
      obtain ⟨k', u⟩ := q
      obtain ⟨rfl, ru⟩ := h1
      obtain ⟨w', hw, rw'⟩ := RelO.some_of (v := y) (o := valueAt us k) (by rw [← hv]; exact rf.val k)
      obtain ⟨as, r1⟩ := Dp.reads I d v u d1 ru
      obtain ⟨bs, r2⟩ := Dp.reads I e y w' d2 rw'
      exact .hit hw (SeqAt.EqAt.eqP (SeqAt.eqAt_reads d e A s u w' _ _ r1 r2 (SeqAt.canLay_of_shaped s1) (SeqAt.canLay_of_shaped s2) (by have := Nat.min_le_left d.depth e.depth; omega))) (ih h2)
theorem op_eqM (hu : X.A.units + 64 < cLine) : OpR X (compareOp .Eq) (rEqM X.K) := by
  intro pins s σ H x y v u Q I rx ry h
  obtain ⟨a, b, es, fs, r, rfl, rfl, ha, hb, hit, q⟩ := h
  cases rx
  cases ry
  obtain ⟨z1, l1, vs, k1, d1⟩ := dk_rd I.hok ha
  obtain ⟨z2, l2, us, k2, d2⟩ := dk_rd I.hok hb
  refine PySem.W.rcP_dicts (knd := mixKind X.prog X.w) (r := r) l1 l2 d1 d2 (by omega) (fun _ => hit_run I (by show X.A.in1.units + 61 < cLine; have : X.A.in1.units = X.A.units + 1 := rfl; omega) k2 hit k1) _ _ ⟨.bl _, H, I, rfl, ?_⟩
  have e1 : es.length = vs.length := Paired.length k1
  have e2 : fs.length = us.length := Paired.length k2
  rw [← e1, ← e2]
  exact q
end L3G
namespace L3
open PySem L2
open Evl (Ex ex_rd ex_l ex_t sq_of st_of fresh_back)

/-! ### dicts of ints by any data -/
def getM {α : Type} : List (Int × α) → Int → Option α
  | [], _ => none
  | q :: l, k => if q.1 = k then some q.2 else getM l k
def putM {α : Type} (kvs : List (Int × α)) (k : Int) (a : α) : List (Int × α) :=
  if (kvs.any fun q => decide (q.1 = k)) = true then kvs.map fun q => if q.1 = k then (q.1, a) else q else kvs ++ [(k, a)]
def EntM {α : Type} (r : Rep α) (K : Fg) (B : Hp) (e : Key × V) (q : Int × α) : Prop := e.1 = Sum.inl q.1 ∧ r.is K B e.2 q.2
theorem entM_mono {α : Type} {r : Rep α} {K : Fg} {B B' : Hp} (e : Ex B B') : ∀ {xs : List (Key × V)} {as : List (Int × α)}, Paired (EntM r K B) xs as → Paired (EntM r K B') xs as
  | _, _, .nil => .nil
  | _, _, .cons h t => .cons ⟨h.1, r.mono e h.2⟩ (entM_mono e t)
def cMap {α : Type} (r : Rep α) : CRep (List (Int × α)) := ⟨fun K B o kvs => ∃ es, o = .dK es ∧ Paired (EntM r K B) es kvs, fun e ⟨es, h1, h2⟩ => ⟨es, h1, entM_mono e h2⟩⟩
def rDic {α : Type} (r : Rep α) : Rep (List (Int × α)) := ⟨fun K B v kvs => ∃ p od es, v = .ref p ∧ B p = some (.frz od (.dK es)) ∧ Paired (EntM r K B) es kvs, fun e ⟨p, od, es, h1, h2, h3⟩ => ⟨p, od, es, h1, e _ _ h2, entM_mono e h3⟩⟩
def cFrz {α : Type} (r : Rep α) : CRep (List (Int × α)) := ⟨fun K B o kvs => ∃ od es, o = .frz od (.dK es) ∧ Paired (EntM r K B) es kvs, fun e ⟨od, es, h1, h2⟩ => ⟨od, es, h1, entM_mono e h2⟩⟩
theorem inl_eq {i j : Int} : ((Sum.inl i : Key) = Sum.inl j) ↔ i = j := ⟨Sum.inl.inj, fun e => by rw [e]⟩
section
variable {α : Type} {r : Rep α} {K : Fg} {B : Hp}
theorem entM_get (k : Int) : ∀ {es : List (Key × V)} {kvs : List (Int × α)}, Paired (EntM r K B) es kvs → match getM kvs k with
    | none => valV es (Sum.inl k : Key) = none
    | some a => ∃ v, valV es (Sum.inl k : Key) = some v ∧ r.is K B v a
  | _, _, .nil => rfl
  | _, _, @Paired.cons _ _ _ e q es kvs h t => by
    have ih := entM_get k t
    unfold getM
    by_cases hk : q.1 = k
    · rw [if_pos hk]
      exact ⟨e.2, valV_pos (by rw [h.1, hk]), h.2⟩
    · rw [if_neg hk, valV_neg (by rw [h.1]; exact fun z => hk (Sum.inl.inj z))]
      exact ih
theorem entM_any (k : Int) : ∀ {es : List (Key × V)} {kvs : List (Int × α)}, Paired (EntM r K B) es kvs → (es.any fun e => decide (e.1 = (Sum.inl k : Key))) = kvs.any fun q => decide (q.1 = k)
  | _, _, .nil => rfl
  | _, _, @Paired.cons _ _ _ e q es kvs h t => by
    rw [List.any_cons, List.any_cons, entM_any k t, h.1]
    congr 1
    exact decide_eq_decide.mpr inl_eq
theorem entM_repl (k : Int) {v : V} {a : α} (hv : r.is K B v a) : ∀ {es : List (Key × V)} {kvs : List (Int × α)}, Paired (EntM r K B) es kvs → Paired (EntM r K B) (es.map fun e => if e.1 = (Sum.inl k : Key) then (e.1, v) else e) (kvs.map fun q => if q.1 = k then (q.1, a) else q)
  | _, _, .nil => .nil
  | _, _, @Paired.cons _ _ _ e q es kvs h t => by
    rw [List.map_cons, List.map_cons]
    refine .cons ?_ (entM_repl k hv t)
    by_cases hk : q.1 = k
    · rw [if_pos hk, if_pos (by rw [h.1, hk])]; exact ⟨h.1, hv⟩
    · rw [if_neg hk, if_neg (by rw [h.1]; exact fun z => hk (Sum.inl.inj z))]; exact h
theorem entM_put (k : Int) {v : V} {a : α} (hv : r.is K B v a) {es : List (Key × V)} {kvs : List (Int × α)} (h : Paired (EntM r K B) es kvs) : Paired (EntM r K B) (putK es (Sum.inl k : Key) v) (putM kvs k a) := by
  unfold putK putM
  rw [entM_any k h]
  by_cases hc : (kvs.any fun q => decide (q.1 = k)) = true
  · rw [if_pos hc, if_pos hc]; exact entM_repl k hv h
  · rw [if_neg hc, if_neg hc]; exact paired_app h (.cons ⟨rfl, hv⟩ .nil)
theorem putM_len (kvs : List (Int × α)) (k : Int) (a : α) : (putM kvs k a).length ≤ kvs.length + 1 := by
  unfold putM
  split
  · rw [List.length_map]; omega
  · rw [List.length_append]; simp
end
/-- == of two dicts of data -/
def eqM {α : Type} [DecidableEq α] (kvs lvs : List (Int × α)) : Bool := (kvs.length == lvs.length) && kvs.all fun q => decide (getM lvs q.1 = some q.2)
section
variable {K : Fg} {M : Fr} {σ : St} {B B' H H' : Hp} {L L1 L2 L3 L' : List Cell} {α β γ δ : Type} {r : Rep α} {s : Rep β} {ta tb tc te tk tv : TE} {tt tu : TT} {tA : TA} {i j k : Int} {D : Ends} {tz : TS}
theorem eraseIdx_set {x : Cell} : ∀ (l : List Cell) (n : Nat), (l.set n x).eraseIdx n = l.eraseIdx n
  | [], _ => rfl
  | _ :: _, 0 => rfl
  | y :: l, n + 1 => congrArg (y :: ·) (eraseIdx_set l n)
/-- a dict of ours stays as it is from here on -/
theorem q_frzM {n : Nat} {p : Addr} {kvs : List (Int × α)} (w : Own K B M L H) (hc : L[n]? = some ⟨p, cMap r, kvs⟩) (q : ∀ B' H', Ex B B' → Own K B' M (L.eraseIdx n) H' → (rDic r).is K B' (.ref p) kvs → tz D σ H') : L3G.tFrz tz D σ H := by
  obtain ⟨⟨o, h1, es, h2, h3⟩, hB, hM⟩ := w.at hc
  have h1 : H p = some o := h1
  have hB : B p = none := hB
  subst h2
  refine ⟨p, .dK es, h1, trivial, fun od => ?_⟩
  have w1 : Own K B M (L.set n ⟨p, cFrz r, kvs⟩) (upd H p (.frz od (.dK es))) := w.set hc (c' := cFrz r) ⟨od, es, rfl, h3⟩
  have hl : n < L.length := (List.getElem?_eq_some_iff.mp hc).1
  obtain ⟨o', g1, g2, g3, w2⟩ := w1.freeze (i := n) (x := ⟨p, cFrz r, kvs⟩) (List.getElem?_set_self hl)
  have g1 : upd H p (.frz od (.dK es)) p = some o' := g1
  rw [upd_same] at g1
  cases g1
  rw [eraseIdx_set] at w2
  have e : Ex B (upd B p (.frz od (.dK es))) := Ex.new hB
  exact q _ _ e w2 ⟨p, od, es, rfl, upd_same, entM_mono e h3⟩
theorem q_asgM {n : Nat} (w : Own K B M L H) (q : ∀ p H', Own K B M (⟨p, cMap r, []⟩ :: L) H' → tz D (σ.set n (some (.ref p))) H') : tSeq (tAsg tDNewK (gName n)) tz D σ H :=
  fun p hp => q p _ (w.new hp ⟨[], rfl, .nil⟩)
theorem q_setM {n m : Nat} {p : Addr} {as : List (Int × α)} {a : α} (w : Own K B M L H) (h : EV K M te σ B L r a L1) (hs : σ[m]? = some (some (.ref p))) (hb : EV K M tb σ B L1 rInt i L2) (hc : L2[n]? = some ⟨p, cMap r, as⟩) (hr : room as.length = some ())
    (q : ∀ B' H', Ex B B' → Own K B' M (L2.set n ⟨p, cMap r, putM as i a⟩) H' → tz D σ H') : tSeq (tAsg te (gSub (tVar m) tb rSetD)) tz D σ H :=
  h B H (Ex.refl _) w _ fun v B1 H1 e1 w1 hv => ⟨_, hs, hb B1 H1 e1 w1 _ fun y B2 H2 e2 w2 hy => by
    obtain ⟨⟨o', g1, es, g2, g3⟩, _⟩ := w2.at hc
    have g1 : H2 p = some o' := g1
    have hy : y = kV (Sum.inl i) := hy
    subst hy
    refine ⟨p, _, rfl, DPut.k (kvs := es) (by rw [g1, g2]) (by rw [paired_len g3]; exact room_some hr), q B2 _ (e1.trans e2) (w2.set hc ⟨_, rfl, entM_put i (r.mono e2 hv) g3⟩)⟩⟩
/-! reading -/
theorem ev_mGet {n : Nat} {p : Addr} {kvs : List (Int × α)} {a : α} (h : EV K M ta σ B L rRef p L1) (h' : EV K M tb σ B L1 rInt k L2) (hc : L2[n]? = some ⟨p, cMap r, kvs⟩) (e : getM kvs k = some a) : EV K M (tDGet ta tb) σ B L r a L2 := fun B1 H e1 w Q q =>
  h B1 H e1 w _ fun x B2 H2 e2 w2 hx => h' B2 H2 (e1.trans e2) w2 _ fun u B3 H3 e3 w3 hu => by
    obtain ⟨⟨o', g1, es, g2, g3⟩, _⟩ := w3.at hc
    have g1 : H3 p = some o' := g1
    have hu : u = .int k := hu
    subst hu
    have g := entM_get k g3
    rw [e] at g
    obtain ⟨v, gv, gr⟩ := g
    exact ⟨p, v, hx, .inl ⟨es, Sum.inl k, .inl (by rw [g1, g2]), rfl, gv.symm⟩, q _ B3 H3 (e2.trans e3) w3 gr⟩
theorem ev_fGet {kvs : List (Int × α)} {a : α} (h : EV K M ta σ B L (rDic r) kvs L1) (h' : EV K M tb σ B L1 rInt k L2) (e : getM kvs k = some a) : EV K M (tDGet ta tb) σ B L r a L2 := fun B1 H e1 w Q q =>
  h B1 H e1 w _ fun x B2 H2 e2 w2 hx => h' B2 H2 (e1.trans e2) w2 _ fun u B3 H3 e3 w3 hu => by
    obtain ⟨p, od, es, rfl, g1, g3⟩ := (rDic r).mono e3 hx
    have hu : u = .int k := hu
    subst hu
    have g := entM_get k g3
    rw [e] at g
    obtain ⟨v, gv, gr⟩ := g
    exact ⟨p, v, rfl, .inl ⟨es, Sum.inl k, .inr ⟨od, w3.b _ _ g1⟩, rfl, gv.symm⟩, q _ B3 H3 (e2.trans e3) w3 gr⟩
theorem entM_some {es : List (Key × V)} {kvs : List (Int × α)} (h : Paired (EntM r K B) es kvs) (k : Int) : (valV es (Sum.inl k : Key)).isSome = (getM kvs k).isSome := by
  have g := entM_get k h
  cases e : getM kvs k with
  | none => rw [e] at g; rw [g]; rfl
  | some a => rw [e] at g; obtain ⟨v, gv, _⟩ := g; rw [gv]; rfl
theorem ev_mIn {n : Nat} {p : Addr} {kvs : List (Int × α)} (h' : EV K M tb σ B L rInt k L1) (h : EV K M ta σ B L1 rRef p L2) (hc : L2[n]? = some ⟨p, cMap r, kvs⟩) : EV K M (tDIn tb ta) σ B L rBool (getM kvs k).isSome L2 := fun B1 H e1 w Q q =>
  h' B1 H e1 w _ fun u B2 H2 e2 w2 hu => h B2 H2 (e1.trans e2) w2 _ fun x B3 H3 e3 w3 hx => by
    obtain ⟨⟨o', g1, es, g2, g3⟩, _⟩ := w3.at hc
    have g1 : H3 p = some o' := g1
    have hu : u = .int k := hu
    subst hu
    exact ⟨p, _, hx, .inl ⟨es, Sum.inl k, .inl (by rw [g1, g2]), rfl, rfl⟩, q _ B3 H3 (e2.trans e3) w3 (by rw [entM_some g3]; rfl)⟩
theorem ev_mNi {n : Nat} {p : Addr} {kvs : List (Int × α)} (h' : EV K M tb σ B L rInt k L1) (h : EV K M ta σ B L1 rRef p L2) (hc : L2[n]? = some ⟨p, cMap r, kvs⟩) : EV K M (tDNotIn tb ta) σ B L rBool (!(getM kvs k).isSome) L2 := fun B1 H e1 w Q q =>
  h' B1 H e1 w _ fun u B2 H2 e2 w2 hu => h B2 H2 (e1.trans e2) w2 _ fun x B3 H3 e3 w3 hx => by
    obtain ⟨⟨o', g1, es, g2, g3⟩, _⟩ := w3.at hc
    have g1 : H3 p = some o' := g1
    have hu : u = .int k := hu
    subst hu
    exact ⟨p, _, hx, .inl ⟨es, Sum.inl k, .inl (by rw [g1, g2]), rfl, rfl⟩, q _ B3 H3 (e2.trans e3) w3 (by rw [entM_some g3]; rfl)⟩
theorem ev_fIn {kvs : List (Int × α)} (h' : EV K M tb σ B L rInt k L1) (h : EV K M ta σ B L1 (rDic r) kvs L2) : EV K M (tDIn tb ta) σ B L rBool (getM kvs k).isSome L2 := fun B1 H e1 w Q q =>
  h' B1 H e1 w _ fun u B2 H2 e2 w2 hu => h B2 H2 (e1.trans e2) w2 _ fun x B3 H3 e3 w3 hx => by
    obtain ⟨p, od, es, rfl, g1, g3⟩ := hx
    have hu : u = .int k := hu
    subst hu
    exact ⟨p, _, rfl, .inl ⟨es, Sum.inl k, .inr ⟨od, w3.b _ _ g1⟩, rfl, rfl⟩, q _ B3 H3 (e2.trans e3) w3 (by rw [entM_some g3]; rfl)⟩
theorem ev_fNi {kvs : List (Int × α)} (h' : EV K M tb σ B L rInt k L1) (h : EV K M ta σ B L1 (rDic r) kvs L2) : EV K M (tDNotIn tb ta) σ B L rBool (!(getM kvs k).isSome) L2 := fun B1 H e1 w Q q =>
  h' B1 H e1 w _ fun u B2 H2 e2 w2 hu => h B2 H2 (e1.trans e2) w2 _ fun x B3 H3 e3 w3 hx => by
    obtain ⟨p, od, es, rfl, g1, g3⟩ := hx
    have hu : u = .int k := hu
    subst hu
    exact ⟨p, _, rfl, .inl ⟨es, Sum.inl k, .inr ⟨od, w3.b _ _ g1⟩, rfl, rfl⟩, q _ B3 H3 (e2.trans e3) w3 (by rw [entM_some g3]; rfl)⟩
/-- d.get(k, x) -/
theorem ev_fGet2 {kvs : List (Int × α)} {a : α} (h : EV K M ta σ B L (rDic r) kvs L1) (h' : EV K M tb σ B L1 rInt k L2) (h'' : EV K M tc σ B L2 r a L3) : EV K M (tDGet2 ta tb tc) σ B L r ((getM kvs k).getD a) L3 := fun B1 H e1 w Q q =>
  h B1 H e1 w _ fun x B2 H2 e2 w2 hx => by
    obtain ⟨p, od, es, rfl, g1, g3⟩ := hx
    refine ⟨p, rfl, .inl ⟨es, .inr ⟨od, w2.b _ _ g1⟩⟩, h' B2 H2 (e1.trans e2) w2 _ fun u B3 H3 e3 w3 hu => h'' B3 H3 ((e1.trans e2).trans e3) w3 _ fun z B4 H4 e4 w4 hz => ?_⟩
    have hu : u = .int k := hu
    subst hu
    refine ⟨_, .inl ⟨es, Sum.inl k, .inr ⟨od, w4.b _ _ (e4 _ _ (e3 _ _ g1))⟩, rfl, rfl⟩, q _ B4 H4 ((e2.trans e3).trans e4) w4 ?_⟩
    have g := entM_get k (entM_mono (e3.trans e4) g3)
    cases e : getM kvs k with
    | none => rw [e] at g; rw [g]; exact hz
    | some a => rw [e] at g; obtain ⟨v, gv, gr⟩ := g; rw [gv]; exact gr
theorem entM_hit [DecidableEq α] {f : α → PyData} {m : Nat} (d : DR r f m) (hm : m ≤ 60) (e : Ex B H) {fs : List (Key × V)} {lvs : List (Int × α)} (hf : Paired (EntM r K B) fs lvs) : ∀ {es : List (Key × V)} {kvs : List (Int × α)}, Paired (EntM r K B) es kvs → L3G.HitV K H fs es (kvs.all fun q => decide (getM lvs q.1 = some q.2))
  | _, _, .nil => .nil
  | _, _, @Paired.cons _ _ _ x q es kvs h t => by
    obtain ⟨k, v⟩ := x
    obtain ⟨hk, hv⟩ := h
    have hk : k = Sum.inl q.1 := hk
    subst hk
    have g := entM_get q.1 hf
    rw [List.all_cons]
    cases eg : getM lvs q.1 with
    | none =>
      rw [eg] at g
      rw [show decide ((none : Option α) = some q.2) = false from decide_eq_false (by simp), Bool.false_and]
      exact .miss g
    | some a =>
      rw [eg] at g
      obtain ⟨y, gy, gr⟩ := g
      have ee : decide ((some a : Option α) = some q.2) = PyData.eqv (f q.2) (f a) := by
        rw [d.dec]
        exact decide_eq_decide.mpr ⟨fun z => (Option.some.inj z).symm, fun z => by rw [z]⟩
      rw [ee]
      exact .hit gy (dp_mono e (d.dp _ _ _ _ hv)) (dp_mono e (d.dp _ _ _ _ gr)) (d.sh (by omega) _) (d.sh (by omega) _) (Nat.le_trans (d.dep _) hm) (entM_hit d hm e hf t)
theorem ev_eqM [DecidableEq α] {f : α → PyData} {m : Nat} {kvs lvs : List (Int × α)} (d : DR r f m) (hm : m ≤ 60) (ha : EV K M ta σ B L (rDic r) kvs L1) (hb : EV K M tb σ B L1 (rDic r) lvs L2) : EV K M (tOp (L3G.rEqM K) ta tb) σ B L rBool (eqM kvs lvs) L2 :=
  ev_op ha hb fun B1 H1 x y Q w hx hy q => by
    obtain ⟨p, od, es, rfl, g1, g3⟩ := hx
    obtain ⟨p', od', fs, rfl, g1', g3'⟩ := hy
    refine ⟨p, p', es, fs, _, rfl, rfl, .inr ⟨od, w.b _ _ g1⟩, .inr ⟨od', w.b _ _ g1'⟩, entM_hit d hm w.b g3' g3, q _ ?_⟩
    show V.bl _ = V.bl _
    rw [paired_len g3, paired_len g3']
    rfl
/-! walking the keys -/
theorem ei_dic {kvs : List (Int × α)} (h : EV K M te σ B L (rDic r) kvs L') : EI K M (iKeys te) σ B L rInt (kvs.map (·.1)) L' := fun B1 H e w R q => h B1 H e w _ fun v B2 H2 e2 w2 hv => by
  obtain ⟨p, od, es, rfl, g1, g3⟩ := hv
  refine ⟨p, od, rfl, .inl ⟨es, w2.b _ _ g1, q _ B2 H2 e2 w2 ⟨fun i a B' L' H' e' w' hi => ?_, fun B' L' H' e' w' => ⟨w'.b _ _ (e' _ _ g1), by rw [paired_len g3, List.length_map]; exact Nat.le_refl _⟩⟩⟩⟩
  rw [List.getElem?_map] at hi
  cases hk : kvs[i]? with
  | none => rw [hk] at hi; cases hi
  | some kq =>
    rw [hk] at hi
    obtain rfl : kq.1 = a := Option.some.inj hi
    obtain ⟨x, hx, hr⟩ := L3.paired_get g3 hk
    refine ⟨⟨w'.b _ _ (e' _ _ g1), (List.getElem?_eq_some_iff.mp hx).1⟩, fun y H3 hy => ?_⟩
    obtain ⟨rfl, k, v, hk2, rfl⟩ := hy
    rw [hx] at hk2
    cases hk2
    refine ⟨B', Ex.refl _, w', ?_⟩
    rw [show k = Sum.inl kq.1 from hr.1]
    rfl
/-! sorted(d), min(xs) -/
def sortZ (l : List Int) : List Int := l.mergeSort fun a b => decide (a ≤ b)
theorem sortZ_eq {ys l : List Int} (hp : ys.Perm l) (hs : ys.Pairwise (· ≤ ·)) : ys = sortZ l := by
  refine List.Perm.eq_of_pairwise (le := (· ≤ ·)) (fun a b _ _ h1 h2 => Int.le_antisymm h1 h2) hs ?_ (hp.trans (List.mergeSort_perm l _).symm)
  refine (List.pairwise_mergeSort (le := fun a b => decide (a ≤ b)) (fun a b c h1 h2 => ?_) (fun a b => ?_) l).imp fun {a b} h => of_decide_eq_true h
  · exact decide_eq_true (Int.le_trans (of_decide_eq_true h1) (of_decide_eq_true h2))
  · rcases Int.le_total a b with h | h
    · rw [decide_eq_true h]; rfl
    · rw [decide_eq_true h, Bool.or_true]
def few (n : Nat) : Option Unit := if n < 64 then some () else none
theorem few_some {n : Nat} {u : Unit} (h : few n = some u) : n < 64 := by
  unfold few at h
  split at h
  · assumption
  · cases h
def rSortD : List V → Hp → VK → Prop := fun xs H Q => ∃ (a : Addr) (kvs : List (Key × V)) (ks : List Int), xs = [.ref a] ∧ Rd H a (.dK kvs) ∧ kvs.map (·.1) = ks.map Sum.inl ∧ ks.length < 64 ∧
    ∀ (ys : List Int) (p : Addr), ys.Perm ks → ys.Pairwise (· ≤ ·) → H p = none → Q (.ref p) (upd H p (.lst (ys.map V.int)))
theorem ints_paired : ∀ (l : List Int), Paired (rInt.is K B) (l.map V.int) l
  | [] => .nil
  | _ :: l => .cons rfl (ints_paired l)
theorem entM_keys : ∀ {es : List (Key × V)} {kvs : List (Int × α)}, Paired (EntM r K B) es kvs → es.map (·.1) = (kvs.map (·.1)).map Sum.inl
  | _, _, .nil => rfl
  | _, _, .cons h t => by rw [List.map_cons, List.map_cons, List.map_cons, entM_keys t, h.1]
theorem el_sortD {kvs : List (Int × α)} (h : EV K M te σ B L (rDic r) kvs L') (hf : few kvs.length = some ()) : EVL K M (tCB rSortD (tCons te tNil)) σ B L rInt (sortZ (kvs.map (·.1))) L' := fun B1 H e w Q q =>
  h B1 H e w _ fun v B2 H2 e2 w2 hv => by
    obtain ⟨p, od, es, rfl, g1, g3⟩ := hv
    refine ⟨p, es, kvs.map (·.1), rfl, .inr ⟨od, w2.b _ _ g1⟩, entM_keys g3, by rw [List.length_map]; exact few_some hf, fun ys l hp hs hl => ?_⟩
    rw [sortZ_eq hp hs]
    exact q l B2 _ e2 (w2.new hl ⟨_, rfl, ints_paired _⟩)
def minZ : List Int → Option Int
  | [] => none
  | x :: l => some (l.foldl min x)
theorem foldl_min (l : List Int) : ∀ x : Int, (l.foldl min x ∈ x :: l) ∧ ∀ y ∈ x :: l, l.foldl min x ≤ y := by
  induction l with
  | nil => intro x; exact ⟨List.mem_cons_self, fun y hy => by rw [List.mem_singleton.mp hy]; exact Int.le_refl _⟩
  | cons a l ih =>
    intro x
    obtain ⟨h1, h2⟩ := ih (min x a)
    rw [List.foldl_cons]
    refine ⟨?_, fun y hy => ?_⟩
    · rcases List.mem_cons.mp h1 with e | e
      · rw [e]
        rcases Int.le_total x a with z | z
        · rw [Int.min_eq_left z]; exact List.mem_cons_self
        · rw [Int.min_eq_right z]; exact List.mem_cons_of_mem _ List.mem_cons_self
      · exact List.mem_cons_of_mem _ (List.mem_cons_of_mem _ e)
    · have hm := h2 (min x a) List.mem_cons_self
      rcases List.mem_cons.mp hy with e | hy
      · rw [e]; exact Int.le_trans hm (Int.min_le_left _ _)
      · rcases List.mem_cons.mp hy with e | hy
        · rw [e]; exact Int.le_trans hm (Int.min_le_right _ _)
        · exact h2 y (List.mem_cons_of_mem _ hy)
theorem minZ_is {l : List Int} {m m' : Int} (h : minZ l = some m) (hm : m' ∈ l) (hl : ∀ y ∈ l, m' ≤ y) : m' = m := by
  cases l with
  | nil => cases h
  | cons x l =>
    obtain rfl := Option.some.inj h
    obtain ⟨h1, h2⟩ := foldl_min l x
    exact Int.le_antisymm (hl _ h1) (h2 _ hm)
theorem ev_minL {xs : List Int} {m : Int} (h : EV K M te σ B L (rLst rInt) xs L') (hm : minZ xs = some m) : EV K M (tCB (rMin K) (tCons te tNil)) σ B L rInt m L' := fun B1 H e w Q q =>
  h B1 H e w _ fun v B2 H2 e2 w2 hv => by
    obtain ⟨p, vs, rfl, hs, hp⟩ := rl_sc hv
    refine ⟨p, xs, rfl, by rw [← ints_of hp]; exact ex_l w2.b hs, ?_, fun m' h1 h2 => q _ B2 H2 e2 w2 (by rw [minZ_is hm h1 h2]; rfl)⟩
    cases xs with
    | nil => cases hm
    | cons x l => simp
/-- l += a list -/
def room2 (n m : Nat) : Option Unit := if n + m ≤ 100000 then some () else none
theorem room2_some {n m : Nat} {u : Unit} (h : room2 n m = some u) : n + m ≤ 100000 := by
  unfold room2 at h
  split at h
  · assumption
  · cases h
end
end L3

/-! sorted(set(xs)) of a list of ints; two fors in a comprehension; dict comprehensions of any data; l += a list -/
namespace L3G
open PySem PySem.Spec PyProof.Rows L2
section
variable {P : Program} {w : World} {A : Around} {E : Value → Shared → Prop} {s : Shared}
abbrev newS (w : World) : Obj := { cls := .type "set", dict := none, data := .set #[] 0 (.fresh 0 0 (!w.params.followText "set-order")) }
set_option maxRecDepth 100000 in
set_option maxHeartbeats 3200000 in
theorem set_of_list {a : Addr} {its : Array Value} (ks : List Int) {Q : Value → Shared → Prop} (h0 : A.handled = none) (ha : s.heap.IsList a its) (hk : IntsAre its.toList ks) (hb : ks.length + 1 < scanBound)
    (q : ∀ (h2 : Heap) (t2 n : Nat), SetR w h2 s.heap.objs.size (fun j => decide (j ∈ ks)) n → (∀ b o, s.heap.get? b = some o → h2.get? b = some o) → Q (.ref s.heap.objs.size) { s with heap := h2, toks := t2 }) :
    wpAny (model P w) A (call (.type "set") [.ref a]) Q E s := by
  have hsz : its.size = ks.length := by have z := IntsAre.length hk; rw [Array.length_toList] at z; exact z
  obtain ⟨c, tl, hmro⟩ := F.called_set.mro; have hmade := F.called_set.made; have hsub := F.called_set.sub
  refine wpAny_call (codeAny_of_tree ?_); show wpAny _ _ (callAny (.type "set") _) _ _ _
  refine wpAny_pure ⟨Code.quiet_builtin _ (by decide +kernel), codeAny_builtin F.entry_type_call ?_⟩; rw [Around.under_plain (weight_type_call_type "set" [.ref a] []) rfl]
  have h1 := F.called_set.notType; have h2 := F.called_set.canCreate; have hct := F.typeCall_set_1 (.ref a)
  repeat (any_goals (first | assumption | wp_step))
  refine codeAny_mono (code_set_led1 (.ref a) (E := E) (Q₁ := fun obj u => obj = .ref s.heap.objs.size ∧ u = { s with heap := s.heap.push (newS w) }) ⟨rfl, rfl⟩) fun r u hr => ?_
  cases r with
  | error e => exact hr
  | ok fl =>
    cases fl with
    | ret obj =>
      obtain ⟨rfl, rfl⟩ := hr
      have hS : (s.heap.push (newS w)).get? s.heap.objs.size = some (newS w) := Heap.get?_push_size _ rfl
      have hT : Shared.TypeIs { s with heap := s.heap.push (newS w) } (.ref s.heap.objs.size) "set" := ⟨_, hS, rfl⟩
      have hli := F.called_set.init.lookup; have hbi := F.called_set.init.bind (.ref s.heap.objs.size)
      repeat (any_goals (first | assumption | wp_step))
      refine codeAny_mono (codeAny_call_builtin (R := wants (fun r s2 => r = .none ∧ ∃ h2 tk n, s2 = { s with heap := h2, toks := tk } ∧ SetR w h2 s.heap.objs.size (fun j => decide (j ∈ ks)) n ∧
          (∀ b o, s.heap.get? b = some o → h2.get? b = some o)) E) F.called_set.init.plain F.entry_set_init (check_set_init_1 hT ?_)) fun r2 s2 hr2 => ?_
      · obtain ⟨⟨ocls, odict, odata, oslots⟩, hol, hcl, nl, hdl⟩ := ha
        simp only at hcl hdl
        subst hcl; subst hdl
        have hol' : (s.heap.push (newS w)).get? a = some { cls := .type "list", dict := odict, data := .seq its nl, slots := oslots } := Heap.get?_push_of_some _ hol
        have hsls := F.sub_list_set; have hslf := F.sub_list_frozenset; have hne : (Value.type "list" == Value.type "dict") = false := by decide
        have hl1 : (s.heap.push (newS w)).IsList a its := ⟨_, hol', rfl, nl, rfl⟩
        unfold Builtin.«set.__init__» noKeywords Builtin.Frozenset.updateFrom
        generalize hPI : pyIter = PI; wp_walk; subst hPI
        refine wpAny_pyIter_list hl1 ?_; refine wpAny_bind (wpAny_runValue ?_)
        have hlS : a < s.heap.objs.size := Heap.lt_size hol
        have hh3 : A.in1.in1.in1.handled = none := by simp [h0]
        have hneI : a ≠ (s.heap.push (newS w)).objs.size := by rw [Heap.size_push]; exact Nat.ne_of_lt (Nat.lt_succ_of_lt hlS)
        have hSf : s.heap.objs.size ∉ [(s.heap.push (newS w)).objs.size, a] := by
          rw [Heap.size_push]; simp only [List.mem_cons, List.mem_singleton, List.not_mem_nil, or_false, not_or]; exact ⟨Nat.ne_of_lt (Nat.lt_succ_self _), Nat.ne_of_gt hlS⟩
        have hval : ∀ (i : Nat) (v : Value), its[i]? = some v → ∃ k t, ks[i]? = some k ∧ v = .int k t := fun i v hv => by
          have hi : i < ks.length := by rw [← hsz]; exact (Array.getElem?_eq_some_iff.mp hv).1
          obtain ⟨t, e⟩ := PyProof.Rows.IntsAre.int_at hk i v (by rw [Array.getElem?_toList]; exact hv)
          exact ⟨ks[i], t, List.getElem?_eq_getElem hi, by rw [e, List.getD_eq_getElem?_getD, List.getElem?_eq_getElem hi] <;> rfl⟩
        refine set_update_ints ((Walks.list hh3 _ a hneI its).toS) s.heap.objs.size hSf ks hsz hb hval (its.size - 0) 0 _ (by omega) (Nat.zero_le _)
          ⟨⟨_, Heap.get?_push_size _ rfl, rfl, rfl⟩, (hl1.push _)⟩ ?hS0 ?hR
        case hS0 => exact ⟨0, Nat.le_refl 0, setR_new_at (Heap.get?_push_of_some _ hS)⟩
        case hR =>
          intro s' c' hm hc' hS'
          obtain ⟨h', g2, d', tk', os'⟩ := s'
          have eg : g2 = s.gens := hm.gens
          have ed : d' = s.drawn := hm.drawn
          have eo : os' = s.os := hm.os
          subst eg; subst ed; subst eo
          show wpAny _ _ _ _ _ _; refine wpAny_pure ?_; show wpAny _ _ (ret Value.none) _ _ _
          refine wpAny_pure ⟨rfl, h', tk', c', rfl, hS', fun b o e => ?_⟩
          have hb0 : b < s.heap.objs.size := Heap.lt_size e
          have hb2 : b ≠ (s.heap.push (newS w)).objs.size := by rw [Heap.size_push]; exact Nat.ne_of_lt (Nat.lt_succ_of_lt hb0)
          exact hm.heap b o (by simp only [List.mem_cons, List.mem_singleton, List.not_mem_nil, or_false, not_or]; exact ⟨Nat.ne_of_lt hb0, hb2⟩) (Heap.get?_push_of_some _ (Heap.get?_push_of_some _ e))
      · cases r2 with
        | error e => exact hr2
        | ok fl2 =>
          cases fl2 with
          | ret r =>
            obtain ⟨rfl, h', tk, c', rfl, hS', hk'⟩ := hr2
            repeat (any_goals (first | assumption | wp_step))
            exact q _ _ _ hS' hk'
          | _ => exact hr2.elim
    | _ => exact hr.elim
end
section
variable {X : Cx}
/-- sorted(set(e)) -/
def tSortSet (K : PySem.W.Frag) (ta : TE) : TE := fun σ H Q => ta σ H fun x H1 => ∃ (a : Addr) (ks : List Int), x = .ref a ∧ SqL K H1 a (ks.map V.int) ∧ ks.length ≤ 4000 ∧ (∀ l : List Int, l.Nodup → (∀ k ∈ l, k ∈ ks) → l.length < 64) ∧
  ∀ (ys : List Int) (p : Addr), ys.Pairwise (· < ·) → (∀ k : Int, k ∈ ys ↔ k ∈ ks) → H1 p = none → Q (.ref p) (upd H1 p (.lst (ys.map V.int)))
theorem intsAre_of : ∀ {ks : List Int} {us : List Value}, Vals (ks.map V.int) us → IntsAre us ks
  | [], _, .nil => .nil
  | _ :: _, _, .cons r t => by obtain ⟨k, rfl⟩ := r; exact .cons _ k (intsAre_of t)
theorem pe_sortSet {e : Expr} {te : TE} {p p2 q pos : Pos} (hc : X.calm = true) (hg : Gl X "sorted") (hm : X.mg "sorted" = none) (hv : bootBuiltins "sorted" = some (.builtin "sorted")) (hg2 : Gl X "set") (hm2 : X.mg "set" = none) (he : PE X e te)
    (hs : starEach [.Call (.Name "set" p2) [e] [] q] X.env = (false, eval (.Call (.Name "set" p2) [e] [] q) X.env) :: starEach [] X.env := by rfl) (na : starEach [e] X.env = (false, eval e X.env) :: starEach [] X.env := by rfl) :
    PE X (.Call (.Name "sorted" p) [.Call (.Name "set" p2) [e] [] q] [] pos) (tSortSet X.K te) := by
  refine ⟨fun pins s σ H Q I h => ?_⟩
  refine wpAny_Call_Name_kw (ld_blt I hg hm hv ?_); refine PyProof.Rows.callWith_builtin1 (PyProof.Rows.args_cons ?_ rfl) hs (by rfl)
  refine wpAny_Call_Name_kw (ld_blt I hg2 hm2 PyProof.Rows.boot_set ?_)
  refine PyProof.Rows.callWith_type1 (PyProof.Rows.args_cons (thn (he.run pins s σ H _ I h) fun v s1 ⟨x, H1, I1, r1, q1⟩ => PyProof.Rows.args_nil ?_) na) na rfl
  obtain ⟨a, ks, rfl, hq, hl, hfew, q1⟩ := q1
  cases r1
  obtain ⟨its, r, pl, hz⟩ := I1.list hq
  refine set_of_list (P := X.prog) (w := X.w) ks (I1.ok.hd hc) pl.isList (by simpa using intsAre_of r) (by unfold scanBound; omega) fun h2 t2 n R k => ?_
  refine PyProof.Rows.args_nil ?_
  have I2 : Inv X pins σ H1 { s1 with heap := h2, toks := t2 } := I1.kept fun b o e => k b o e
  have h64 : n < 64 := by
    obtain ⟨o, es, ep, t, ho, hex, hd, g, nd, hm3, hb, hf, hn, hr, hl3⟩ := R
    rw [← hn, ← Array.length_toList, ← List.length_map (f := keyOf)]
    exact hfew _ nd fun j hj => of_decide_eq_true ((hm3 j).mpr hj)
  refine sorted_set R (I2.ok.hd hc) h64 fun s3 l out c ys kk g o hp hgt hi hs3 hm3 hl3 => ?_
  have hlen : (ys.map V.int).length ≤ sizeLine := by rw [List.length_map, hl3, sizeLine_eq]; omega
  have hn : H1 l = none := I2.hok.fresh hp
  have J : Inv X pins σ (upd H1 l (.lst (ys.map V.int))) { heap := s3.heap, gens := s3.gens, drawn := s3.drawn, toks := s3.toks, os := s1.os } :=
    Inv.call (s := { s1 with heap := h2, toks := t2 }) (ch := []) I2 (Un.laid kk hp hn) (I2.hok.laid kk hp ⟨hlen, out.toList, c, vals_of_ints hi, hgt⟩) (by rw [g]; exact I2.bare) (fun _ z => nomatch z)
  have e : s3 = { heap := s3.heap, gens := s3.gens, drawn := s3.drawn, toks := s3.toks, os := s1.os } := by
    cases s3
    cases o
    rfl
  rw [e]
  exact ⟨.ref l, _, J, rfl, q1 ys l hs3 (fun j => (hm3 j).trans ⟨fun z => of_decide_eq_true z, fun z => decide_eq_true z⟩) hn⟩
theorem ip_ext : PIp X .Add rExt2 := iop_ext
end
end L3G
namespace L3
open PySem L2
open Evl (Ex ex_rd ex_l ex_t sq_of st_of fresh_back)
/-- the ints, each once, ascending -/
def insZ (x : Int) : List Int → List Int
  | [] => [x]
  | y :: l => if x < y then x :: y :: l else if x = y then y :: l else y :: insZ x l
def setZ : List Int → List Int
  | [] => []
  | x :: l => insZ x (setZ l)
def lc2M {α β : Type} (f : α → Option (List β)) : List α → Option (List β)
  | [] => some []
  | x :: xs => match f x with
    | some ys => (match lc2M f xs with
      | some zs => some (ys ++ zs)
      | none => none)
    | none => none
def fmO {α β : Type} (f : α → Option (Option β)) : List α → Option (List β)
  | [] => some []
  | x :: xs => match f x with
    | some o => (match fmO f xs with
      | some zs => some (o.toList ++ zs)
      | none => none)
    | none => none
def dcMM {α β : Type} (f : α → Option (Int × β)) : List (Int × β) → List α → Option (List (Int × β))
  | kvs, [] => some kvs
  | kvs, x :: xs => match f x with
    | some q => dcMM f (putM kvs q.1 q.2) xs
    | none => none
theorem insZ_mem {x k : Int} : ∀ {l : List Int}, k ∈ insZ x l ↔ k = x ∨ k ∈ l
  | [] => by simp [insZ]
  | y :: l => by
    unfold insZ
    split
    · simp
    · split
      · rename_i e
        rw [e]; simp
      · rw [List.mem_cons, insZ_mem, List.mem_cons]
        exact ⟨fun h => h.elim (fun e => .inr (.inl e)) fun h => h.elim .inl fun h => .inr (.inr h), fun h => h.elim (fun e => .inr (.inl e)) fun h => h.elim .inl fun h => .inr (.inr h)⟩
theorem setZ_mem {k : Int} : ∀ {l : List Int}, k ∈ setZ l ↔ k ∈ l
  | [] => Iff.rfl
  | x :: l => by
    show k ∈ insZ x (setZ l) ↔ _
    rw [insZ_mem, setZ_mem, List.mem_cons]
theorem insZ_lt {x : Int} : ∀ {l : List Int}, l.Pairwise (· < ·) → (insZ x l).Pairwise (· < ·)
  | [], _ => by simp [insZ]
  | y :: l, h => by
    rw [List.pairwise_cons] at h
    unfold insZ
    split
    · rename_i e
      exact List.pairwise_cons.mpr ⟨fun z hz => (List.mem_cons.mp hz).elim (fun q => by rw [q]; exact e) fun q => Int.lt_trans e (h.1 z q), List.pairwise_cons.mpr h⟩
    · split
      · exact List.pairwise_cons.mpr h
      · refine List.pairwise_cons.mpr ⟨fun z hz => ?_, insZ_lt h.2⟩
        rcases insZ_mem.mp hz with q | q
        · omega
        · exact h.1 z q
theorem setZ_lt : ∀ l : List Int, (setZ l).Pairwise (· < ·)
  | [] => .nil
  | _ :: l => insZ_lt (setZ_lt l)
theorem nodup_sub_le : ∀ {l m : List Int}, l.Nodup → (∀ k ∈ l, k ∈ m) → l.length ≤ m.length
  | [], _, _, _ => Nat.zero_le _
  | x :: l, m, h, hs => by
    rw [List.nodup_cons] at h
    have hx := hs x List.mem_cons_self
    have ih := nodup_sub_le (m := m.erase x) h.2 fun k hk => (List.mem_erase_of_ne (fun e => h.1 (by rw [← e]; exact hk))).mpr (hs k (List.mem_cons_of_mem _ hk))
    rw [List.length_erase_of_mem hx] at ih
    have : 0 < m.length := List.length_pos_of_mem hx
    rw [List.length_cons]
    omega
theorem lt_unique : ∀ {l m : List Int}, l.Pairwise (· < ·) → m.Pairwise (· < ·) → (∀ k, k ∈ l ↔ k ∈ m) → l = m := fun {l m} h1 h2 h => by
  have p : l.Perm m := (List.perm_ext_iff_of_nodup (h1.imp fun {a b} h => Int.ne_of_lt h) (h2.imp fun {a b} h => Int.ne_of_lt h)).mpr h
  exact List.Perm.eq_of_pairwise (le := (· ≤ ·)) (fun a b _ _ x y => Int.le_antisymm x y) (h1.imp fun {a b} h => Int.le_of_lt h) (h2.imp fun {a b} h => Int.le_of_lt h) p
section
variable {K : Fg} {M : Fr} {σ : St} {B B' H H' : Hp} {L L1 L2 L3 L' : List Cell} {α β γ δ : Type} {r : Rep α} {s : Rep β} {t : Rep γ} {ta tb tc te tk tv : TE} {tt tt1 tu : TT} {tA : TA} {i j k : Int} {D : Ends} {tz : TS} {wi wi1 : TI} {g g1 : TG}
theorem el_sortSet {xs : List Int} (h : EV K M te σ B L (rLst rInt) xs L') (hl : room2 xs.length 96000 = some ()) (hf : few (setZ xs).length = some ()) : EVL K M (L3G.tSortSet K te) σ B L rInt (setZ xs) L' := fun B1 H e w Q q =>
  h B1 H e w _ fun v B2 H2 e2 w2 hv => by
    obtain ⟨p, vs, rfl, hs, hp⟩ := rl_sc hv
    refine ⟨p, xs, rfl, by rw [← ints_of hp]; exact ex_l w2.b hs, by have := room2_some hl; omega, fun l hn hm => ?_, fun ys l h1 h2 hl => ?_⟩
    · refine Nat.lt_of_le_of_lt ?_ (few_some hf)
      exact nodup_sub_le hn fun k hk => setZ_mem.mpr (hm k hk)
    · rw [lt_unique h1 (setZ_lt xs) fun k => (h2 k).trans setZ_mem.symm]
      exact q l B2 _ e2 (w2.new hl ⟨_, rfl, ints_paired _⟩)
/-- l += a list -/
theorem q_augL {n m : Nat} {p : Addr} {as bs : List α} (w : Own K B M L H) (hs : σ[m]? = some (some (.ref p))) (h : EV K M te σ B L (rLst r) bs L') (hc : L'[n]? = some ⟨p, cLst r, as⟩) (hr : room2 as.length bs.length = some ())
    (q : ∀ B' H', Ex B B' → Own K B' M (L'.set n ⟨p, cLst r, as ++ bs⟩) H' → tz D (σ.set m (some (.ref p))) H') : tSeq (tAug m te rExt2) tz D σ H :=
  ⟨_, hs, h B H (Ex.refl _) w _ fun v B' H' e w' hv => by
    obtain ⟨b, zs, rfl, hb, hp⟩ := hv
    obtain ⟨⟨o', g1, xs, g2, g3⟩, _⟩ := w'.at hc
    have g1 : H' p = some o' := g1
    refine ⟨p, b, xs, zs, rfl, rfl, by rw [g1, g2], w'.b _ _ hb, ?_, q B' _ e (w'.set hc ⟨_, rfl, paired_app g3 hp⟩)⟩
    rw [paired_len g3, paired_len hp]
    exact Evl.sz_of (room2_some hr)⟩
/-- {k: v for ..} -/
theorem ec_dcM {vs : List Nat} {σ' : St} {xs : List α} {kvs : List (Int × β)} (s : Rep β) (hi : EI K M wi σ B L r xs L1) (f : α → Option (Int × β)) (hm : dcMM f [] xs = some kvs) (hr : room xs.length = some ()) (hw : wipe σ vs = σ')
    (hs : ∀ x o v D acc B' H', f x = some o → Ex B B' → Own K B' M (⟨D, cMap s, acc⟩ :: L1) H' → r.is K B' v x → ∀ (PY : V → V → Hp → Prop) (PN : Hp → Prop),
      (∀ y z B2 H2, Ex B' B2 → Own K B2 M (⟨D, cMap s, acc⟩ :: L1) H2 → y = .int o.1 → s.is K B2 z o.2 → PY y z H2) →
      g v σ' H' fun σ2 H2 => wipe σ2 vs = σ' ∧ tYes σ2 H2 fun b H3 => if b = true then tk σ2 H3 fun y H4 => tv σ2 H4 fun z H5 => PY y z H5 else PN H3) :
    ENC K M (tDc wi g tYes tk tv vs) σ B L (cMap s) kvs L1 := fun B1 H e w Q q => by
  refine hi B1 H e w _ fun J B2 H2 e2 w2 wk => ?_
  intro D hD
  subst hw
  have w3 : Own K B2 M (⟨D, cMap s, []⟩ :: L1) (upd H2 D (.dK [])) := w2.new (c := cMap s) hD ⟨[], rfl, .nil⟩
  refine ⟨fun i m H' => m = xs.length - i ∧ i ≤ xs.length ∧ ∃ acc B', Ex B2 B' ∧ Own K B' M (⟨D, cMap s, acc⟩ :: L1) H' ∧ acc.length ≤ i ∧ dcMM f acc (xs.drop i) = some kvs,
    ⟨_, rfl, Nat.zero_le _, [], B2, Ex.refl _, w3, Nat.zero_le _, hm⟩, ?_⟩
  rintro i m H' ⟨rfl, hil, acc, B', eb, w', hacc, hz⟩
  by_cases hl : i = xs.length
  · subst hl
    rw [List.drop_length] at hz
    obtain rfl := Option.some.inj hz
    exact .inl ⟨wk.stop B' _ H' eb w', q D B' H' (e2.trans eb) w'⟩
  · have hlt : i < xs.length := by omega
    rw [List.drop_eq_getElem_cons hlt] at hz
    have hx : xs[i]? = some xs[i] := List.getElem?_eq_getElem hlt
    obtain ⟨g1, g2⟩ := wk.go i xs[i] B' _ H' eb w' hx
    unfold dcMM at hz
    cases hf : f xs[i] with
    | none => rw [hf] at hz; cases hz
    | some o =>
      rw [hf] at hz
      dsimp only at hz
      refine .inr ⟨g1, fun H5 => i + 1 ≤ xs.length ∧ ∃ acc B', Ex B2 B' ∧ Own K B' M (⟨D, cMap s, acc⟩ :: L1) H5 ∧ acc.length ≤ i + 1 ∧ dcMM f acc (xs.drop (i + 1)) = some kvs, fun H5 h5 => ⟨xs.length - (i + 1), by omega, rfl, h5⟩, fun x H4 hy => ?_⟩
      obtain ⟨B4, e4, w4, hrx⟩ := g2 x H4 hy
      have hb := (e.trans e2).trans (eb.trans e4)
      refine hs xs[i] o x D acc B4 H4 hf hb w4 hrx (fun y z H6 => ∃ kvs' k', y = kV k' ∧ H6 D = some (.dK kvs') ∧ kvs'.length < sizeLine ∧ (fun H5 => i + 1 ≤ xs.length ∧ ∃ acc B', Ex B2 B' ∧ Own K B' M (⟨D, cMap s, acc⟩ :: L1) H5 ∧ acc.length ≤ i + 1 ∧ dcMM f acc (xs.drop (i + 1)) = some kvs) (upd H6 D (.dK (putK kvs' k' z)))) _ fun y z B5 H5 e5 w5 hy hz' => ?_
      subst hy
      obtain ⟨⟨o', a1, es, a2, a3⟩, _⟩ := w5.at (i := 0) rfl
      have a1 : H5 D = some o' := a1
      refine ⟨es, Sum.inl o.1, rfl, by rw [a1, a2], ?_, hlt, putM acc o.1 o.2, B5, (eb.trans e4).trans e5, w5.set (i := 0) rfl (c' := cMap s) ⟨_, rfl, entM_put o.1 hz' a3⟩, ?_, hz⟩
      · have hq := room_some hr
        have : es.length = acc.length := paired_len a3
        omega
      · have := putM_len acc o.1 o.2
        omega
/-! two fors in a comprehension -/
theorem lc2_in {vs1 : List Nat} {σ2 σ3 : St} {Dd : Addr} {acc : List β} {ys : List γ} {out : List β} (s : Rep β) {Nx : Hp → Prop} (hi1 : EI K M wi1 σ2 B (⟨Dd, cLst s, acc⟩ :: L1) t ys (⟨Dd, cLst s, acc⟩ :: L1)) (w : Own K B M (⟨Dd, cLst s, acc⟩ :: L1) H)
    (f : γ → Option (Option β)) (hm : fmO f ys = some out) (ha : acc.length + out.length < sizeLine) (hw : wipe σ2 vs1 = σ3)
    (hs : ∀ y o v acc' B' H', f y = some o → Ex B B' → Own K B' M (⟨Dd, cLst s, acc'⟩ :: L1) H' → t.is K B' v y → ∀ (PY : VK) (PN : Hp → Prop),
      (∀ z B2 H2 b, o = some b → Ex B' B2 → Own K B2 M (⟨Dd, cLst s, acc'⟩ :: L1) H2 → s.is K B2 z b → PY z H2) → (∀ B2 H2, o = none → Ex B' B2 → Own K B2 M (⟨Dd, cLst s, acc'⟩ :: L1) H2 → PN H2) →
      g1 v σ3 H' fun σ4 H5 => wipe σ4 vs1 = σ3 ∧ tt1 σ4 H5 fun b H6 => if b = true then te σ4 H6 PY else PN H6)
    (q : ∀ B2 H2, Ex B B2 → Own K B2 M (⟨Dd, cLst s, acc ++ out⟩ :: L1) H2 → Nx H2) :
    wi1 σ2 H fun J1 H4 => ∃ W1 : Nat → Nat → Hp → Prop, (∃ m, W1 0 m H4) ∧ ∀ j k H, W1 j k H →
      (J1.stop j H ∧ Nx H) ∨ (J1.go j H ∧ ∃ Nx1 : Hp → Prop, (∀ H', Nx1 H' → ∃ k', k' < k ∧ W1 (j + 1) k' H') ∧ ∀ x H', J1.yld j H x H' → g1 x (wipe σ2 vs1) H' fun σ3 H5 => wipe σ3 vs1 = wipe σ2 vs1 ∧ tt1 σ3 H5 fun b H6 =>
        if b = true then te σ3 H6 fun y H7 => ∃ acc, H7 Dd = some (.lst acc) ∧ acc.length < sizeLine ∧ Nx1 (upd H7 Dd (.lst (acc ++ [y]))) else Nx1 H6) := by
  refine hi1 B H (Ex.refl _) w _ fun J B2 H2 e2 w2 wk => ?_
  subst hw
  refine ⟨fun i m H' => m = ys.length - i ∧ i ≤ ys.length ∧ ∃ a1 B', Ex B2 B' ∧ Own K B' M (⟨Dd, cLst s, a1⟩ :: L1) H' ∧ ∃ zs, fmO f (ys.drop i) = some zs ∧ a1 ++ zs = acc ++ out,
    ⟨_, rfl, Nat.zero_le _, acc, B2, Ex.refl _, w2, out, hm, rfl⟩, ?_⟩
  rintro i m H' ⟨rfl, hil, a1, B', eb, w', zs, hz, hzs⟩
  by_cases hl : i = ys.length
  · subst hl
    rw [List.drop_length] at hz
    obtain rfl := Option.some.inj hz
    rw [List.append_nil] at hzs
    subst hzs
    exact .inl ⟨wk.stop B' _ H' eb w', q B' H' (e2.trans eb) w'⟩
  · have hlt : i < ys.length := by omega
    rw [List.drop_eq_getElem_cons hlt] at hz
    have hx : ys[i]? = some ys[i] := List.getElem?_eq_getElem hlt
    obtain ⟨g2, g3⟩ := wk.go i ys[i] B' _ H' eb w' hx
    unfold fmO at hz
    cases hf : f ys[i] with
    | none => rw [hf] at hz; cases hz
    | some o =>
      rw [hf] at hz
      dsimp only at hz
      cases hc : fmO f (ys.drop (i + 1)) with
      | none => rw [hc] at hz; cases hz
      | some zs' =>
        rw [hc] at hz
        obtain rfl := Option.some.inj hz
        refine .inr ⟨g2, fun H5 => i + 1 ≤ ys.length ∧ ∃ a1 B', Ex B2 B' ∧ Own K B' M (⟨Dd, cLst s, a1⟩ :: L1) H5 ∧ ∃ zs, fmO f (ys.drop (i + 1)) = some zs ∧ a1 ++ zs = acc ++ out, fun H5 h5 => ⟨ys.length - (i + 1), by omega, rfl, h5⟩, fun x H4 hy => ?_⟩
        obtain ⟨B4, e4, w4, hrx⟩ := g3 x H4 hy
        refine hs ys[i] o x a1 B4 H4 hf (e2.trans (eb.trans e4)) w4 hrx (fun y H6 => ∃ acc', H6 Dd = some (.lst acc') ∧ acc'.length < sizeLine ∧ (fun H5 => i + 1 ≤ ys.length ∧ ∃ a1 B', Ex B2 B' ∧ Own K B' M (⟨Dd, cLst s, a1⟩ :: L1) H5 ∧ ∃ zs, fmO f (ys.drop (i + 1)) = some zs ∧ a1 ++ zs = acc ++ out) (upd H6 Dd (.lst (acc' ++ [y])))) _ (fun y B5 H5 b' ho e5 w5 hyb => ?_) (fun B5 H5 ho e5 w5 => ?_)
        · subst ho
          obtain ⟨⟨o', b1, vs', b2, b3⟩, _⟩ := w5.at (i := 0) rfl
          have b1 : H5 Dd = some o' := b1
          have hle : vs'.length = a1.length := paired_len b3
          have hle2 := congrArg List.length hzs
          simp only [List.length_append, Option.toList_some, List.length_singleton] at hle2
          refine ⟨vs', by rw [b1, b2], ?_, hlt, a1 ++ [b'], B5, (eb.trans e4).trans e5, w5.set (i := 0) rfl (c' := cLst s) ⟨_, rfl, paired_app b3 (.cons hyb .nil)⟩, zs', hc, by simpa using hzs⟩
          omega
        · subst ho
          exact ⟨hlt, a1, B5, (eb.trans e4).trans e5, w5, zs', hc, by simpa using hzs⟩
theorem el_lc2 {vs vs1 : List Nat} {σ' : St} {xs : List α} {zs : List β} (s : Rep β) (hi : EI K M wi σ B L r xs L1) (f : α → Option (List β)) (hm : lc2M f xs = some zs) (hr : room zs.length = some ()) (hw : wipe σ vs = σ')
    (hs : ∀ x ys v Dd acc B' H', f x = some ys → acc.length + ys.length < sizeLine → Ex B B' → Own K B' M (⟨Dd, cLst s, acc⟩ :: L1) H' → r.is K B' v x → ∀ (Nx : Hp → Prop),
      (∀ B2 H2, Ex B' B2 → Own K B2 M (⟨Dd, cLst s, acc ++ ys⟩ :: L1) H2 → Nx H2) →
      g v σ' H' fun σ2 H2 => wipe σ2 vs = σ' ∧ tt σ2 H2 fun b H3 => if b = true then wi1 σ2 H3 fun J1 H4 => ∃ W1 : Nat → Nat → Hp → Prop, (∃ m, W1 0 m H4) ∧ ∀ j k H, W1 j k H →
      (J1.stop j H ∧ Nx H) ∨ (J1.go j H ∧ ∃ Nx1 : Hp → Prop, (∀ H', Nx1 H' → ∃ k', k' < k ∧ W1 (j + 1) k' H') ∧ ∀ x H', J1.yld j H x H' → g1 x (wipe σ2 vs1) H' fun σ3 H5 => wipe σ3 vs1 = wipe σ2 vs1 ∧ tt1 σ3 H5 fun b H6 =>
        if b = true then te σ3 H6 fun y H7 => ∃ acc, H7 Dd = some (.lst acc) ∧ acc.length < sizeLine ∧ Nx1 (upd H7 Dd (.lst (acc ++ [y]))) else Nx1 H6) else Nx H3) :
    EVL K M (tLc2 wi g tt wi1 g1 tt1 te vs vs1) σ B L s zs L1 := fun B1 H e w Q q => by
  refine hi B1 H e w _ fun J B2 H2 e2 w2 wk => ?_
  intro Dd hD
  subst hw
  have w3 : Own K B2 M (⟨Dd, cLst s, []⟩ :: L1) (upd H2 Dd (.lst [])) := w2.new hD ⟨[], rfl, .nil⟩
  refine ⟨fun i m H' => m = xs.length - i ∧ i ≤ xs.length ∧ ∃ acc B', Ex B2 B' ∧ Own K B' M (⟨Dd, cLst s, acc⟩ :: L1) H' ∧ ∃ ws, lc2M f (xs.drop i) = some ws ∧ acc ++ ws = zs,
    ⟨_, rfl, Nat.zero_le _, [], B2, Ex.refl _, w3, zs, hm, rfl⟩, ?_⟩
  rintro i m H' ⟨rfl, hil, acc, B', eb, w', ws, hz, hzs⟩
  by_cases hl : i = xs.length
  · subst hl
    rw [List.drop_length] at hz
    obtain rfl := Option.some.inj hz
    rw [List.append_nil] at hzs
    subst hzs
    exact .inl ⟨wk.stop B' _ H' eb w', q Dd B' H' (e2.trans eb) w'⟩
  · have hlt : i < xs.length := by omega
    rw [List.drop_eq_getElem_cons hlt] at hz
    have hx : xs[i]? = some xs[i] := List.getElem?_eq_getElem hlt
    obtain ⟨g2, g3⟩ := wk.go i xs[i] B' _ H' eb w' hx
    unfold lc2M at hz
    cases hf : f xs[i] with
    | none => rw [hf] at hz; cases hz
    | some ys =>
      rw [hf] at hz
      dsimp only at hz
      cases hc : lc2M f (xs.drop (i + 1)) with
      | none => rw [hc] at hz; cases hz
      | some ws' =>
        rw [hc] at hz
        obtain rfl := Option.some.inj hz
        refine .inr ⟨g2, fun H5 => i + 1 ≤ xs.length ∧ ∃ acc B', Ex B2 B' ∧ Own K B' M (⟨Dd, cLst s, acc⟩ :: L1) H5 ∧ ∃ ws, lc2M f (xs.drop (i + 1)) = some ws ∧ acc ++ ws = zs, fun H5 h5 => ⟨xs.length - (i + 1), by omega, rfl, h5⟩, fun x H4 hy => ?_⟩
        obtain ⟨B4, e4, w4, hrx⟩ := g3 x H4 hy
        have hle := congrArg List.length hzs
        simp only [List.length_append] at hle
        have hq := room_some hr
        refine hs xs[i] ys x Dd acc B4 H4 hf ?_ ((e.trans e2).trans (eb.trans e4)) w4 hrx _ fun B5 H5 e5 w5 => ⟨hlt, acc ++ ys, B5, (eb.trans e4).trans e5, w5, ws', hc, by simpa using hzs⟩
        omega
theorem lc2_go {G N : Hp → Prop} (h : G H) : tYes σ H fun b H3 => if b = true then G H3 else N H3 := by
  show if true = true then G H else N H
  rw [if_pos rfl]; exact h
theorem nt_map : NT (cMap r) := ⟨fun h => by
  obtain ⟨es, h, _⟩ := h
  subst h; trivial⟩
end
end L3

/-! sorted(xs), xs a list of data of one kind, nested -/
namespace L3G
open PySem PySem.Spec PyProof.Rows L2
/-- the values of vs as their data ds stand sorted -/
def sortVD (vs : List V) (ds : List PyData) : List V := ((vs.zip ds).mergeSort fun p q => !PySem.W.dataLt q.2 p.2).map (·.1)
def rSortDat (K : PySem.W.Frag) : List V → Hp → VK → Prop := fun xs H Q => ∃ (a : Addr) (vs : List V) (ds : List PyData), xs = [.ref a] ∧ SqL K H a vs ∧ DpAll K H vs ds ∧ PySem.W.AllAlike ds ∧ PySem.W.Sortable ds ∧ (∀ d ∈ ds, d.depth ≤ 60) ∧
  ∀ p, H p = none → Q (.ref p) (upd H p (.lst (sortVD vs ds)))
theorem vals_each {P : V → Value → Prop} (hP : ∀ v u, P v u → RelV v u) : ∀ {us : List Value} {ps : List (V × PyData)}, PySem.W.EachIs (fun u (p : V × PyData) => RelV p.1 u) us ps → Vals (ps.map (·.1)) us
  | _, _, .nil => .nil
  | _, _, .cons h t => .cons h (vals_each hP t)
theorem each_zip {K : PySem.W.Frag} {H : Hp} : ∀ {vs : List V} {us : List Value} {ds : List PyData}, Vals vs us → DpAll K H vs ds → PySem.W.EachIs (fun u (p : V × PyData) => RelV p.1 u) us (vs.zip ds)
  | [], _, _, .nil, .nil => .nil
  | _ :: _, _, _, .cons r t, .cons _ h => .cons r (each_zip t h)
theorem each_key {α : Type} {P : Value → α → Prop} {K : PySem.W.Frag} {H : Hp} (f : PyData → α) {ms : List PyData} (hf : ∀ u v d, RelV v u → Dp K H v d → d ∈ ms → P u (f d)) : ∀ {vs : List V} {us : List Value} {ds : List PyData}, (∀ d ∈ ds, d ∈ ms) → Vals vs us → DpAll K H vs ds → PySem.W.EachIs (fun u (p : V × PyData) => P u (f p.2)) us (vs.zip ds)
  | [], _, _, _, .nil, .nil => .nil
  | _ :: _, _, _, hm, .cons r t, .cons d h => .cons (hf _ _ _ r d (hm _ List.mem_cons_self)) (each_key f hf (fun d hd => hm d (List.mem_cons_of_mem _ hd)) t h)
theorem each_dat {K : PySem.W.Frag} {H : Hp} {R : Value → PyData → Prop} (hf : ∀ u v d, RelV v u → Dp K H v d → R u d) : ∀ {vs : List V} {us : List Value} {ds : List PyData}, Vals vs us → DpAll K H vs ds → PySem.W.EachIs R us ds
  | [], _, _, .nil, .nil => .nil
  | _ :: _, _, _, .cons r t, .cons d h => .cons (hf _ _ _ r d) (each_dat hf t h)
theorem dpAll_len' {K : PySem.W.Frag} {H : Hp} : ∀ {vs : List V} {ds : List PyData}, DpAll K H vs ds → vs.length = ds.length
  | _, _, .nil => rfl
  | _, _, .cons _ t => congrArg (· + 1) (dpAll_len' t)
mutual
theorem reads_keeps {h h' : Heap} (k : ∀ b o, h.get? b = some o → h'.get? b = some o) : ∀ {v : Value} {d : PyData} {as : List Addr}, Reads h v d as → Reads h' v d as
  | _, _, _, .none => .none
  | _, _, _, .bool b => .bool b
  | _, _, _, .int i t => .int i t
  | _, _, _, .str x t => .str x t
  | _, _, _, .list a b c d => .list (k _ _ a) b c (readsAll_keeps k d)
  | _, _, _, .tuple a b c d => .tuple (k _ _ a) b c (readsAll_keeps k d)
  | _, _, _, .dict a b c d e => .dict (k _ _ a) b c (readsAll_keeps k d) (readsAll_keeps k e)
theorem readsAll_keeps {h h' : Heap} (k : ∀ b o, h.get? b = some o → h'.get? b = some o) : ∀ {vs : List Value} {ds : List PyData} {as : List Addr}, ReadsAll h vs ds as → ReadsAll h' vs ds as
  | _, _, _, .nil => .nil
  | _, _, _, .cons a b => .cons (reads_keeps k a) (readsAll_keeps k b)
end
section
variable {X : Cx}
theorem cr_sortDat (hu : X.A.units + 64 < cLine) : CallR X (.builtin "sorted") (rSortDat X.K) := by
  intro pins s σ H xs us Q I r h
  obtain ⟨a, vs, ds, rfl, hs, hd, hal, hso, hdep, q⟩ := h
  obtain ⟨u, rfl, ru⟩ := vals1 r
  obtain rfl : u = Value.ref a := ru
  obtain ⟨its, rv, hl, hz⟩ := I.list hs
  have hlen : its.length ≤ sizeLine := by rw [← rv.length]; exact hz
  have rd0 : PySem.W.EachIs (fun v d => ∃ as, Reads s.heap v d as) its ds := each_dat (fun u v d r h => Dp.reads I d v u h r) rv hd
  have kp : ∀ b o, s.heap.get? b = some o → (PySem.W.sortingHeap (PySem.W.copyHeap s.heap its) (s.heap.objs.size + 1) its).get? b = some o := fun b o e => PySem.W.sorting_copy_old e
  refine PySem.W.sorted_vals (κ := PySem.W.dataKind (PySem.W.sortingHeap (PySem.W.copyHeap s.heap its) (s.heap.objs.size + 1) its) ds) hl.isList (PySem.W.SortsAt.data (s := { s with heap := PySem.W.sortingHeap (PySem.W.copyHeap s.heap its) (s.heap.objs.size + 1) its }) (rd0.mono fun v d ⟨as, e⟩ => ⟨as, reads_keeps kp e⟩) hal hso fun d hd => ?_) hlen ?_
  · have := hdep d hd
    have e1 : X.A.in1.in1.units = X.A.units + 2 := rfl
    omega
  · have out := PySem.W.sortVals_each (κ := PySem.W.dataKind (PySem.W.sortingHeap (PySem.W.copyHeap s.heap its) (s.heap.objs.size + 1) its) ds) (R := fun u (p : V × PyData) => RelV p.1 u) (rev := false) (ks := its) (vs := its) (bs := vs.zip ds) (fun p => PySem.W.keyToks p.2) (each_zip rv hd)
      (each_key (P := fun u k => (PySem.W.dataKind (PySem.W.sortingHeap (PySem.W.copyHeap s.heap its) (s.heap.objs.size + 1) its) ds).keyOf u = some k) PySem.W.keyToks (ms := ds) (fun u v d r h hm => by
        obtain ⟨as, e⟩ := Dp.reads I d v u h r
        exact PySem.W.dataKind_some hal hm (reads_keeps kp e)) (fun _ h => h) rv hd)
    have out := vals_each (P := RelV) (fun _ _ h => h) out
    obtain ⟨n, hn⟩ := sortedAll_at s.heap its (PySem.W.sortVals (PySem.W.dataKind (PySem.W.sortingHeap (PySem.W.copyHeap s.heap its) (s.heap.objs.size + 1) its) ds) false its its).toArray
    have hp : s.heap.objs.size ≤ s.heap.objs.size + 1 := Nat.le_succ _
    refine ⟨.ref (s.heap.objs.size + 1), upd H (s.heap.objs.size + 1) (.lst (sortVD vs ds)), I.laid (t' := s.toks) (fun b o e => sortedAll_old e) hp ⟨?_, _, n, out, hn⟩, rfl, q _ (I.hok.fresh hp)⟩
    show (sortVD vs ds).length ≤ sizeLine
    unfold sortVD
    rw [List.length_map, (List.mergeSort_perm _ _).length_eq, List.length_zip, dpAll_len' hd, Nat.min_self, ← dpAll_len' hd]
    exact hz
end
end L3G
namespace L3
open PySem L2
open Evl (Ex ex_rd ex_l ex_t sq_of st_of fresh_back)
/-- data of one kind are alike, place by place -/
structure DA {α : Type} (f : α → PyData) : Prop where
  al : ∀ a b, PySem.W.alike (f a) (f b) = true
theorem da_int : DA PyData.int := ⟨fun _ _ => rfl⟩
theorem da_str : DA PyData.str := ⟨fun _ _ => rfl⟩
section
variable {α β γ : Type} {f : α → PyData} {g : β → PyData} {h : γ → PyData}
theorem alikeAll_map (d : DA f) : ∀ l m : List α, PySem.W.alikeAll (l.map f) (m.map f) = true
  | [], _ => by simp [PySem.W.alikeAll]
  | _ :: _, [] => by simp [PySem.W.alikeAll]
  | a :: l, b :: m => by
    rw [List.map_cons, List.map_cons]
    simp only [PySem.W.alikeAll, d.al a b, alikeAll_map d l m, Bool.and_self]
theorem da_tup (d : DA f) : DA (dTup f) := ⟨fun a b => by simpa [dTup, PySem.W.alike] using alikeAll_map d a b⟩
theorem da_lst (d : DA f) : DA (dLst f) := ⟨fun a b => by simpa [dLst, PySem.W.alike] using alikeAll_map d a b⟩
theorem da_T2 (d : DA f) (e : DA g) : DA (dT2 f g) := ⟨fun a b => by simp [dT2, PySem.W.alike, PySem.W.alikeAll, d.al, e.al]⟩
theorem da_T3 (d : DA f) (e : DA g) (c : DA h) : DA (dT3 f g h) := ⟨fun a b => by simp [dT3, PySem.W.alike, PySem.W.alikeAll, d.al, e.al, c.al]⟩
end
/-- such data may be sorted by Python -/
structure DSo {α : Type} (f : α → PyData) : Prop where
  so : ∀ l : List α, PySem.W.Sortable (l.map f)
section
variable {α β γ : Type} {f : α → PyData} {g : β → PyData} {h : γ → PyData}
theorem so_lst : DSo (dLst f) := ⟨fun l => .inr fun d hd => by
  obtain ⟨a, _, rfl⟩ := List.mem_map.mp hd
  exact ⟨(fun e => by unfold dLst at e; cases e), (fun xs e => by unfold dLst at e; cases e)⟩⟩
theorem so_T2 : DSo (dT2 f g) := ⟨fun l => .inl fun d hd => by
  obtain ⟨a, _, rfl⟩ := List.mem_map.mp hd
  exact ⟨_, _, rfl⟩⟩
theorem so_T3 : DSo (dT3 f g h) := ⟨fun l => .inl fun d hd => by
  obtain ⟨a, _, rfl⟩ := List.mem_map.mp hd
  exact ⟨_, _, rfl⟩⟩
end
/-- sorted(xs) of data -/
def sortBy {α : Type} (f : α → PyData) (l : List α) : List α := l.mergeSort fun a b => !PySem.W.dataLt (f b) (f a)
section
variable {K : Fg} {M : Fr} {σ : St} {B : Hp} {L L' : List Cell} {α : Type} {r : Rep α} {te : TE} {f : α → PyData} {n : Nat}
theorem paired_zip : ∀ {vs : List V} {as : List α}, Paired (r.is K B) vs as → (∀ p ∈ vs.zip as, r.is K B p.1 p.2) ∧ (vs.zip as).map (·.1) = vs ∧ (vs.zip as).map (·.2) = as
  | _, _, .nil => ⟨fun _ h => absurd h (by simp), rfl, rfl⟩
  | _, _, .cons h t => by
    obtain ⟨h1, h2, h3⟩ := paired_zip t
    refine ⟨fun p hp => ?_, ?_, ?_⟩
    · rw [List.zip_cons_cons] at hp
      rcases List.mem_cons.mp hp with e | hp
      · rw [e]; exact h
      · exact h1 p hp
    · rw [List.zip_cons_cons, List.map_cons, h2]
    · rw [List.zip_cons_cons, List.map_cons, h3]
theorem paired_of_all : ∀ (l : List (V × α)), (∀ p ∈ l, r.is K B p.1 p.2) → Paired (r.is K B) (l.map (·.1)) (l.map (·.2))
  | [], _ => .nil
  | p :: l, h => .cons (h p List.mem_cons_self) (paired_of_all l fun q hq => h q (List.mem_cons_of_mem _ hq))
theorem sortVD_is {vs : List V} {as : List α} (hp : Paired (r.is K B) vs as) : Paired (r.is K B) (L3G.sortVD vs (as.map f)) (sortBy f as) := by
  obtain ⟨h1, h2, h3⟩ := paired_zip hp
  have e1 : L3G.sortVD vs (as.map f) = ((vs.zip as).mergeSort fun p q => !PySem.W.dataLt (f q.2) (f p.2)).map (·.1) := by
    unfold L3G.sortVD
    rw [List.zip_map_right, ← PySem.W.sort_maps (r := fun (p q : V × α) => !PySem.W.dataLt (f q.2) (f p.2)) (Prod.map id f) fun a _ b _ => rfl, List.map_map]
    rfl
  have e2 : sortBy f as = ((vs.zip as).mergeSort fun p q => !PySem.W.dataLt (f q.2) (f p.2)).map (·.2) := by
    unfold sortBy
    rw [PySem.W.sort_maps (s := fun (a b : α) => !PySem.W.dataLt (f b) (f a)) (fun p : V × α => p.2) fun a _ b _ => rfl, h3]
  rw [e1, e2]
  exact paired_of_all _ fun p hp => h1 p ((List.mergeSort_perm _ _).mem_iff.mp hp)
theorem el_sortDat {xs : List α} (D : DR r f n) (hn : n ≤ 60) (A : DA f) (S : DSo f) (h : EV K M te σ B L (rLst r) xs L') : EVL K M (tCB (L3G.rSortDat K) (tCons te tNil)) σ B L r (sortBy f xs) L' := fun B1 H e w Q q =>
  h B1 H e w _ fun v B2 H2 e2 w2 hv => by
    obtain ⟨p, vs, rfl, hs, hp⟩ := rl_sc hv
    refine ⟨p, vs, xs.map f, rfl, ex_l w2.b hs, dpAll_mono w2.b (dpAll_of (D.dp K B2) hp), fun d hd d' hd' => ?_, S.so xs, fun d hd => ?_, fun l hl => q l B2 _ e2 (w2.new hl ⟨_, rfl, sortVD_is hp⟩)⟩
    · obtain ⟨a, _, rfl⟩ := List.mem_map.mp hd
      obtain ⟨b, _, rfl⟩ := List.mem_map.mp hd'
      exact A.al a b
    · obtain ⟨a, _, rfl⟩ := List.mem_map.mp hd
      exact Nat.le_trans (D.dep a) hn
end
end L3

namespace L3
open PySem L2
open Evl (Ex ex_rd ex_l ex_t sq_of st_of fresh_back)
def top (i : Nat) : Stmt := PySem.Challenge.pw_bestodds_k09_closed_parts.main.body.getD i (.Pass ⟨0, 0, 0, 0⟩)
abbrev s_reached_from : Stmt := top 1
abbrev s_components : Stmt := top 2
abbrev s_edges_of : Stmt := top 3
abbrev s_pruned : Stmt := top 4
abbrev s_without_exits : Stmt := top 5
abbrev s_closed_parts : Stmt := top 6
abbrev s__law_tape : Stmt := top 8
abbrev s__law_draw : Stmt := top 9
abbrev s__law_take : Stmt := top 11
abbrev s__law_equal : Stmt := top 10
abbrev s__law_ends : Stmt := top 12
abbrev s__law_choices : Stmt := top 13
abbrev s__law_system : Stmt := top 14
abbrev s__law_some : Stmt := top 15
abbrev s__law_part : Stmt := top 16
abbrev s__law_connected : Stmt := top 17
abbrev s__law_due : Stmt := top 18
abbrev s_law : Stmt := top 19
end L3
namespace L3
open PySem PySem.Spec PyProof.Rows L2
namespace End
def d_reached_from : He.DefD := ⟨("reached_from", none), "reached_from", "reached_from", defArgs s_reached_from, defBody s_reached_from, defScope s_reached_from, [], []⟩
def d_edges_of : He.DefD := ⟨("edges_of", none), "edges_of", "edges_of", defArgs s_edges_of, defBody s_edges_of, defScope s_edges_of, [], []⟩
def d__law_tape : He.DefD := ⟨("_law_tape", none), "_law_tape", "_law_tape", defArgs s__law_tape, defBody s__law_tape, defScope s__law_tape, [], []⟩
def d__law_draw : He.DefD := ⟨("_law_draw", none), "_law_draw", "_law_draw", defArgs s__law_draw, defBody s__law_draw, defScope s__law_draw, [], []⟩
def d__law_part : He.DefD := ⟨("_law_part", none), "_law_part", "_law_part", defArgs s__law_part, defBody s__law_part, defScope s__law_part, [], []⟩
def d__law_connected : He.DefD := ⟨("_law_connected", none), "_law_connected", "_law_connected", defArgs s__law_connected, defBody s__law_connected, defScope s__law_connected, [], []⟩
def d_components : He.DefD := ⟨("components", none), "components", "components", defArgs s_components, defBody s_components, defScope s_components, [], []⟩
def d_pruned : He.DefD := ⟨("pruned", none), "pruned", "pruned", defArgs s_pruned, defBody s_pruned, defScope s_pruned, [], []⟩
def d_without_exits : He.DefD := ⟨("without_exits", none), "without_exits", "without_exits", defArgs s_without_exits, defBody s_without_exits, defScope s_without_exits, [], []⟩
def d__law_take : He.DefD := ⟨("_law_take", none), "_law_take", "_law_take", defArgs s__law_take, defBody s__law_take, defScope s__law_take, [], []⟩
def d__law_due : He.DefD := ⟨("_law_due", none), "_law_due", "_law_due", defArgs s__law_due, defBody s__law_due, defScope s__law_due, [], []⟩
def d_closed_parts : He.DefD := ⟨("closed_parts", none), "closed_parts", "closed_parts", defArgs s_closed_parts, defBody s_closed_parts, defScope s_closed_parts, [], []⟩
def d__law_ends : He.DefD := ⟨("_law_ends", none), "_law_ends", "_law_ends", defArgs s__law_ends, defBody s__law_ends, defScope s__law_ends, [], []⟩
def d__law_some : He.DefD := ⟨("_law_some", none), "_law_some", "_law_some", defArgs s__law_some, defBody s__law_some, defScope s__law_some, [], []⟩
def d__law_choices : He.DefD := ⟨("_law_choices", none), "_law_choices", "_law_choices", defArgs s__law_choices, defBody s__law_choices, defScope s__law_choices, [], []⟩
def d__law_system : He.DefD := ⟨("_law_system", none), "_law_system", "_law_system", defArgs s__law_system, defBody s__law_system, defScope s__law_system, [], []⟩
def d__law_equal : He.DefD := ⟨("_law_equal", none), "_law_equal", "_law_equal", defArgs s__law_equal, defBody s__law_equal, defScope s__law_equal, [], []⟩
def d_law : He.DefD := ⟨("law", none), "law", "law", defArgs s_law, defBody s_law, defScope s_law, [], []⟩
def fn : List He.DefD := [d_reached_from, d_edges_of, d__law_tape, d__law_draw, d__law_part, d__law_connected, d_components, d_pruned, d_without_exits, d__law_take, d__law_due, d_closed_parts, d__law_ends, d__law_some, d__law_choices, d__law_system, d__law_equal, d_law]
def fa : List He.Fa := [.glo "reached_from", .glo "edges_of", .glo "_law_tape", .glo "_law_draw", .glo "_law_part", .glo "_law_connected", .glo "components", .glo "pruned", .glo "without_exits", .glo "_law_take", .glo "_law_due", .glo "closed_parts", .glo "_law_ends", .glo "_law_some", .glo "_law_choices", .glo "_law_system", .glo "_law_equal", .glo "law", .free "len", .free "sorted", .free "set", .free "int", .free "range", .free "tuple", .free "min", .free "all", .free "list", .free "isinstance", .free "bool", .free "str"]
def tf : List He.Defn := [("pruned", none), ("without_exits", none)]
def tfa : List He.Defn := tf
def ts : List He.Tab := []
def ex : PySem.W.Frag → Bool := fun K => true
def loose0 : List PySem.Str := ["reached_from", "components", "edges_of", "pruned", "without_exits", "closed_parts", "_law_tape", "_law_draw", "_law_equal", "_law_take", "_law_ends", "_law_choices", "_law_system", "_law_some", "_law_part", "_law_connected", "_law_due"]
abbrev loose : List PySem.Str := loose0
abbrev R : PySem.W.OpenRow := PySem.W.OpenLaw.row PySem.Challenge.rw_bestodds_k09_closed_parts
abbrev hk : PySem.W.Hook := He.hookX 6 fa fn ts tfa ex
def ob (s : PySem.W.SharedT) : He.AlX := He.obsX 6 fa fn ts tfa ex (HandSHeadRun.getT s)
theorem ob_eq (s : PySem.W.SharedT) : ob s = hk.obs s.abs := He.obsX_eq (HandSHeadRun.getT_eq s)
theorem run (w : World) : HandSHeadRun.RunEq R (PySem.W.view R.prog [19]) hk ob 4000 loose w := by
  intro os
  kernel_rfl
end End
end L3
namespace L3
open PySem L2
open Evl (Ex ex_rd ex_l ex_t sq_of st_of fresh_back)
section
variable {P : Program} {w : World} {K : PySem.W.Frag} {mg : Str → Option Value} {base : Heap} {f : Addr} {fd : FuncData} {T : List Addr} {cc : Addr}
noncomputable def m_reached_from (a0 : (List (Int × (List Int)))) (a1 : Int) : Option (List Int) :=
  Option.bind (whileB (S := (Int × (List Int))) (fun (s15 : (Int × (List Int))) => (
    if (decide (s15.1 < (s15.2.length : Int))) = true then
      Option.bind (ixL s15.2 s15.1) fun t40 =>
      Option.bind (getM a0 t40) fun t42 =>
      Option.bind (room t42.length) fun t73 =>
      Option.bind (compM (S := Unit) (β := Int) (fun (s44 : Unit) (x51 : Int) => ( if (!decide (x51 ∈ s15.2)) = true then ( some (some x51, ())) else some (none, ()))) (()) t42) fun t75 =>
      Option.bind (room2 s15.2.length t75.1.length) fun t77 =>
      some (Stp.nx (((s15.1 + (1 : Int)), (s15.2 ++ t75.1))))
    else
      some (Stp.bk ((s15.1, s15.2)))
  )) (((0 : Int), [a1]))) fun s83 =>
  some s83.2
def C_reached_from : List Arg → List Cell → Arg → List Cell → Prop := fun as L r L' => ∃ a0 a1 c, as = [⟨(rDic (rLst rInt)), a0⟩, ⟨rInt, a1⟩] ∧ L = [] ∧ m_reached_from a0 a1 = some c ∧ r = ⟨(rLst rInt), c⟩ ∧ L' = []
theorem sc_reached_from : FnScope ["edges", "start", "found", "place", "goal"] ["edges", "start"] (defScope s_reached_from) := ⟨rfl, rfl, rfl, by decide +kernel, rfl, by decide +kernel, by decide +kernel⟩
set_option maxHeartbeats 0 in
theorem ok_reached_from (F : FunC K "reached_from" s_reached_from f fd cc) (z_len : mg "len" = none) : FnOk P w K mg base CX0 1 f fd ["edges", "start"] (spV K T C_reached_from) := by
  refine F.ok sc_reached_from (fun vs H Q E h => ?_) (fun A outer s H vs Q E hr h => ?_)
  · obtain ⟨B, M, L, as, r, L', hT, w, ha, ⟨_, _, _, rfl, _⟩, k⟩ := h
    exact args_len ha
  · skip
    obtain ⟨B, M, L, as, r, L', rfl, w, ha, ⟨a0, a1, c, rfl, rfl, hm, rfl, rfl⟩, k⟩ := h
    obtain ⟨u0, u1, rfl, f0, f1⟩ := args2 ha
    replace f0 : ((rDic (rLst rInt))).is K B u0 a0 := f0
    replace f1 : (rInt).is K B u1 a1 := f1
    unfold m_reached_from at hm
    refine ⟨_, (pss_cons (ps_set (i := 2) sc_reached_from.nd rfl (by first | exact Or.inl rfl | exact Or.inr rfl | exact Or.inr (Or.inl rfl) | exact Or.inr (Or.inr rfl)) (pe_lst (pa_cons (pv 1) pa_nil))) (pss_cons (ps_set (i := 3) sc_reached_from.nd rfl (by first | exact Or.inl rfl | exact Or.inr rfl | exact Or.inr (Or.inl rfl) | exact Or.inr (Or.inr rfl)) pe_int) (pss_cons (ps_while PassesOwn.never (pt_cmpR op_lt (pv 3) (pe_callB call_len_seq rfl z_len bt_len (pa_cons (pv 2) pa_nil)) (nomark _)) (pss_cons (ps_aug (i := 2) sc_reached_from.nd rfl (by first | exact Or.inl rfl | exact Or.inr rfl | exact Or.inr (Or.inl rfl) | exact Or.inr (Or.inr rfl)) (pe_lc rfl sc_reached_from.nd (pi_list (pe_dget (by have := room_hu hr; exact Nat.lt_of_le_of_lt (Nat.add_le_add_left (by decide) _) this) (pv 0) (pe_ix ix_seq (pv 2) (pv 3) (fun _ _ => rfl)) (fun _ _ => rfl))) (blkOk_by (own := [("goal", 4)]) (show blkC ["edges", "start", "found", "place", "goal"] (defScope s_reached_from) _ _ = true by decide +kernel)) (fun _ _ _ _ _ => (pg_name (i := 4) sc_reached_from.nd rfl (by first | exact Or.inl rfl | exact Or.inr rfl | exact Or.inr (Or.inl rfl) | exact Or.inr (Or.inr rfl)))) (fun _ _ _ _ _ => (pts_one (pt_cmpR (show OpR _ _ (rIn K true) from op_notIn_seq) (pv 4) (pv 2) rfl))) (fun _ _ _ _ _ => (pv 4))) L3G.ip_ext) (pss_cons (ps_aug (i := 3) sc_reached_from.nd rfl (by first | exact Or.inl rfl | exact Or.inr rfl | exact Or.inr (Or.inl rfl) | exact Or.inr (Or.inr rfl)) pe_int ip_add) pss_nil))) (pss_cons (ps_ret (pv 2)) pss_nil)))), ?_⟩
    rw [show start ["edges", "start", "found", "place", "goal"] [u0, u1] = ([some u0, some u1, none, none, none] : L2.St) from rfl]
    refine q_asgL (n := 2) w (el_lst (r := rInt) [a1] (ea_cons (ev_varI rfl f1) ea_nil)) fun p11 B10 H10 x10 (w10 : Own K B10 M [⟨p11, (cLst rInt), [a1]⟩] H10) => ?_
    refine q_asg (n := 3) w10 (ev_int (i := 0)) fun v13 B12 H12 x12 (w12 : Own K B12 M [⟨p11, (cLst rInt), [a1]⟩] H12) h14 => ?_
    obtain ⟨s83, e18, hm⟩ := bindS hm
    refine q_whileB w12 _ (fun s15 B19 σ30 => ∃ v34, σ30 = [some u0, some u1, some (.ref p11), some v34, none] ∧ (rInt).is K B19 v34 s15.1) (fun s15 => [⟨p11, (cLst rInt), s15.2⟩]) (((0 : Int), [a1])) e18 (fun B9 x9 => ⟨v13, rfl, ((rInt).mono x9 h14)⟩) rfl ?_ ?_
    · skip
      rintro s15 s91 B19 B20 H21 σ30 hb16 x22 ⟨v34, rfl, h35⟩ x23 w24 N25 K26 hN27 hB28 Q31 qT32 qF33
      replace w24 : Own K B20 M [⟨p11, (cLst rInt), s15.2⟩] H21 := w24
      refine q_wt w24 (et_test (ev_lt (ev_varI rfl h35) (ev_lenC (n := 0) (ev_varR rfl) rfl))) (fun hq37 B36 H36 x36 (w36 : Own K B36 M [⟨p11, (cLst rInt), s15.2⟩] H36) => qT32 _ ?_) (fun hq39 B38 H38 x38 (w38 : Own K B38 M [⟨p11, (cLst rInt), s15.2⟩] H38) => qF33 _ ?_)
      · skip
        rw [if_pos hq37] at hb16
        obtain ⟨t40, e41, hb16⟩ := bindS hb16
        obtain ⟨t42, e43, hb16⟩ := bindS hb16
        obtain ⟨t73, e74, hb16⟩ := bindS hb16
        obtain ⟨t75, e76, hb16⟩ := bindS hb16
        obtain ⟨t77, e78, hb16⟩ := bindS hb16
        refine q_augL (n := 0) (m := 2) (r := rInt) w36 rfl (ev_frz (el_lc (S := Unit) (ys := t75.1) (s1 := t75.2) (s0 := ()) (σ' := [some u0, some u1, some (.ref p11), some v34, none]) rInt (ei_lst (ev_fGet (ev_var rfl (((rDic (rLst rInt))).mono ((((x10.trans x12).trans x22).trans x23).trans x36) f0)) (ev_ixC (n := 0) (ev_varR rfl) (ev_varI rfl h35) rfl e41) e43)) _ (fun (s44 : Unit) => [⟨p11, (cLst rInt), s15.2⟩]) rfl e76 e74 rfl (by rintro s44 x51 o56 s57 v49 D54 a55 B45 H46 hb53 x47 w48 h50 PY58 PN59 qY60 qN61; replace w48 : Own K B45 M [⟨D54, (cLst rInt), a55⟩, ⟨p11, (cLst rInt), s15.2⟩] H46 := w48; refine g_name ?_; refine ⟨rfl, ?_⟩; exact (et_test (ev_niC (ev_varI rfl h50) (ev_varR rfl) (show _[1]? = _ from rfl))) B45 H46 (Ex.refl _) w48 _ fun B68 H69 x70 (w71 : Own K B68 M [⟨D54, (cLst rInt), a55⟩, ⟨p11, (cLst rInt), s15.2⟩] H69) => lc_if (fun hq72 => by rw [if_pos hq72] at hb53; obtain ⟨rfl, rfl⟩ := Prod.mk.inj (Option.some.inj hb53); exact (ev_varI rfl h50) B68 H69 (Ex.refl _) w71 _ fun v62 B63 H64 x65 w66 h67 => qY60 v62 B63 H64 _ rfl (x70.trans x65) w66 h67) (fun hq72 => by rw [if_neg (by rw [hq72]; exact Bool.false_ne_true)] at hb53; obtain ⟨rfl, rfl⟩ := Prod.mk.inj (Option.some.inj hb53); exact qN61 B68 H69 rfl x70 w71)))) rfl e78 fun B79 H79 x79 (w79 : Own K B79 M [⟨p11, (cLst rInt), (s15.2 ++ t75.1)⟩] H79) => ?_
        refine q_aug (n := 3) w79 rfl h35 (ev_int (i := 1)) fun v81 B80 H80 x80 (w80 : Own K B80 M [⟨p11, (cLst rInt), (s15.2 ++ t75.1)⟩] H80) h82 => ?_
        replace hb16 : some _ = some _ := hb16
        cases hb16
        exact hN27 _ _ _ _ rfl ((x36.trans x79).trans x80) w80 ⟨v81, rfl, h82⟩
      rw [if_neg (by rw [hq39]; exact Bool.false_ne_true)] at hb16
      replace hb16 : some _ = some _ := hb16
      cases hb16
      exact hB28 _ _ _ _ rfl x38 w38 ⟨v34, rfl, ((rInt).mono (x23.trans x38) h35)⟩
    rintro B84 H85 σ88 x86 w87 ⟨v89, rfl, h90⟩
    replace w87 : Own K B84 M [⟨p11, (cLst rInt), s83.2⟩] H85 := w87
    replace hm : some _ = some _ := hm
    obtain rfl := Option.some.inj hm
    exact q_retC (n := 0) (m := 2) w87 rfl rfl fun v9 B9 x9 w9 h9 => k _ _ _ (((x10.trans x12).trans x86).trans x9) w9 h9
noncomputable def m_components (a0 : (List (Int × (List Int)))) : Option (List (Int × Int)) :=
  Option.bind (room ((a0.map (·.1))).length) fun t38 =>
  Option.bind (dcMM (fun (x16 : Int) => (Option.bind (m_reached_from a0 x16) fun t24 => some (x16, t24))) [] ((a0.map (·.1)))) fun t40 =>
  Option.bind (foldO (S := (List (Int × Int))) (α := Int) (fun (s48 : (List (Int × Int))) (x49 : Int) => (
    Option.bind (getM t40 x49) fun t68 =>
    Option.bind (room t68.length) fun t101 =>
    Option.bind (compM (S := Unit) (β := Int) (fun (s70 : Unit) (x77 : Int) => (Option.bind (getM t40 x77) fun t94 => if (decide (x49 ∈ t94)) = true then ( some (some x77, ())) else some (none, ()))) (()) t68) fun t103 =>
    Option.bind (minZ t103.1) fun t105 =>
    Option.bind (room s48.length) fun t107 =>
    some (putM s48 x49 t105)
  )) (([] : (List (Int × Int)))) ((a0.map (·.1)))) fun s110 =>
  some s110
def C_components : List Arg → List Cell → Arg → List Cell → Prop := fun as L r L' => ∃ a0 c, as = [⟨(rDic (rLst rInt)), a0⟩] ∧ L = [] ∧ m_components a0 = some c ∧ r = ⟨(rDic rInt), c⟩ ∧ L' = []
theorem sc_components : FnScope ["edges", "reached", "names", "state", "goal"] ["edges"] (defScope s_components) := ⟨rfl, rfl, rfl, by decide +kernel, rfl, by decide +kernel, by decide +kernel⟩
set_option maxHeartbeats 0 in
theorem ok_components (F : FunC K "components" s_components f fd cc) (c_reached_from : Cl P w K mg base 1 "reached_from" (spV K T C_reached_from) []) (z_min : mg "min" = none) : FnOk P w K mg base CX0 2 f fd ["edges"] (spV K T C_components) := by
  refine F.ok sc_components (fun vs H Q E h => ?_) (fun A outer s H vs Q E hr h => ?_)
  · obtain ⟨B, M, L, as, r, L', hT, w, ha, ⟨_, _, rfl, _⟩, k⟩ := h
    exact args_len ha
  · skip
    obtain ⟨B, M, L, as, r, L', rfl, w, ha, ⟨a0, c, rfl, rfl, hm, rfl, rfl⟩, k⟩ := h
    obtain ⟨u0, rfl, f0⟩ := args1 ha
    replace f0 : ((rDic (rLst rInt))).is K B u0 a0 := f0
    unfold m_components at hm
    refine ⟨_, (pss_cons (ps_set (i := 1) sc_components.nd rfl (by first | exact Or.inl rfl | exact Or.inr rfl | exact Or.inr (Or.inl rfl) | exact Or.inr (Or.inr rfl)) (pe_dc rfl sc_components.nd (pi_keys (pv 0)) (blkOk_by (own := [("state", 3)]) (show blkC ["edges", "reached", "names", "state", "goal"] (defScope s_components) _ _ = true by decide +kernel)) (fun _ _ _ _ _ => (pg_name (i := 3) sc_components.nd rfl (by first | exact Or.inl rfl | exact Or.inr rfl | exact Or.inr (Or.inl rfl) | exact Or.inr (Or.inr rfl)))) (fun _ _ _ _ _ => pts_nil) (fun _ _ _ _ _ => (pv 3)) (fun _ _ _ _ _ => (pe_c c_reached_from hr (by omega) rfl (pa_cons (pv 0) (pa_cons (pv 3) pa_nil)))))) (pss_cons (ps_set (i := 2) sc_components.nd rfl (by first | exact Or.inl rfl | exact Or.inr rfl | exact Or.inr (Or.inl rfl) | exact Or.inr (Or.inr rfl)) pe_dnewK) (L3G.pss_frz (pss_cons (ps_for PassesOwn.never rfl (pi_keys (pv 0)) (pg_name (i := 3) sc_components.nd rfl (by first | exact Or.inl rfl | exact Or.inr rfl | exact Or.inr (Or.inl rfl) | exact Or.inr (Or.inr rfl))) (pss_cons (ps_asg (pe_callB (cr_min rfl) rfl z_min bt_min (pa_cons (pe_lc rfl sc_components.nd (pi_list (pe_dget (by have := room_hu hr; exact Nat.lt_of_le_of_lt (Nat.add_le_add_left (by decide) _) this) (pv 1) (pv 3) (fun _ _ => rfl))) (blkOk_by (own := [("goal", 4)]) (show blkC ["edges", "reached", "names", "state", "goal"] (defScope s_components) _ _ = true by decide +kernel)) (fun _ _ _ _ _ => (pg_name (i := 4) sc_components.nd rfl (by first | exact Or.inl rfl | exact Or.inr rfl | exact Or.inr (Or.inl rfl) | exact Or.inr (Or.inr rfl)))) (fun _ _ _ _ _ => (pts_one (pt_cmpR (show OpR _ _ (rIn K false) from op_in_seq) (pv 3) (pe_dget (by have := room_hu hr; exact Nat.lt_of_le_of_lt (Nat.add_le_add_left (by decide) _) this) (pv 1) (pv 4) (fun _ _ => rfl)) rfl))) (fun _ _ _ _ _ => (pv 4))) pa_nil)) (pg_sub (pv 2) (pv 3) (set_dict (by have := room_hu hr; exact Nat.lt_of_le_of_lt (Nat.add_le_add_left (by decide) _) this)))) pss_nil)) (L3G.pss_frz (pss_cons (ps_ret (pv 2)) pss_nil)))))), ?_⟩
    rw [show start ["edges", "reached", "names", "state", "goal"] [u0] = ([some u0, none, none, none, none] : L2.St) from rfl]
    obtain ⟨t38, e39, hm⟩ := bindS hm
    obtain ⟨t40, e41, hm⟩ := bindS hm
    refine q_asgC (n := 1) w (ec_dcM (rLst rInt) (kvs := t40) (σ' := [some u0, none, none, none, none]) (ei_dic (ev_var rfl f0)) (fun (x16 : Int) => (Option.bind (m_reached_from a0 x16) fun t24 => some (x16, t24))) e41 e39 rfl (by rintro x16 o20 v14 D18 a19 B10 H11 hb17 x12 w13 h15 PY21 PN22 qY23; replace w13 : Own K B10 M [⟨D18, (cMap (rLst rInt)), a19⟩] H11 := w13; refine g_name ?_; refine ⟨rfl, ?_⟩; obtain ⟨t24, e25, hb17⟩ := bindS hb17; obtain rfl := Option.some.inj hb17; refine dc_yes ?_; exact (ev_varI rfl h15) B10 H11 (Ex.refl _) w13 _ fun v26 B27 H28 x29 w30 h31 => (ev_call (ea_cons (ev_var rfl (((rDic (rLst rInt))).mono x12 f0)) (ea_cons (ev_varI rfl h15) ea_nil)) ⟨_, _, _, rfl, rfl, e25, rfl, rfl⟩) B27 H28 x29 w30 _ fun v32 B33 H34 x35 w36 h37 => qY23 v26 v32 B33 H34 (x29.trans x35) w36 h31 h37)) fun p43 B42 H42 x42 (w42 : Own K B42 M [⟨p43, (cMap (rLst rInt)), t40⟩] H42) => ?_
    refine q_asgM (r := rInt) (n := 2) w42 fun p45 H44 (w44 : Own K B42 M [⟨p45, (cMap rInt), ([] : (List (Int × Int)))⟩, ⟨p43, (cMap (rLst rInt)), t40⟩] H44) => ?_
    refine q_frzM (n := 1) w44 rfl fun B46 H46 x46 (w46 : Own K B46 M [⟨p45, (cMap rInt), ([] : (List (Int × Int)))⟩] H46) h47 => ?_
    obtain ⟨s110, e52, hm⟩ := bindS hm
    refine q_fold w46 (ei_dic (ev_var rfl (((rDic (rLst rInt))).mono (x42.trans x46) f0))) _ (fun s48 B53 σ66 => ∃ o67, σ66 = [some u0, some (.ref p43), some (.ref p45), o67, none]) (fun s48 => [⟨p45, (cMap rInt), s48⟩]) (([] : (List (Int × Int)))) e52 (fun B9 x9 => ⟨_, rfl⟩) rfl ?_ ?_
    · skip
      rintro s48 x49 s119 v59 B53 B54 H55 σ66 hb50 x56 ⟨o67, rfl⟩ x57 w58 h60 N61 K62 hN63
      replace w58 : Own K B54 M [⟨p45, (cMap rInt), s48⟩] H55 := w58
      refine g_name ?_
      obtain ⟨t68, e69, hb50⟩ := bindS hb50
      obtain ⟨t101, e102, hb50⟩ := bindS hb50
      obtain ⟨t103, e104, hb50⟩ := bindS hb50
      obtain ⟨t105, e106, hb50⟩ := bindS hb50
      obtain ⟨t107, e108, hb50⟩ := bindS hb50
      refine q_setM (n := 0) (r := rInt) w58 (ev_minL (ev_frz (el_lc (S := Unit) (ys := t103.1) (s1 := t103.2) (s0 := ()) (σ' := [some u0, some (.ref p43), some (.ref p45), some v59, none]) rInt (ei_lst (ev_fGet (ev_var rfl (((rDic (rLst rInt))).mono (x56.trans x57) h47)) (ev_varI rfl h60) e69)) _ (fun (s70 : Unit) => [⟨p45, (cMap rInt), s48⟩]) rfl e104 e102 rfl (by rintro s70 x77 o82 s83 v75 D80 a81 B71 H72 hb79 x73 w74 h76 PY84 PN85 qY86 qN87; replace w74 : Own K B71 M [⟨D80, (cLst rInt), a81⟩, ⟨p45, (cMap rInt), s48⟩] H72 := w74; refine g_name ?_; refine ⟨rfl, ?_⟩; obtain ⟨t94, e95, hb79⟩ := bindS hb79; exact (et_test (ev_inI (ev_varI rfl h60) (ev_seqL (ev_fGet (ev_var rfl (((rDic (rLst rInt))).mono ((x56.trans x57).trans x73) h47)) (ev_varI rfl h76) e95)))) B71 H72 (Ex.refl _) w74 _ fun B96 H97 x98 (w99 : Own K B96 M [⟨D80, (cLst rInt), a81⟩, ⟨p45, (cMap rInt), s48⟩] H97) => lc_if (fun hq100 => by rw [if_pos hq100] at hb79; obtain ⟨rfl, rfl⟩ := Prod.mk.inj (Option.some.inj hb79); exact (ev_varI rfl h76) B96 H97 (Ex.refl _) w99 _ fun v88 B89 H90 x91 w92 h93 => qY86 v88 B89 H90 _ rfl (x98.trans x91) w92 h93) (fun hq100 => by rw [if_neg (by rw [hq100]; exact Bool.false_ne_true)] at hb79; obtain ⟨rfl, rfl⟩ := Prod.mk.inj (Option.some.inj hb79); exact qN87 B96 H97 rfl x98 w99)))) e106) rfl (ev_varI rfl h60) rfl e108 fun B109 H109 x109 (w109 : Own K B109 M [⟨p45, (cMap rInt), (putM s48 x49 t105)⟩] H109) => ?_
      replace hb50 : some _ = some _ := hb50
      cases hb50
      exact hN63 _ _ _ x109 w109 ⟨_, rfl⟩
    rintro B111 H112 σ115 x113 w114 ⟨o116, rfl⟩
    replace w114 : Own K B111 M [⟨p45, (cMap rInt), s110⟩] H112 := w114
    refine q_frzM (n := 0) w114 rfl fun B117 H117 x117 (w117 : Own K B117 M [] H117) h118 => ?_
    replace hm : some _ = some _ := hm
    obtain rfl := Option.some.inj hm
    exact q_ret w117 (ev_var rfl h118) fun v9 B9 H9 x9 w9 h9 => k _ _ _ ((((x42.trans x46).trans x113).trans x117).trans x9) w9 h9
noncomputable def m_edges_of (a0 : (List (List (Int × (List (Int × Int)))))) (a1 : (List (Int × (List Int)))) : Option (List (Int × (List Int))) :=
  Option.bind (foldO (S := (List (Int × (List Int)))) (α := Int) (fun (s12 : (List (Int × (List Int)))) (x13 : Int) => (
    Option.bind (getM a1 x13) fun t33 =>
    Option.bind (lc2M (β := Int) (fun (x41 : Int) => (Option.bind (ixL a0 x13) fun t49 => Option.bind (ixL t49 x41) fun t51 => Option.bind (fmO (fun (y59 : (Int × Int)) => ( some (some y59.1))) t51.2) fun t77 => some t77)) t33) fun t79 =>
    Option.bind (room t79.length) fun t81 =>
    Option.bind (room2 t79.length 96000) fun t86 =>
    Option.bind (few (setZ t79).length) fun t88 =>
    Option.bind (room s12.length) fun t90 =>
    some (putM s12 x13 ((setZ t79)))
  )) (([] : (List (Int × (List Int))))) ((a1.map (·.1)))) fun s93 =>
  some s93
def C_edges_of : List Arg → List Cell → Arg → List Cell → Prop := fun as L r L' => ∃ a0 a1 c, as = [⟨(rTup (rTup (rT2 rInt (rTup (rT2 rInt rInt))))), a0⟩, ⟨(rDic (rLst rInt)), a1⟩] ∧ L = [] ∧ m_edges_of a0 a1 = some c ∧ r = ⟨(rDic (rLst rInt)), c⟩ ∧ L' = []
theorem sc_edges_of : FnScope ["system", "choices", "edges", "state", "goals", "number", "goal", "_"] ["system", "choices"] (defScope s_edges_of) := ⟨rfl, rfl, rfl, by decide +kernel, rfl, by decide +kernel, by decide +kernel⟩
set_option maxHeartbeats 0 in
theorem ok_edges_of (F : FunC K "edges_of" s_edges_of f fd cc) (z_sorted : mg "sorted" = none) (z_set : mg "set" = none) : FnOk P w K mg base CX0 1 f fd ["system", "choices"] (spV K T C_edges_of) := by
  refine F.ok sc_edges_of (fun vs H Q E h => ?_) (fun A outer s H vs Q E hr h => ?_)
  · obtain ⟨B, M, L, as, r, L', hT, w, ha, ⟨_, _, _, rfl, _⟩, k⟩ := h
    exact args_len ha
  · skip
    obtain ⟨B, M, L, as, r, L', rfl, w, ha, ⟨a0, a1, c, rfl, rfl, hm, rfl, rfl⟩, k⟩ := h
    obtain ⟨u0, u1, rfl, f0, f1⟩ := args2 ha
    replace f0 : ((rTup (rTup (rT2 rInt (rTup (rT2 rInt rInt)))))).is K B u0 a0 := f0
    replace f1 : ((rDic (rLst rInt))).is K B u1 a1 := f1
    unfold m_edges_of at hm
    refine ⟨_, (pss_cons (ps_set (i := 2) sc_edges_of.nd rfl (by first | exact Or.inl rfl | exact Or.inr rfl | exact Or.inr (Or.inl rfl) | exact Or.inr (Or.inr rfl)) pe_dnewK) (pss_cons (ps_for PassesOwn.never rfl (pi_keys (pv 1)) (pg_name (i := 3) sc_edges_of.nd rfl (by first | exact Or.inl rfl | exact Or.inr rfl | exact Or.inr (Or.inl rfl) | exact Or.inr (Or.inr rfl))) (pss_cons (ps_setLc2 (i := 4) rfl sc_edges_of.nd rfl rfl rfl (pi_list (pe_dget (by have := room_hu hr; exact Nat.lt_of_le_of_lt (Nat.add_le_add_left (by decide) _) this) (pv 1) (pv 3) (fun _ _ => rfl))) (blkOk_by (own := [("number", 5), ("goal", 6), ("_", 7)]) (show blkC ["system", "choices", "edges", "state", "goals", "number", "goal", "_"] (defScope s_edges_of) _ _ = true by decide +kernel)) (vs1 := [6, 7]) (by decide) (fun _ _ _ _ _ => (pg_name (i := 5) sc_edges_of.nd rfl (by first | exact Or.inl rfl | exact Or.inr rfl | exact Or.inr (Or.inl rfl) | exact Or.inr (Or.inr rfl)))) (fun _ _ _ _ _ => pts_nil) (fun _ _ _ _ _ => (show PI _ _ _ (iTup K _) from pi_tup (pe_ix (show IxR _ (rIx K) from ix_seq) (pe_ix (show IxR _ (rIx K) from ix_seq) (pe_ix (show IxR _ (rIx K) from ix_seq) (pv 0) (pv 3) (fun _ _ => rfl)) (pv 5) (fun _ _ => rfl)) pe_int (fun _ _ => rfl)))) (fun _ _ _ _ _ => (show PG _ _ (gTup K 2 (gCons (gName 6) (gCons (gName 7) gNil))) from (pg_tup rfl (pgs_cons (pg_name (i := 6) sc_edges_of.nd rfl (by first | exact Or.inl rfl | exact Or.inr rfl | exact Or.inr (Or.inl rfl) | exact Or.inr (Or.inr rfl))) (pgs_cons (pg_name (i := 7) sc_edges_of.nd rfl (by first | exact Or.inl rfl | exact Or.inr rfl | exact Or.inr (Or.inl rfl) | exact Or.inr (Or.inr rfl))) pgs_nil))))) (fun _ _ _ _ _ => pts_nil) (fun _ _ _ _ _ => (pv 6))) (pss_cons (ps_asg (L3G.pe_sortSet rfl rfl z_sorted bt_sorted rfl z_set (pv 4)) (pg_sub (pv 2) (pv 3) (set_dict (by have := room_hu hr; exact Nat.lt_of_le_of_lt (Nat.add_le_add_left (by decide) _) this)))) pss_nil))) (L3G.pss_frz (pss_cons (ps_ret (pv 2)) pss_nil)))), ?_⟩
    rw [show start ["system", "choices", "edges", "state", "goals", "number", "goal", "_"] [u0, u1] = ([some u0, some u1, none, none, none, none, none, none] : L2.St) from rfl]
    refine q_asgM (r := (rLst rInt)) (n := 2) w fun p11 H10 (w10 : Own K B M [⟨p11, (cMap (rLst rInt)), ([] : (List (Int × (List Int))))⟩] H10) => ?_
    obtain ⟨s93, e16, hm⟩ := bindS hm
    refine q_fold w10 (ei_dic (ev_var rfl f1)) _ (fun s12 B17 σ30 => ∃ o31 o32, σ30 = [some u0, some u1, some (.ref p11), o31, o32, none, none, none]) (fun s12 => [⟨p11, (cMap (rLst rInt)), s12⟩]) (([] : (List (Int × (List Int))))) e16 (fun B9 x9 => ⟨_, _, rfl⟩) rfl ?_ ?_
    · skip
      rintro s12 x13 s103 v23 B17 B18 H19 σ30 hb14 x20 ⟨o31, o32, rfl⟩ x21 w22 h24 N25 K26 hN27
      replace w22 : Own K B18 M [⟨p11, (cMap (rLst rInt)), s12⟩] H19 := w22
      refine g_name ?_
      obtain ⟨t33, e34, hb14⟩ := bindS hb14
      obtain ⟨t79, e80, hb14⟩ := bindS hb14
      obtain ⟨t81, e82, hb14⟩ := bindS hb14
      refine q_asg (n := 4) w22 (ev_frz (el_lc2 (zs := t79) (σ' := [some u0, some u1, some (.ref p11), some v23, o32, none, none, none]) rInt (ei_lst (ev_fGet (ev_var rfl (((rDic (rLst rInt))).mono (x20.trans x21) f1)) (ev_varI rfl h24) e34)) (fun (x41 : Int) => (Option.bind (ixL a0 x13) fun t49 => Option.bind (ixL t49 x41) fun t51 => Option.bind (fmO (fun (y59 : (Int × Int)) => ( some (some y59.1))) t51.2) fun t77 => some t77)) e80 e82 rfl (by rintro x41 y45 v39 D43 a44 B35 H36 hb42 hl46 x37 w38 h40 N47 qN48; replace w38 : Own K B35 M [⟨D43, (cLst rInt), a44⟩, ⟨p11, (cMap (rLst rInt)), s12⟩] H36 := w38; refine g_name ?_; refine ⟨rfl, ?_⟩; obtain ⟨t49, e50, hb42⟩ := bindS hb42; obtain ⟨t51, e52, hb42⟩ := bindS hb42; obtain ⟨t77, e78, hb42⟩ := bindS hb42; obtain rfl := Option.some.inj hb42; refine lc2_go ?_; exact lc2_in (σ3 := [some u0, some u1, some (.ref p11), some v23, o32, some v39, none, none]) rInt (ei_tup (ev_snd (ev_ix (ev_seqT (ev_ix (ev_seqT (ev_var rfl (((rTup (rTup (rT2 rInt (rTup (rT2 rInt rInt)))))).mono ((x20.trans x21).trans x37) f0))) (ev_varI rfl h24) e50)) (ev_varI rfl h40) e52))) w38 (fun (y59 : (Int × Int)) => ( some (some y59.1))) e78 hl46 rfl (by rintro y59 o61 v57 a62 B53 H54 hb60 x55 w56 h58 PY63 PN64 qY65 qM66; replace w56 : Own K B53 M [⟨D43, (cLst rInt), a62⟩, ⟨p11, (cMap (rLst rInt)), s12⟩] H54 := w56; refine g_T2 h58 w56 fun v67 v68 h69 h70 => ?_; refine g_cons ?_; refine g_name ?_; refine g_cons ?_; refine g_name ?_; refine g_nil ?_; refine ⟨rfl, ?_⟩; obtain rfl := Option.some.inj hb60; refine lc_yes ?_; exact (ev_varI rfl h69) B53 H54 (Ex.refl _) w56 _ fun v71 B72 H73 x74 w75 h76 => qY65 v71 B72 H73 _ rfl x74 w75 h76) qN48))) fun v84 B83 H83 x83 (w83 : Own K B83 M [⟨p11, (cMap (rLst rInt)), s12⟩] H83) h85 => ?_
      obtain ⟨t86, e87, hb14⟩ := bindS hb14
      obtain ⟨t88, e89, hb14⟩ := bindS hb14
      obtain ⟨t90, e91, hb14⟩ := bindS hb14
      refine q_setM (n := 0) (r := (rLst rInt)) w83 (ev_frz (el_sortSet (ev_var rfl h85) e87 e89)) rfl (ev_varI rfl h24) rfl e91 fun B92 H92 x92 (w92 : Own K B92 M [⟨p11, (cMap (rLst rInt)), (putM s12 x13 ((setZ t79)))⟩] H92) => ?_
      replace hb14 : some _ = some _ := hb14
      cases hb14
      exact hN27 _ _ _ (x83.trans x92) w92 ⟨_, _, rfl⟩
    rintro B94 H95 σ98 x96 w97 ⟨o99, o100, rfl⟩
    replace w97 : Own K B94 M [⟨p11, (cMap (rLst rInt)), s93⟩] H95 := w97
    refine q_frzM (n := 0) w97 rfl fun B101 H101 x101 (w101 : Own K B101 M [] H101) h102 => ?_
    replace hm : some _ = some _ := hm
    obtain rfl := Option.some.inj hm
    exact q_ret w101 (ev_var rfl h102) fun v9 B9 H9 x9 w9 h9 => k _ _ _ ((x96.trans x101).trans x9) w9 h9
noncomputable def m_pruned (a0 : (List (List (Int × (List (Int × Int)))))) (a1 : (List (Int × (List Int)))) (a2 : (List (Int × Int))) : Option (List (Int × (List Int))) :=
  Option.bind (foldO (S := (List (Int × (List Int)))) (α := Int) (fun (s12 : (List (Int × (List Int)))) (x13 : Int) => (
    Option.bind (getM a1 x13) fun t37 =>
    Option.bind (foldO (S := (List Int)) (α := Int) (fun (s39 : (List Int)) (x40 : Int) => (
      Option.bind (ixL a0 x13) fun t60 =>
      Option.bind (ixL t60 x40) fun t62 =>
      Option.bind (room t62.2.length) fun t92 =>
      Option.bind (compM (S := Unit) (β := Int) (fun (s64 : Unit) (x71 : (Int × Int)) => ( some (some x71.1, ()))) (()) t62.2) fun t94 =>
      Option.bind (allM (fun (x106 : Int) => (Option.bind ((if ((getM a1 x106).isSome) = true then (Option.bind (getM a2 x13) fun t112 => some ((decide (((getM a2 x106).getD ((-(1 : Int)))) = t112)))) else (some (false)))) fun t114 => some t114)) t94.1) fun t117 =>
      Option.bind (if t117 = true then
        Option.bind (room s39.length) fun t129 =>
        some ((s39 ++ [x40]))
      else
        some s39
      ) fun (s126 : (List Int)) =>
      some s126
    )) (([] : List Int)) t37) fun s135 =>
    Option.bind (if (!s135.isEmpty) = true then
      Option.bind (room s12.length) fun t151 =>
      some ((putM s12 x13 s135))
    else
      some s12
    ) fun (s148 : (List (Int × (List Int)))) =>
    some s148
  )) (([] : (List (Int × (List Int))))) ((a1.map (·.1)))) fun s158 =>
  some s158
def C_pruned : List Arg → List Cell → Arg → List Cell → Prop := fun as L r L' => ∃ a0 a1 a2 c, as = [⟨(rTup (rTup (rT2 rInt (rTup (rT2 rInt rInt))))), a0⟩, ⟨(rDic (rLst rInt)), a1⟩, ⟨(rDic rInt), a2⟩] ∧ L = [] ∧ m_pruned a0 a1 a2 = some c ∧ r = ⟨(rDic (rLst rInt)), c⟩ ∧ L' = []
theorem sc_pruned : FnScope ["system", "choices", "names", "left", "state", "kept", "number", "ends", "goal", "_"] ["system", "choices", "names"] (defScope s_pruned) := ⟨rfl, rfl, rfl, by decide +kernel, rfl, by decide +kernel, by decide +kernel⟩
set_option maxHeartbeats 0 in
theorem ok_pruned (F : FunC K "pruned" s_pruned f fd cc) (z_all : mg "all" = none) (tb : ∃ P0, GxR.TabB base mg cc P0 ∧ P0 ∈ T) : FnOk P w K mg base CX0 2 f fd ["system", "choices", "names"] (spV K T C_pruned) := by
  obtain ⟨P0, tb, hP0⟩ := tb
  refine F.ok sc_pruned (fun vs H Q E h => ?_) (fun A outer s H vs Q E hr h => ?_)
  · obtain ⟨B, M, L, as, r, L', hT, w, ha, ⟨_, _, _, _, rfl, _⟩, k⟩ := h
    exact args_len ha
  · skip
    obtain ⟨B, M, L, as, r, L', rfl, w, ha, ⟨a0, a1, a2, c, rfl, rfl, hm, rfl, rfl⟩, k⟩ := h
    obtain ⟨u0, u1, u2, rfl, f0, f1, f2⟩ := args3 ha
    replace f0 : ((rTup (rTup (rT2 rInt (rTup (rT2 rInt rInt)))))).is K B u0 a0 := f0
    replace f1 : ((rDic (rLst rInt))).is K B u1 a1 := f1
    replace f2 : ((rDic rInt)).is K B u2 a2 := f2
    unfold m_pruned at hm
    refine ⟨_, (pss_cons (ps_set (i := 3) sc_pruned.nd rfl (by first | exact Or.inl rfl | exact Or.inr rfl | exact Or.inr (Or.inl rfl) | exact Or.inr (Or.inr rfl)) pe_dnewK) (pss_cons (ps_for PassesOwn.never rfl (pi_keys (pv 1)) (pg_name (i := 4) sc_pruned.nd rfl (by first | exact Or.inl rfl | exact Or.inr rfl | exact Or.inr (Or.inl rfl) | exact Or.inr (Or.inr rfl))) (pss_cons (ps_set (i := 5) sc_pruned.nd rfl (by first | exact Or.inl rfl | exact Or.inr rfl | exact Or.inr (Or.inl rfl) | exact Or.inr (Or.inr rfl)) (pe_lst pa_nil)) (pss_cons (ps_for PassesOwn.never rfl (pi_list (pe_dget (by have := room_hu hr; exact Nat.lt_of_le_of_lt (Nat.add_le_add_left (by decide) _) this) (pv 1) (pv 4) (fun _ _ => rfl))) (pg_name (i := 6) sc_pruned.nd rfl (by first | exact Or.inl rfl | exact Or.inr rfl | exact Or.inr (Or.inl rfl) | exact Or.inr (Or.inr rfl))) (pss_cons (ps_setLc (i := 7) rfl sc_pruned.nd rfl rfl rfl (pi_tup (pe_ix ix_seq (pe_ix ix_seq (pe_ix ix_seq (pv 0) (pv 4) (fun _ _ => rfl)) (pv 6) (fun _ _ => rfl)) pe_int (fun _ _ => rfl))) (blkOk_by (own := [("goal", 8), ("_", 9)]) (show blkC ["system", "choices", "names", "left", "state", "kept", "number", "ends", "goal", "_"] (defScope s_pruned) _ _ = true by decide +kernel)) (fun _ _ _ _ _ => (show PG _ _ (gTup K 2 (gCons (gName 8) (gCons (gName 9) gNil))) from (pg_tup rfl (pgs_cons (pg_name (i := 8) sc_pruned.nd rfl (by first | exact Or.inl rfl | exact Or.inr rfl | exact Or.inr (Or.inl rfl) | exact Or.inr (Or.inr rfl))) (pgs_cons (pg_name (i := 9) sc_pruned.nd rfl (by first | exact Or.inl rfl | exact Or.inr rfl | exact Or.inr (Or.inl rfl) | exact Or.inr (Or.inr rfl))) pgs_nil))))) (fun _ _ _ _ _ => pts_nil) (fun _ _ _ _ _ => (pv 8))) (Evl.pss_cut (ps_if (pt_val (L3G.pe_allG (NG := ["goal", "choices", "names", "state"]) (js := [none, some 1, some 2, some 4]) (Room.mono hr (j := 1) (by omega)) rfl z_all bt_all tb rfl (L3G.gs_by (sc := defScope s_pruned) (by decide +kernel)) (pi_list (pv 7)) (show L3G.capB ["system", "choices", "names", "left", "state", "kept", "number", "ends", "goal", "_"] ["goal", "choices", "names", "state"] _ _ = true by decide +kernel) (fun _ => (pg_name (i := 0) (show List.Nodup (["goal", "choices", "names", "state"] : List Str) by decide +kernel) rfl (by first | exact Or.inl rfl | exact Or.inr rfl | exact Or.inr (Or.inl rfl) | exact Or.inr (Or.inr rfl)))) (fun _ hr => (pe_and (pe_cmp (pc_din (by have := room_hu hr; exact Nat.lt_of_le_of_lt (Nat.add_le_add_left (by decide) _) this) (pv 0) (pv 1))) (pe_one (pe_cmpR op_eq (pe_dget2 (by have := room_hu hr; exact Nat.lt_of_le_of_lt (Nat.add_le_add_left (by decide) _) this) (pv 2) (pv 0) (pe_un un_neg pe_int) ⟨rfl, rfl, rfl, rfl⟩) (pe_dget (by have := room_hu hr; exact Nat.lt_of_le_of_lt (Nat.add_le_add_left (by decide) _) this) (pv 2) (pv 3) (fun _ _ => rfl)) (nomark _))))) (fun _ => rfl))) (pss_cons (ps_expr (pe_bm PySem.F.plainAttrs_list PySem.F.slot_list_append PySem.F.type_list_append mt_append (pv 5) (pa_cons (pv 6) pa_nil))) pss_nil) pss_nil) pss_nil))) (Evl.pss_cut (ps_if (L3G.pt_tru (pv 5)) (pss_cons (ps_asg (pv 5) (pg_sub (pv 3) (pv 4) (set_dict (by have := room_hu hr; exact Nat.lt_of_le_of_lt (Nat.add_le_add_left (by decide) _) this)))) pss_nil) pss_nil) pss_nil)))) (L3G.pss_frz (pss_cons (ps_ret (pv 3)) pss_nil)))), ?_⟩
    rw [show start ["system", "choices", "names", "left", "state", "kept", "number", "ends", "goal", "_"] [u0, u1, u2] = ([some u0, some u1, some u2, none, none, none, none, none, none, none] : L2.St) from rfl]
    refine q_asgM (r := (rLst rInt)) (n := 3) w fun p11 H10 (w10 : Own K B M [⟨p11, (cMap (rLst rInt)), ([] : (List (Int × (List Int))))⟩] H10) => ?_
    obtain ⟨s158, e16, hm⟩ := bindS hm
    refine q_fold w10 (ei_dic (ev_var rfl f1)) _ (fun s12 B17 σ30 => ∃ o31 o32 o33 o34, σ30 = [some u0, some u1, some u2, some (.ref p11), o31, o32, o33, o34, none, none]) (fun s12 => [⟨p11, (cMap (rLst rInt)), s12⟩]) (([] : (List (Int × (List Int))))) e16 (fun B9 x9 => ⟨_, _, _, _, rfl⟩) rfl ?_ ?_
    · skip
      rintro s12 x13 s170 v23 B17 B18 H19 σ30 hb14 x20 ⟨o31, o32, o33, o34, rfl⟩ x21 w22 h24 N25 K26 hN27
      replace w22 : Own K B18 M [⟨p11, (cMap (rLst rInt)), s12⟩] H19 := w22
      refine g_name ?_
      refine q_asgL (n := 5) w22 (el_lst (r := rInt) ([] : List Int) ea_nil) fun p36 B35 H35 x35 (w35 : Own K B35 M [⟨p36, (cLst rInt), ([] : List Int)⟩, ⟨p11, (cMap (rLst rInt)), s12⟩] H35) => ?_
      obtain ⟨t37, e38, hb14⟩ := bindS hb14
      obtain ⟨s135, e43, hb14⟩ := bindS hb14
      refine q_fold w35 (ei_lst (ev_fGet (ev_var rfl (((rDic (rLst rInt))).mono ((x20.trans x21).trans x35) f1)) (ev_varI rfl h24) e38)) _ (fun s39 B44 σ57 => ∃ o58 o59, σ57 = [some u0, some u1, some u2, some (.ref p11), some v23, some (.ref p36), o58, o59, none, none]) (fun s39 => [⟨p36, (cLst rInt), s39⟩, ⟨p11, (cMap (rLst rInt)), s12⟩]) (([] : List Int)) e43 (fun B9 x9 => ⟨_, _, rfl⟩) rfl ?_ ?_
      · skip
        rintro s39 x40 s157 v50 B44 B45 H46 σ57 hb41 x47 ⟨o58, o59, rfl⟩ x48 w49 h51 N52 K53 hN54
        replace w49 : Own K B45 M [⟨p36, (cLst rInt), s39⟩, ⟨p11, (cMap (rLst rInt)), s12⟩] H46 := w49
        refine g_name ?_
        obtain ⟨t60, e61, hb41⟩ := bindS hb41
        obtain ⟨t62, e63, hb41⟩ := bindS hb41
        obtain ⟨t92, e93, hb41⟩ := bindS hb41
        obtain ⟨t94, e95, hb41⟩ := bindS hb41
        refine q_asg (n := 7) w49 (ev_frz (el_lc (S := Unit) (ys := t94.1) (s1 := t94.2) (s0 := ()) (σ' := [some u0, some u1, some u2, some (.ref p11), some v23, some (.ref p36), some v50, o59, none, none]) rInt (ei_tup (ev_snd (ev_ix (ev_seqT (ev_ix (ev_seqT (ev_var rfl (((rTup (rTup (rT2 rInt (rTup (rT2 rInt rInt)))))).mono ((((x20.trans x21).trans x35).trans x47).trans x48) f0))) (ev_varI rfl h24) e61)) (ev_varI rfl h51) e63))) _ (fun (s64 : Unit) => [⟨p36, (cLst rInt), s39⟩, ⟨p11, (cMap (rLst rInt)), s12⟩]) rfl e95 e93 rfl (by rintro s64 x71 o76 s77 v69 D74 a75 B65 H66 hb73 x67 w68 h70 PY78 PN79 qY80 qN81; replace w68 : Own K B65 M [⟨D74, (cLst rInt), a75⟩, ⟨p36, (cLst rInt), s39⟩, ⟨p11, (cMap (rLst rInt)), s12⟩] H66 := w68; refine g_T2 h70 w68 fun v82 v83 h84 h85 => ?_; refine g_cons ?_; refine g_name ?_; refine g_cons ?_; refine g_name ?_; refine g_nil ?_; refine ⟨rfl, ?_⟩; obtain ⟨rfl, rfl⟩ := Prod.mk.inj (Option.some.inj hb73); refine lc_yes ?_; exact (ev_varI rfl h84) B65 H66 (Ex.refl _) w68 _ fun v86 B87 H88 x89 w90 h91 => qY80 v86 B87 H88 _ rfl x89 w90 h91))) fun v97 B96 H96 x96 (w96 : Own K B96 M [⟨p36, (cLst rInt), s39⟩, ⟨p11, (cMap (rLst rInt)), s12⟩] H96) h98 => ?_
        obtain ⟨t117, e118, hb41⟩ := bindS hb41
        obtain ⟨s126, e127, hb41⟩ := bindS hb41
        refine q_cut (fun σ134 H133 => ∃ B133, Ex B96 B133 ∧ Own K B133 M [⟨p36, (cLst rInt), s126⟩, ⟨p11, (cMap (rLst rInt)), s12⟩] H133 ∧ σ134 = [some u0, some u1, some u2, some (.ref p11), some v23, some (.ref p36), some v50, some v97, none, none]) ?_ ?_
        · skip
          refine q_ifc w96 (et_B (ev_allG hP0 (ei_lst (ev_var rfl h98)) _ (fun σ111 => ∃ o99, σ111 = [o99, some u1, some u2, some v23]) ⟨none, rfl⟩ e118 (by rintro _ x106 c107 v104 B100 H101 σ111 hb108 x102 ⟨o99, rfl⟩ w103 h105 Q109 q110; replace w103 : Own K B100 M [⟨p36, (cLst rInt), s39⟩, ⟨p11, (cMap (rLst rInt)), s12⟩] H101 := w103; refine g_name ?_; obtain ⟨t114, e115, hb108⟩ := bindS hb108; obtain rfl := Option.some.inj hb108; exact (ev_andV (d := t114) (ev_fIn (ev_varI rfl h105) (ev_var rfl (((rDic (rLst rInt))).mono ((((((x20.trans x21).trans x35).trans x47).trans x48).trans x96).trans x102) f1))) (fun hb116 => by rw [if_pos hb116] at e115; obtain ⟨t112, e113, e115⟩ := bindS e115; obtain rfl := Option.some.inj e115; exact (ev_eqI (ev_fGet2 (ev_var rfl (((rDic rInt)).mono ((((((x20.trans x21).trans x35).trans x47).trans x48).trans x96).trans x102) f2)) (ev_varI rfl h105) (ev_neg (ev_int (i := 1)))) (ev_fGet (ev_var rfl (((rDic rInt)).mono ((((((x20.trans x21).trans x35).trans x47).trans x48).trans x96).trans x102) f2)) (ev_varI rfl h24) e113))) (fun hb116 => by rw [if_neg (by rw [hb116]; exact Bool.false_ne_true)] at e115; obtain rfl := Option.some.inj e115; exact ⟨rfl, rfl⟩)) B100 H101 (Ex.refl _) w103 _ fun v119 B120 H121 x122 w123 h124 => by rw [show v119 = V.bl _ from h124]; exact q110 _ B120 H121 ⟨_, rfl⟩ x122 w123))) (fun hb125 B128 H128 x128 (w128 : Own K B128 M [⟨p36, (cLst rInt), s39⟩, ⟨p11, (cMap (rLst rInt)), s12⟩] H128) => ?_) (fun hb125 B132 H132 x132 (w132 : Own K B132 M [⟨p36, (cLst rInt), s39⟩, ⟨p11, (cMap (rLst rInt)), s12⟩] H132) => ?_)
          · skip
            rw [if_pos hb125] at e127
            obtain ⟨t129, e130, e127⟩ := bindS e127
            refine q_app (n := 0) (m := 5) w128 rfl (ev_varI rfl h51) rfl ⟨0, _, rfl⟩ e130 fun B131 H131 x131 (w131 : Own K B131 M [⟨p36, (cLst rInt), (s39 ++ [x40])⟩, ⟨p11, (cMap (rLst rInt)), s12⟩] H131) => ?_
            replace e127 : some _ = some _ := e127
            cases e127
            exact ⟨_, (x128.trans x131), w131, rfl⟩
          rw [if_neg (by rw [hb125]; exact Bool.false_ne_true)] at e127
          replace e127 : some _ = some _ := e127
          cases e127
          exact ⟨_, x132, w132, rfl⟩
        rintro σ134' H133 ⟨B133, x133, w133, rfl⟩
        replace hb41 : some _ = some _ := hb41
        cases hb41
        exact hN54 _ _ _ (x96.trans x133) w133 ⟨_, _, rfl⟩
      rintro B136 H137 σ140 x138 w139 ⟨o141, o142, rfl⟩
      replace w139 : Own K B136 M [⟨p36, (cLst rInt), s135⟩, ⟨p11, (cMap (rLst rInt)), s12⟩] H137 := w139
      obtain ⟨B143, x144, w145, h146⟩ := frz_step (n := 0) w139 rfl
      replace w145 : Own K B143 M [⟨p11, (cMap (rLst rInt)), s12⟩] H137 := w145
      obtain ⟨s148, e149, hb14⟩ := bindS hb14
      refine q_cut (fun σ156 H155 => ∃ B155, Ex B143 B155 ∧ Own K B155 M [⟨p11, (cMap (rLst rInt)), s148⟩] H155 ∧ σ156 = [some u0, some u1, some u2, some (.ref p11), some v23, some (.ref p36), o141, o142, none, none]) ?_ ?_
      · skip
        refine q_ifc w145 (et_truL (ev_seqL (ev_var rfl h146))) (fun hb147 B150 H150 x150 (w150 : Own K B150 M [⟨p11, (cMap (rLst rInt)), s12⟩] H150) => ?_) (fun hb147 B154 H154 x154 (w154 : Own K B154 M [⟨p11, (cMap (rLst rInt)), s12⟩] H154) => ?_)
        · skip
          rw [if_pos hb147] at e149
          obtain ⟨t151, e152, e149⟩ := bindS e149
          refine q_setM (n := 0) (r := (rLst rInt)) w150 (ev_var rfl (((rLst rInt)).mono x150 h146)) rfl (ev_varI rfl h24) rfl e152 fun B153 H153 x153 (w153 : Own K B153 M [⟨p11, (cMap (rLst rInt)), (putM s12 x13 s135)⟩] H153) => ?_
          replace e149 : some _ = some _ := e149
          cases e149
          exact ⟨_, (x150.trans x153), w153, rfl⟩
        rw [if_neg (by rw [hb147]; exact Bool.false_ne_true)] at e149
        replace e149 : some _ = some _ := e149
        cases e149
        exact ⟨_, x154, w154, rfl⟩
      rintro σ156' H155 ⟨B155, x155, w155, rfl⟩
      replace hb14 : some _ = some _ := hb14
      cases hb14
      exact hN27 _ _ _ (((x35.trans x138).trans x144).trans x155) w155 ⟨_, _, _, _, rfl⟩
    rintro B159 H160 σ163 x161 w162 ⟨o164, o165, o166, o167, rfl⟩
    replace w162 : Own K B159 M [⟨p11, (cMap (rLst rInt)), s158⟩] H160 := w162
    refine q_frzM (n := 0) w162 rfl fun B168 H168 x168 (w168 : Own K B168 M [] H168) h169 => ?_
    replace hm : some _ = some _ := hm
    obtain rfl := Option.some.inj hm
    exact q_ret w168 (ev_var rfl h169) fun v9 B9 H9 x9 w9 h9 => k _ _ _ ((x161.trans x168).trans x9) w9 h9
noncomputable def m_without_exits (a0 : (List (List (Int × (List (Int × Int)))))) (a1 : (List (Int × (List Int)))) : Option (List (Int × (List Int))) :=
  Option.bind (whileR (S := (List (Int × (List Int)))) (R := (List (Int × (List Int)))) (fun (s10 : (List (Int × (List Int)))) => (
    if true = true then
      Option.bind (foldO (S := (List (Int × (List Int)))) (α := Int) (fun (s40 : (List (Int × (List Int)))) (x41 : Int) => (
        Option.bind (getM s10 x41) fun t61 =>
        Option.bind (room t61.length) fun t122 =>
        Option.bind (compM (S := Unit) (β := Int) (fun (s63 : Unit) (x70 : Int) => (Option.bind (ixL a0 x41) fun t87 => Option.bind (ixL t87 x70) fun t89 => Option.bind (allM (fun (x99 : (Int × Int)) => ( some (((getM s10 x99.1).isSome)))) t89.2) fun t109 => if t109 = true then ( some (some x70, ())) else some (none, ()))) (()) t61) fun t124 =>
        Option.bind (if (!t124.1.isEmpty) = true then
          Option.bind (room s40.length) fun t133 =>
          some ((putM s40 x41 t124.1))
        else
          some s40
        ) fun (s130 : (List (Int × (List Int)))) =>
        some s130
      )) (([] : (List (Int × (List Int))))) ((s10.map (·.1)))) fun s139 =>
      if (eqM s139 s10) = true then
        some (Stp.rt s139)
      else
        some (Stp.nx s139)
    else
      some (Stp.bk s10)
  )) a1) fun o12 =>
  match o12 with
  | .inl s156 =>
    none
  | .inr q9 => some q9
def C_without_exits : List Arg → List Cell → Arg → List Cell → Prop := fun as L r L' => ∃ a0 a1 c, as = [⟨(rTup (rTup (rT2 rInt (rTup (rT2 rInt rInt))))), a0⟩, ⟨(rDic (rLst rInt)), a1⟩] ∧ L = [] ∧ m_without_exits a0 a1 = some c ∧ r = ⟨(rDic (rLst rInt)), c⟩ ∧ L' = []
theorem sc_without_exits : FnScope ["system", "choices", "left", "state", "kept", "n"] ["system", "choices"] (defScope s_without_exits) := ⟨rfl, rfl, rfl, by decide +kernel, rfl, by decide +kernel, by decide +kernel⟩
set_option maxHeartbeats 0 in
theorem ok_without_exits (F : FunC K "without_exits" s_without_exits f fd cc) (z_all : mg "all" = none) (tb : ∃ P0, GxR.TabB base mg cc P0 ∧ P0 ∈ T) : FnOk P w K mg base CX0 2 f fd ["system", "choices"] (spV K T C_without_exits) := by
  obtain ⟨P0, tb, hP0⟩ := tb
  refine F.ok sc_without_exits (fun vs H Q E h => ?_) (fun A outer s H vs Q E hr h => ?_)
  · obtain ⟨B, M, L, as, r, L', hT, w, ha, ⟨_, _, _, rfl, _⟩, k⟩ := h
    exact args_len ha
  · skip
    obtain ⟨B, M, L, as, r, L', rfl, w, ha, ⟨a0, a1, c, rfl, rfl, hm, rfl, rfl⟩, k⟩ := h
    obtain ⟨u0, u1, rfl, f0, f1⟩ := args2 ha
    replace f0 : ((rTup (rTup (rT2 rInt (rTup (rT2 rInt rInt)))))).is K B u0 a0 := f0
    replace f1 : ((rDic (rLst rInt))).is K B u1 a1 := f1
    unfold m_without_exits at hm
    refine ⟨_, (pss_cons (ps_while PassesOwn.never (pt_val pe_bl) (pss_cons (ps_set (i := 2) sc_without_exits.nd rfl (by first | exact Or.inl rfl | exact Or.inr rfl | exact Or.inr (Or.inl rfl) | exact Or.inr (Or.inr rfl)) pe_dnewK) (pss_cons (ps_for PassesOwn.never rfl (pi_keys (pv 1)) (pg_name (i := 3) sc_without_exits.nd rfl (by first | exact Or.inl rfl | exact Or.inr rfl | exact Or.inr (Or.inl rfl) | exact Or.inr (Or.inr rfl))) (pss_cons (ps_setLc (i := 4) rfl sc_without_exits.nd rfl rfl rfl (pi_list (pe_dget (by have := room_hu hr; exact Nat.lt_of_le_of_lt (Nat.add_le_add_left (by decide) _) this) (pv 1) (pv 3) (fun _ _ => rfl))) (blkOk_by (own := [("n", 5)]) (show blkC ["system", "choices", "left", "state", "kept", "n"] (defScope s_without_exits) _ _ = true by decide +kernel)) (fun _ _ _ _ _ => (pg_name (i := 5) sc_without_exits.nd rfl (by first | exact Or.inl rfl | exact Or.inr rfl | exact Or.inr (Or.inl rfl) | exact Or.inr (Or.inr rfl)))) (fun _ _ _ _ _ => (pts_one (pt_val (L3G.pe_allG (NG := ["goal", "_", "choices"]) (js := [none, none, some 1]) (Room.mono hr (j := 1) (by omega)) rfl z_all bt_all tb rfl (L3G.gs_in (fsc := defScope s_without_exits) (by rfl) (by decide +kernel)) (show PI _ _ _ (iTup K _) from pi_tup (pe_ix (show IxR _ (rIx K) from ix_seq) (pe_ix (show IxR _ (rIx K) from ix_seq) (pe_ix (show IxR _ (rIx K) from ix_seq) (pv 0) (pv 3) (fun _ _ => rfl)) (pv 5) (fun _ _ => rfl)) pe_int (fun _ _ => rfl))) (show L3G.capB ["system", "choices", "left", "state", "kept", "n"] ["goal", "_", "choices"] _ _ = true by decide +kernel) (fun _ => (show PG _ _ (gTup K 2 (gCons (gName 0) (gCons (gName 1) gNil))) from (pg_tup rfl (pgs_cons (pg_name (i := 0) (show List.Nodup (["goal", "_", "choices"] : List Str) by decide +kernel) rfl (by first | exact Or.inl rfl | exact Or.inr rfl | exact Or.inr (Or.inl rfl) | exact Or.inr (Or.inr rfl))) (pgs_cons (pg_name (i := 1) (show List.Nodup (["goal", "_", "choices"] : List Str) by decide +kernel) rfl (by first | exact Or.inl rfl | exact Or.inr rfl | exact Or.inr (Or.inl rfl) | exact Or.inr (Or.inr rfl))) pgs_nil))))) (fun _ hr => (pe_cmp (pc_din (by have := room_hu hr; exact Nat.lt_of_le_of_lt (Nat.add_le_add_left (by decide) _) this) (pv 0) (pv 2)))) (fun _ => rfl))))) (fun _ _ _ _ _ => (pv 5))) (Evl.pss_cut (ps_if (L3G.pt_tru (pv 4)) (pss_cons (ps_asg (pv 4) (pg_sub (pv 2) (pv 3) (set_dict (by have := room_hu hr; exact Nat.lt_of_le_of_lt (Nat.add_le_add_left (by decide) _) this)))) pss_nil) pss_nil) pss_nil))) (L3G.pss_frz (pss_cons (ps_if (pt_cmpR (L3G.op_eqM (room_hu hr)) (pv 2) (pv 1) (nomark _)) (pss_cons (ps_ret (pv 2)) pss_nil) pss_nil) (pss_cons (ps_set (i := 1) sc_without_exits.nd rfl (by first | exact Or.inl rfl | exact Or.inr rfl | exact Or.inr (Or.inl rfl) | exact Or.inr (Or.inr rfl)) (pv 2)) pss_nil)))))) pss_nil), ?_⟩
    rw [show start ["system", "choices", "left", "state", "kept", "n"] [u0, u1] = ([some u0, some u1, none, none, none, none] : L2.St) from rfl]
    obtain ⟨o12, e13, hm⟩ := bindS hm
    refine q_whileR w _ (fun s10 B14 σ25 => ∃ v29 o31 o32 o33, σ25 = [some u0, some v29, o31, o32, o33, none] ∧ ((rDic (rLst rInt))).is K B14 v29 s10) (fun s10 => []) a1 e13 (fun B9 x9 => ⟨u1, _, _, _, rfl, (((rDic (rLst rInt))).mono x9 f1)⟩) rfl ?_ ?_
    · skip
      rintro s10 s167 B14 B15 H16 σ25 hb11 x17 ⟨v29, o31, o32, o33, rfl, h30⟩ x18 w19 ho24 N20 K21 hN22 hB23 Q26 qT27 qF28
      replace w19 : Own K B15 M [] H16 := w19
      refine q_wt w19 (et_B (ev_bl (b := true))) (fun hq35 B34 H34 x34 (w34 : Own K B34 M [] H34) => qT27 _ ?_) (fun hq37 B36 H36 x36 (w36 : Own K B36 M [] H36) => qF28 _ ?_)
      · skip
        rw [if_pos hq35] at hb11
        refine q_asgM (r := (rLst rInt)) (n := 2) w34 fun p39 H38 (w38 : Own K B34 M [⟨p39, (cMap (rLst rInt)), ([] : (List (Int × (List Int))))⟩] H38) => ?_
        obtain ⟨s139, e44, hb11⟩ := bindS hb11
        refine q_fold w38 (ei_dic (ev_var rfl (((rDic (rLst rInt))).mono (x18.trans x34) h30))) _ (fun s40 B45 σ58 => ∃ o59 o60, σ58 = [some u0, some v29, some (.ref p39), o59, o60, none]) (fun s40 => [⟨p39, (cMap (rLst rInt)), s40⟩]) (([] : (List (Int × (List Int))))) e44 (fun B9 x9 => ⟨_, _, rfl⟩) rfl ?_ ?_
        · skip
          rintro s40 x41 s155 v51 B45 B46 H47 σ58 hb42 x48 ⟨o59, o60, rfl⟩ x49 w50 h52 N53 K54 hN55
          replace w50 : Own K B46 M [⟨p39, (cMap (rLst rInt)), s40⟩] H47 := w50
          refine g_name ?_
          obtain ⟨t61, e62, hb42⟩ := bindS hb42
          obtain ⟨t122, e123, hb42⟩ := bindS hb42
          obtain ⟨t124, e125, hb42⟩ := bindS hb42
          refine q_asg (n := 4) w50 (ev_frz (el_lc (S := Unit) (ys := t124.1) (s1 := t124.2) (s0 := ()) (σ' := [some u0, some v29, some (.ref p39), some v51, o60, none]) rInt (ei_lst (ev_fGet (ev_var rfl (((rDic (rLst rInt))).mono (((x18.trans x34).trans x48).trans x49) h30)) (ev_varI rfl h52) e62)) _ (fun (s63 : Unit) => [⟨p39, (cMap (rLst rInt)), s40⟩]) rfl e125 e123 rfl (by rintro s63 x70 o75 s76 v68 D73 a74 B64 H65 hb72 x66 w67 h69 PY77 PN78 qY79 qN80; replace w67 : Own K B64 M [⟨D73, (cLst rInt), a74⟩, ⟨p39, (cMap (rLst rInt)), s40⟩] H65 := w67; refine g_name ?_; refine ⟨rfl, ?_⟩; obtain ⟨t87, e88, hb72⟩ := bindS hb72; obtain ⟨t89, e90, hb72⟩ := bindS hb72; obtain ⟨t109, e110, hb72⟩ := bindS hb72; exact (et_B (ev_allG hP0 (ei_tup (ev_snd (ev_ix (ev_seqT (ev_ix (ev_seqT (ev_var rfl (((rTup (rTup (rT2 rInt (rTup (rT2 rInt rInt)))))).mono (((((x17.trans x18).trans x34).trans x48).trans x49).trans x66) f0))) (ev_varI rfl h52) e88)) (ev_varI rfl h69) e90))) _ (fun σ104 => ∃ o91 o92, σ104 = [o91, o92, some v29]) ⟨none, none, rfl⟩ e110 (by rintro _ x99 c100 v97 B93 H94 σ104 hb101 x95 ⟨o91, o92, rfl⟩ w96 h98 Q102 q103; replace w96 : Own K B93 M [⟨D73, (cLst rInt), a74⟩, ⟨p39, (cMap (rLst rInt)), s40⟩] H94 := w96; refine g_T2 h98 w96 fun v105 v106 h107 h108 => ?_; refine g_cons ?_; refine g_name ?_; refine g_cons ?_; refine g_name ?_; refine g_nil ?_; obtain rfl := Option.some.inj hb101; exact (ev_fIn (ev_varI rfl h107) (ev_var rfl (((rDic (rLst rInt))).mono (((((x18.trans x34).trans x48).trans x49).trans x66).trans x95) h30))) B93 H94 (Ex.refl _) w96 _ fun v111 B112 H113 x114 w115 h116 => by rw [show v111 = V.bl _ from h116]; exact q103 _ B112 H113 ⟨_, _, rfl⟩ x114 w115))) B64 H65 (Ex.refl _) w67 _ fun B117 H118 x119 (w120 : Own K B117 M [⟨D73, (cLst rInt), a74⟩, ⟨p39, (cMap (rLst rInt)), s40⟩] H118) => lc_if (fun hq121 => by rw [if_pos hq121] at hb72; obtain ⟨rfl, rfl⟩ := Prod.mk.inj (Option.some.inj hb72); exact (ev_varI rfl h69) B117 H118 (Ex.refl _) w120 _ fun v81 B82 H83 x84 w85 h86 => qY79 v81 B82 H83 _ rfl (x119.trans x84) w85 h86) (fun hq121 => by rw [if_neg (by rw [hq121]; exact Bool.false_ne_true)] at hb72; obtain ⟨rfl, rfl⟩ := Prod.mk.inj (Option.some.inj hb72); exact qN80 B117 H118 rfl x119 w120)))) fun v127 B126 H126 x126 (w126 : Own K B126 M [⟨p39, (cMap (rLst rInt)), s40⟩] H126) h128 => ?_
          obtain ⟨s130, e131, hb42⟩ := bindS hb42
          refine q_cut (fun σ138 H137 => ∃ B137, Ex B126 B137 ∧ Own K B137 M [⟨p39, (cMap (rLst rInt)), s130⟩] H137 ∧ σ138 = [some u0, some v29, some (.ref p39), some v51, some v127, none]) ?_ ?_
          · skip
            refine q_ifc w126 (et_truL (ev_seqL (ev_var rfl h128))) (fun hb129 B132 H132 x132 (w132 : Own K B132 M [⟨p39, (cMap (rLst rInt)), s40⟩] H132) => ?_) (fun hb129 B136 H136 x136 (w136 : Own K B136 M [⟨p39, (cMap (rLst rInt)), s40⟩] H136) => ?_)
            · skip
              rw [if_pos hb129] at e131
              obtain ⟨t133, e134, e131⟩ := bindS e131
              refine q_setM (n := 0) (r := (rLst rInt)) w132 (ev_var rfl (((rLst rInt)).mono x132 h128)) rfl (ev_varI rfl h52) rfl e134 fun B135 H135 x135 (w135 : Own K B135 M [⟨p39, (cMap (rLst rInt)), (putM s40 x41 t124.1)⟩] H135) => ?_
              replace e131 : some _ = some _ := e131
              cases e131
              exact ⟨_, (x132.trans x135), w135, rfl⟩
            rw [if_neg (by rw [hb129]; exact Bool.false_ne_true)] at e131
            replace e131 : some _ = some _ := e131
            cases e131
            exact ⟨_, x136, w136, rfl⟩
          rintro σ138' H137 ⟨B137, x137, w137, rfl⟩
          replace hb42 : some _ = some _ := hb42
          cases hb42
          exact hN55 _ _ _ (x126.trans x137) w137 ⟨_, _, rfl⟩
        rintro B140 H141 σ144 x142 w143 ⟨o145, o146, rfl⟩
        replace w143 : Own K B140 M [⟨p39, (cMap (rLst rInt)), s139⟩] H141 := w143
        refine q_frzM (n := 0) w143 rfl fun B147 H147 x147 (w147 : Own K B147 M [] H147) h148 => ?_
        refine q_if w147 (et_test (ev_eqM (dr_lst dr_int) (by decide) (ev_var rfl h148) (ev_var rfl (((rDic (rLst rInt))).mono (((x18.trans x34).trans x142).trans x147) h30)))) (fun hb149 B150 H150 x150 (w150 : Own K B150 M [] H150) => ?_) (fun hb149 B151 H151 x151 (w151 : Own K B151 M [] H151) => ?_)
        · skip
          rw [if_pos hb149] at hb11
          replace hb11 : some _ = some _ := hb11
          obtain rfl := Option.some.inj hb11
          obtain rfl := ho24 _ rfl
          replace hm : some _ = some _ := hm
          obtain rfl := Option.some.inj hm
          exact q_ret w150 (ev_var rfl (((rDic (rLst rInt))).mono x150 h148)) fun v9 B9 H9 x9 w9 h9 => k _ _ _ ((((((x17.trans x18).trans x34).trans x142).trans x147).trans x150).trans x9) w9 h9
        rw [if_neg (by rw [hb149]; exact Bool.false_ne_true)] at hb11
        refine q_asg (n := 1) w151 (ev_var rfl (((rDic (rLst rInt))).mono x151 h148)) fun v153 B152 H152 x152 (w152 : Own K B152 M [] H152) h154 => ?_
        replace hb11 : some _ = some _ := hb11
        cases hb11
        exact hN22 _ _ _ _ rfl ((((x34.trans x142).trans x147).trans x151).trans x152) w152 ⟨v153, _, _, _, rfl, h154⟩
      cases hq37
    rintro s156 B157 H158 σ161 rfl x159 w160 ⟨v162, o164, o165, o166, rfl, h163⟩
    dsimp only at hm
    replace w160 : Own K B157 M [] H158 := w160
    cases hm
noncomputable def m_closed_parts (a0 : (List (List (Int × (List (Int × Int)))))) : Option (List (List (Int × (List Int)))) :=
  Option.bind (small62 ((a0.length : Int))) fun t10 =>
  Option.bind (room ((rng 0 ((a0.length : Int)))).length) fun t42 =>
  Option.bind (dcMM (fun (x18 : Int) => (Option.bind (ixL a0 x18) fun t26 => Option.bind (rgO 0 ((t26.length : Int))) fun t28 => some (x18, t28))) [] ((rng 0 ((a0.length : Int))))) fun t44 =>
  Option.bind (whileB (S := ((Option (List (Int × Int))) × (List (Int × (List Int))))) (fun (s50 : ((Option (List (Int × Int))) × (List (Int × (List Int))))) => (
    if true = true then
      Option.bind (m_edges_of a0 s50.2) fun t78 =>
      Option.bind (m_components t78) fun t80 =>
      Option.bind (m_pruned a0 s50.2 t80) fun t85 =>
      Option.bind (m_without_exits a0 t85) fun t87 =>
      if (eqM t87 s50.2) = true then
        some (Stp.bk (((some t80), s50.2)))
      else
        some (Stp.nx (((some t80), t87)))
    else
      some (Stp.bk ((s50.1, s50.2)))
  )) ((none, t44))) fun s98 =>
  Option.bind s98.1 fun a109 =>
  Option.bind (room ((a109.map (·.1))).length) fun t141 =>
  Option.bind (compM (S := Unit) (β := Int) (fun (s115 : Unit) (x122 : Int) => (Option.bind (getM a109 x122) fun t139 => some (some t139, ()))) (()) ((a109.map (·.1)))) fun t143 =>
  Option.bind (room2 t143.1.length 96000) fun t145 =>
  Option.bind (few (setZ t143.1).length) fun t147 =>
  Option.bind (foldO (S := (List (List (Int × (List Int))))) (α := Int) (fun (s149 : (List (List (Int × (List Int))))) (x150 : Int) => (
    Option.bind (few s98.2.length) fun t169 =>
    Option.bind (room ((sortZ (s98.2.map (·.1)))).length) fun t204 =>
    Option.bind (compM (S := Unit) (β := (Int × (List Int))) (fun (s171 : Unit) (x178 : Int) => (Option.bind (getM a109 x178) fun t195 => if (decide (t195 = x150)) = true then (Option.bind (getM s98.2 x178) fun t202 => some (some ((x178, t202)), ())) else some (none, ()))) (()) ((sortZ (s98.2.map (·.1))))) fun t206 =>
    Option.bind (room s149.length) fun t208 =>
    some (s149 ++ [t206.1])
  )) (([] : List (List (Int × (List Int))))) ((setZ t143.1))) fun s211 =>
  some s211
def C_closed_parts : List Arg → List Cell → Arg → List Cell → Prop := fun as L r L' => ∃ a0 c, as = [⟨(rTup (rTup (rT2 rInt (rTup (rT2 rInt rInt))))), a0⟩] ∧ L = [] ∧ m_closed_parts a0 = some c ∧ r = ⟨(rLst (rLst (rT2 rInt (rTup rInt)))), c⟩ ∧ L' = []
theorem sc_closed_parts : FnScope ["system", "choices", "names", "left", "parts", "name", "state"] ["system"] (defScope s_closed_parts) := ⟨rfl, rfl, rfl, by decide +kernel, rfl, by decide +kernel, by decide +kernel⟩
set_option maxHeartbeats 0 in
theorem ok_closed_parts (F : FunC K "closed_parts" s_closed_parts f fd cc) (c_components : Cl P w K mg base 2 "components" (spV K T C_components) []) (c_edges_of : Cl P w K mg base 1 "edges_of" (spV K T C_edges_of) []) (c_without_exits : Cl P w K mg base 2 "without_exits" (spV K T C_without_exits) []) (c_pruned : Cl P w K mg base 2 "pruned" (spV K T C_pruned) []) (z_range : mg "range" = none) (z_len : mg "len" = none) (z_list : mg "list" = none) (z_sorted : mg "sorted" = none) (z_set : mg "set" = none) (z_tuple : mg "tuple" = none) : FnOk P w K mg base CX0 3 f fd ["system"] (spV K T C_closed_parts) := by
  refine F.ok sc_closed_parts (fun vs H Q E h => ?_) (fun A outer s H vs Q E hr h => ?_)
  · obtain ⟨B, M, L, as, r, L', hT, w, ha, ⟨_, _, rfl, _⟩, k⟩ := h
    exact args_len ha
  · skip
    obtain ⟨B, M, L, as, r, L', rfl, w, ha, ⟨a0, c, rfl, rfl, hm, rfl, rfl⟩, k⟩ := h
    obtain ⟨u0, rfl, f0⟩ := args1 ha
    replace f0 : ((rTup (rTup (rT2 rInt (rTup (rT2 rInt rInt)))))).is K B u0 a0 := f0
    unfold m_closed_parts at hm
    refine ⟨_, (pss_cons (ps_set (i := 1) sc_closed_parts.nd rfl (by first | exact Or.inl rfl | exact Or.inr rfl | exact Or.inr (Or.inl rfl) | exact Or.inr (Or.inr rfl)) (pe_dc rfl sc_closed_parts.nd (pi_range1 rfl z_range (pa_cons (pe_callB call_len_seq rfl z_len bt_len (pa_cons (pv 0) pa_nil)) pa_nil)) (blkOk_by (own := [("state", 6)]) (show blkC ["system", "choices", "names", "left", "parts", "name", "state"] (defScope s_closed_parts) _ _ = true by decide +kernel)) (fun _ _ _ _ _ => (pg_name (i := 6) sc_closed_parts.nd rfl (by first | exact Or.inl rfl | exact Or.inr rfl | exact Or.inr (Or.inl rfl) | exact Or.inr (Or.inr rfl)))) (fun _ _ _ _ _ => pts_nil) (fun _ _ _ _ _ => (pv 6)) (fun _ _ _ _ _ => (pe_listRg rfl rfl z_list (prg_1 rfl z_range (pe_callB (show CallR _ _ (rLen K) from call_len_seq) rfl z_len bt_len (pa_cons (pe_ix (show IxR _ (rIx K) from ix_seq) (pv 0) (pv 6) (fun _ _ => rfl)) pa_nil))))))) (L3G.pss_frz (pss_cons (ps_while PassesOwn.never (pt_val pe_bl) (pss_cons (ps_set (i := 2) sc_closed_parts.nd rfl (by first | exact Or.inl rfl | exact Or.inr rfl | exact Or.inr (Or.inl rfl) | exact Or.inr (Or.inr rfl)) (pe_c c_components hr (by omega) rfl (pa_cons (pe_c c_edges_of hr (by omega) rfl (pa_cons (pv 0) (pa_cons (pv 1) pa_nil))) pa_nil))) (pss_cons (ps_set (i := 3) sc_closed_parts.nd rfl (by first | exact Or.inl rfl | exact Or.inr rfl | exact Or.inr (Or.inl rfl) | exact Or.inr (Or.inr rfl)) (pe_c c_without_exits hr (by omega) rfl (pa_cons (pv 0) (pa_cons (pe_c c_pruned hr (by omega) rfl (pa_cons (pv 0) (pa_cons (pv 1) (pa_cons (pv 2) pa_nil)))) pa_nil)))) (pss_cons (ps_if (pt_cmpR (L3G.op_eqM (room_hu hr)) (pv 3) (pv 1) (nomark _)) (pss_cons ps_break pss_nil) pss_nil) (pss_cons (ps_set (i := 1) sc_closed_parts.nd rfl (by first | exact Or.inl rfl | exact Or.inr rfl | exact Or.inr (Or.inl rfl) | exact Or.inr (Or.inr rfl)) (pv 3)) pss_nil))))) (pss_cons (ps_set (i := 4) sc_closed_parts.nd rfl (by first | exact Or.inl rfl | exact Or.inr rfl | exact Or.inr (Or.inl rfl) | exact Or.inr (Or.inr rfl)) (pe_lst pa_nil)) (pss_cons (ps_for PassesOwn.never rfl (pi_list (L3G.pe_sortSet rfl rfl z_sorted bt_sorted rfl z_set (pe_lc rfl sc_closed_parts.nd (pi_keys (pv 2)) (blkOk_by (own := [("state", 6)]) (show blkC ["system", "choices", "names", "left", "parts", "name", "state"] (defScope s_closed_parts) _ _ = true by decide +kernel)) (fun _ _ _ _ _ => (pg_name (i := 6) sc_closed_parts.nd rfl (by first | exact Or.inl rfl | exact Or.inr rfl | exact Or.inr (Or.inl rfl) | exact Or.inr (Or.inr rfl)))) (fun _ _ _ _ _ => pts_nil) (fun _ _ _ _ _ => (pe_dget (by have := room_hu hr; exact Nat.lt_of_le_of_lt (Nat.add_le_add_left (by decide) _) this) (pv 2) (pv 6) (fun _ _ => rfl)))))) (pg_name (i := 5) sc_closed_parts.nd rfl (by first | exact Or.inl rfl | exact Or.inr rfl | exact Or.inr (Or.inl rfl) | exact Or.inr (Or.inr rfl))) (pss_cons (ps_expr (pe_bm PySem.F.plainAttrs_list PySem.F.slot_list_append PySem.F.type_list_append mt_append (pv 4) (pa_cons (pe_lc rfl sc_closed_parts.nd (pi_list (pe_callB (call_sortedDI rfl) rfl z_sorted bt_sorted (pa_cons (pv 1) pa_nil))) (blkOk_by (own := [("state", 6)]) (show blkC ["system", "choices", "names", "left", "parts", "name", "state"] (defScope s_closed_parts) _ _ = true by decide +kernel)) (fun _ _ _ _ _ => (pg_name (i := 6) sc_closed_parts.nd rfl (by first | exact Or.inl rfl | exact Or.inr rfl | exact Or.inr (Or.inl rfl) | exact Or.inr (Or.inr rfl)))) (fun _ _ _ _ _ => (pts_one (pt_cmpR op_eq (pe_dget (by have := room_hu hr; exact Nat.lt_of_le_of_lt (Nat.add_le_add_left (by decide) _) this) (pv 2) (pv 6) (fun _ _ => rfl)) (pv 5) (nomark _)))) (fun _ _ _ _ _ => (pe_tup (pa_cons (pv 6) (pa_cons (pe_callTy (show CallR _ _ (rTupOf K) from call_tuple_of) rfl z_tuple bt_tuple (pa_cons (pe_dget (by have := room_hu hr; exact Nat.lt_of_le_of_lt (Nat.add_le_add_left (by decide) _) this) (pv 1) (pv 6) (fun _ _ => rfl)) pa_nil)) pa_nil))))) pa_nil))) pss_nil)) (pss_cons (ps_ret (pv 4)) pss_nil)))))), ?_⟩
    rw [show start ["system", "choices", "names", "left", "parts", "name", "state"] [u0] = ([some u0, none, none, none, none, none, none] : L2.St) from rfl]
    obtain ⟨t10, e11, hm⟩ := bindS hm
    obtain ⟨t42, e43, hm⟩ := bindS hm
    obtain ⟨t44, e45, hm⟩ := bindS hm
    refine q_asgC (n := 1) w (ec_dcM (rLst rInt) (kvs := t44) (σ' := [some u0, none, none, none, none, none, none]) (ei_rng1 (ea_cons (ev_len (ev_seqT (ev_var rfl f0))) ea_nil) e11) (fun (x18 : Int) => (Option.bind (ixL a0 x18) fun t26 => Option.bind (rgO 0 ((t26.length : Int))) fun t28 => some (x18, t28))) e45 e43 rfl (by rintro x18 o22 v16 D20 a21 B12 H13 hb19 x14 w15 h17 PY23 PN24 qY25; replace w15 : Own K B12 M [⟨D20, (cMap (rLst rInt)), a21⟩] H13 := w15; refine g_name ?_; refine ⟨rfl, ?_⟩; obtain ⟨t26, e27, hb19⟩ := bindS hb19; obtain ⟨t28, e29, hb19⟩ := bindS hb19; obtain rfl := Option.some.inj hb19; refine dc_yes ?_; exact (ev_varI rfl h17) B12 H13 (Ex.refl _) w15 _ fun v30 B31 H32 x33 w34 h35 => (ev_frz (el_listRg1 (ev_len (ev_seqT (ev_ix (ev_seqT (ev_var rfl (((rTup (rTup (rT2 rInt (rTup (rT2 rInt rInt)))))).mono x14 f0))) (ev_varI rfl h17) e27))) e29)) B31 H32 x33 w34 _ fun v36 B37 H38 x39 w40 h41 => qY25 v30 v36 B37 H38 (x33.trans x39) w40 h35 h41)) fun p47 B46 H46 x46 (w46 : Own K B46 M [⟨p47, (cMap (rLst rInt)), t44⟩] H46) => ?_
    refine q_frzM (n := 0) w46 rfl fun B48 H48 x48 (w48 : Own K B48 M [] H48) h49 => ?_
    obtain ⟨s98, e53, hm⟩ := bindS hm
    refine q_whileB w48 _ (fun s50 B54 σ65 => ∃ v69 v71 o73, σ65 = [some u0, some v71, v69, o73, none, none, none] ∧ slotIs (rDic rInt) K B54 v69 s50.1 ∧ ((rDic (rLst rInt))).is K B54 v71 s50.2) (fun s50 => []) ((none, t44)) e53 (fun B9 x9 => ⟨none, (.ref p47), _, rfl, (by exact trivial), (((rDic (rLst rInt))).mono x9 h49)⟩) rfl ?_ ?_
    · skip
      rintro s50 s219 B54 B55 H56 σ65 hb51 x57 ⟨v69, v71, o73, rfl, h70, h72⟩ x58 w59 N60 K61 hN62 hB63 Q66 qT67 qF68
      replace w59 : Own K B55 M [] H56 := w59
      refine q_wt w59 (et_B (ev_bl (b := true))) (fun hq75 B74 H74 x74 (w74 : Own K B74 M [] H74) => qT67 _ ?_) (fun hq77 B76 H76 x76 (w76 : Own K B76 M [] H76) => qF68 _ ?_)
      · skip
        rw [if_pos hq75] at hb51
        obtain ⟨t78, e79, hb51⟩ := bindS hb51
        obtain ⟨t80, e81, hb51⟩ := bindS hb51
        refine q_asg (n := 2) w74 (ev_call (ea_cons (ev_call (ea_cons (ev_var rfl (((rTup (rTup (rT2 rInt (rTup (rT2 rInt rInt)))))).mono ((((x46.trans x48).trans x57).trans x58).trans x74) f0)) (ea_cons (ev_var rfl (((rDic (rLst rInt))).mono (x58.trans x74) h72)) ea_nil)) ⟨_, _, _, rfl, rfl, e79, rfl, rfl⟩) ea_nil) ⟨_, _, rfl, rfl, e81, rfl, rfl⟩) fun v83 B82 H82 x82 (w82 : Own K B82 M [] H82) h84 => ?_
        obtain ⟨t85, e86, hb51⟩ := bindS hb51
        obtain ⟨t87, e88, hb51⟩ := bindS hb51
        refine q_asg (n := 3) w82 (ev_call (ea_cons (ev_var rfl (((rTup (rTup (rT2 rInt (rTup (rT2 rInt rInt)))))).mono (((((x46.trans x48).trans x57).trans x58).trans x74).trans x82) f0)) (ea_cons (ev_call (ea_cons (ev_var rfl (((rTup (rTup (rT2 rInt (rTup (rT2 rInt rInt)))))).mono (((((x46.trans x48).trans x57).trans x58).trans x74).trans x82) f0)) (ea_cons (ev_var rfl (((rDic (rLst rInt))).mono ((x58.trans x74).trans x82) h72)) (ea_cons (ev_var rfl h84) ea_nil))) ⟨_, _, _, _, rfl, rfl, e86, rfl, rfl⟩) ea_nil)) ⟨_, _, _, rfl, rfl, e88, rfl, rfl⟩) fun v90 B89 H89 x89 (w89 : Own K B89 M [] H89) h91 => ?_
        refine q_if w89 (et_test (ev_eqM (dr_lst dr_int) (by decide) (ev_var rfl h91) (ev_var rfl (((rDic (rLst rInt))).mono (((x58.trans x74).trans x82).trans x89) h72)))) (fun hb92 B93 H93 x93 (w93 : Own K B93 M [] H93) => ?_) (fun hb92 B94 H94 x94 (w94 : Own K B94 M [] H94) => ?_)
        · skip
          rw [if_pos hb92] at hb51
          replace hb51 : some _ = some _ := hb51
          cases hb51
          exact hB63 _ _ _ _ rfl (((x74.trans x82).trans x89).trans x93) w93 ⟨(some v83), v71, _, rfl, ⟨_, rfl, (((rDic rInt)).mono (x89.trans x93) h84)⟩, (((rDic (rLst rInt))).mono ((((x58.trans x74).trans x82).trans x89).trans x93) h72)⟩
        rw [if_neg (by rw [hb92]; exact Bool.false_ne_true)] at hb51
        refine q_asg (n := 1) w94 (ev_var rfl (((rDic (rLst rInt))).mono x94 h91)) fun v96 B95 H95 x95 (w95 : Own K B95 M [] H95) h97 => ?_
        replace hb51 : some _ = some _ := hb51
        cases hb51
        exact hN62 _ _ _ _ rfl ((((x74.trans x82).trans x89).trans x94).trans x95) w95 ⟨(some v83), v96, _, rfl, ⟨_, rfl, (((rDic rInt)).mono ((x89.trans x94).trans x95) h84)⟩, h97⟩
      cases hq77
    rintro B99 H100 σ103 x101 w102 ⟨v104, v106, o108, rfl, h105, h107⟩
    replace w102 : Own K B99 M [] H100 := w102
    obtain ⟨a109, e110, hm⟩ := bindS hm
    obtain ⟨v111, rfl, h112⟩ := slot_get h105 e110
    refine q_asgL (n := 4) w102 (el_lst (r := (rLst (rT2 rInt (rTup rInt)))) ([] : List (List (Int × (List Int)))) ea_nil) fun p114 B113 H113 x113 (w113 : Own K B113 M [⟨p114, (cLst (rLst (rT2 rInt (rTup rInt)))), ([] : List (List (Int × (List Int))))⟩] H113) => ?_
    obtain ⟨t141, e142, hm⟩ := bindS hm
    obtain ⟨t143, e144, hm⟩ := bindS hm
    obtain ⟨t145, e146, hm⟩ := bindS hm
    obtain ⟨t147, e148, hm⟩ := bindS hm
    obtain ⟨s211, e153, hm⟩ := bindS hm
    refine q_fold w113 (ei_lst (ev_frz (el_sortSet (ev_frz (el_lc (S := Unit) (ys := t143.1) (s1 := t143.2) (s0 := ()) (σ' := [some u0, some v106, some v111, o108, some (.ref p114), none, none]) rInt (ei_dic (ev_var rfl (((rDic rInt)).mono x113 h112))) _ (fun (s115 : Unit) => [⟨p114, (cLst (rLst (rT2 rInt (rTup rInt)))), ([] : List (List (Int × (List Int))))⟩]) rfl e144 e142 rfl (by rintro s115 x122 o127 s128 v120 D125 a126 B116 H117 hb124 x118 w119 h121 PY129 PN130 qY131 qN132; replace w119 : Own K B116 M [⟨D125, (cLst rInt), a126⟩, ⟨p114, (cLst (rLst (rT2 rInt (rTup rInt)))), ([] : List (List (Int × (List Int))))⟩] H117 := w119; refine g_name ?_; refine ⟨rfl, ?_⟩; obtain ⟨t139, e140, hb124⟩ := bindS hb124; obtain ⟨rfl, rfl⟩ := Prod.mk.inj (Option.some.inj hb124); refine lc_yes ?_; exact (ev_fGet (ev_var rfl (((rDic rInt)).mono (x113.trans x118) h112)) (ev_varI rfl h121) e140) B116 H117 (Ex.refl _) w119 _ fun v133 B134 H135 x136 w137 h138 => qY131 v133 B134 H135 _ rfl x136 w137 h138))) e146 e148))) _ (fun s149 B154 σ167 => ∃ o168, σ167 = [some u0, some v106, some v111, o108, some (.ref p114), o168, none]) (fun s149 => [⟨p114, (cLst (rLst (rT2 rInt (rTup rInt)))), s149⟩]) (([] : List (List (Int × (List Int))))) e153 (fun B9 x9 => ⟨_, rfl⟩) rfl ?_ ?_
    · skip
      rintro s149 x150 s218 v160 B154 B155 H156 σ167 hb151 x157 ⟨o168, rfl⟩ x158 w159 h161 N162 K163 hN164
      replace w159 : Own K B155 M [⟨p114, (cLst (rLst (rT2 rInt (rTup rInt)))), s149⟩] H156 := w159
      refine g_name ?_
      obtain ⟨t169, e170, hb151⟩ := bindS hb151
      obtain ⟨t204, e205, hb151⟩ := bindS hb151
      obtain ⟨t206, e207, hb151⟩ := bindS hb151
      obtain ⟨t208, e209, hb151⟩ := bindS hb151
      refine q_app (n := 0) (m := 4) w159 rfl (ev_frz (el_lc (S := Unit) (ys := t206.1) (s1 := t206.2) (s0 := ()) (σ' := [some u0, some v106, some v111, o108, some (.ref p114), some v160, none]) (rT2 rInt (rTup rInt)) (ei_lst (ev_frz (el_sortD (ev_var rfl (((rDic (rLst rInt))).mono ((x113.trans x157).trans x158) h107)) e170))) _ (fun (s171 : Unit) => [⟨p114, (cLst (rLst (rT2 rInt (rTup rInt)))), s149⟩]) rfl e207 e205 rfl (by rintro s171 x178 o183 s184 v176 D181 a182 B172 H173 hb180 x174 w175 h177 PY185 PN186 qY187 qN188; replace w175 : Own K B172 M [⟨D181, (cLst (rT2 rInt (rTup rInt))), a182⟩, ⟨p114, (cLst (rLst (rT2 rInt (rTup rInt)))), s149⟩] H173 := w175; refine g_name ?_; refine ⟨rfl, ?_⟩; obtain ⟨t195, e196, hb180⟩ := bindS hb180; exact (et_test (ev_eqI (ev_fGet (ev_var rfl (((rDic rInt)).mono (((x113.trans x157).trans x158).trans x174) h112)) (ev_varI rfl h177) e196) (ev_varI rfl h161))) B172 H173 (Ex.refl _) w175 _ fun B197 H198 x199 (w200 : Own K B197 M [⟨D181, (cLst (rT2 rInt (rTup rInt))), a182⟩, ⟨p114, (cLst (rLst (rT2 rInt (rTup rInt)))), s149⟩] H198) => lc_if (fun hq201 => by rw [if_pos hq201] at hb180; obtain ⟨t202, e203, hb180⟩ := bindS hb180; obtain ⟨rfl, rfl⟩ := Prod.mk.inj (Option.some.inj hb180); exact (ev_T2 (ea_cons (ev_varI rfl h177) (ea_cons (ev_tupOfL (ev_fGet (ev_var rfl (((rDic (rLst rInt))).mono ((((x113.trans x157).trans x158).trans x174).trans x199) h107)) (ev_varI rfl h177) e203)) ea_nil))) B197 H198 (Ex.refl _) w200 _ fun v189 B190 H191 x192 w193 h194 => qY187 v189 B190 H191 _ rfl (x199.trans x192) w193 h194) (fun hq201 => by rw [if_neg (by rw [hq201]; exact Bool.false_ne_true)] at hb180; obtain ⟨rfl, rfl⟩ := Prod.mk.inj (Option.some.inj hb180); exact qN188 B197 H198 rfl x199 w200)))) rfl ⟨0, _, rfl⟩ e209 fun B210 H210 x210 (w210 : Own K B210 M [⟨p114, (cLst (rLst (rT2 rInt (rTup rInt)))), (s149 ++ [t206.1])⟩] H210) => ?_
      replace hb151 : some _ = some _ := hb151
      cases hb151
      exact hN164 _ _ _ x210 w210 ⟨_, rfl⟩
    rintro B212 H213 σ216 x214 w215 ⟨o217, rfl⟩
    replace w215 : Own K B212 M [⟨p114, (cLst (rLst (rT2 rInt (rTup rInt)))), s211⟩] H213 := w215
    replace hm : some _ = some _ := hm
    obtain rfl := Option.some.inj hm
    exact q_retC (n := 0) (m := 4) w215 rfl rfl fun v9 B9 x9 w9 h9 => k _ _ _ (((((x46.trans x48).trans x101).trans x113).trans x214).trans x9) w9 h9
noncomputable def m_l_tape (a0 : (List Int)) : Option (List Int) :=
  Option.bind (foldO (S := (List Int)) (α := Int) (fun (s12 : (List Int)) (x13 : Int) => (
    Option.bind (mulI ((2 : Int)) x13) fun t35 =>
    Option.bind (if (decide (t35 < (0 : Int))) = true then
      some (((-(1 : Int)) - t35))
    else
      some t35
    ) fun (s41 : Int) =>
    Option.bind (powI ((10 : Int)) ((18 : Int))) fun t52 =>
    Option.bind (if (decide (s41 ≥ t52)) = true then
      Option.bind (foldO (S := (Int × (List Int))) (α := Int) (fun (s58 : (Int × (List Int))) (x59 : Int) => (
        Option.bind (if (decide (s58.1 > (0 : Int))) = true then
          Option.bind (modI s58.1 ((1000 : Int))) fun t84 =>
          Option.bind (room s58.2.length) fun t86 =>
          Option.bind (divI s58.1 ((1000 : Int))) fun t89 =>
          some ((t89, (s58.2 ++ [t84])))
        else
          some ((s58.1, s58.2))
        ) fun (s81 : (Int × (List Int))) =>
        some (s81.1, s81.2)
      )) ((s41, s12)) ((rng 0 ((40 : Int))))) fun s99 =>
      some ((s99.1, s99.2))
    else
      Option.bind (foldO (S := (List Int)) (α := Int) (fun (s110 : (List Int)) (x111 : Int) => (
        Option.bind (mulI s41 ((48271 : Int))) fun t131 =>
        Option.bind (mulI x111 ((40503 : Int))) fun t133 =>
        Option.bind (modI (((t131 + t133) + (11 : Int))) ((2147483629 : Int))) fun t135 =>
        Option.bind (mulI t135 ((69621 : Int))) fun t140 =>
        Option.bind (divI t135 ((65536 : Int))) fun t142 =>
        Option.bind (modI ((t140 + t142)) ((2147483629 : Int))) fun t144 =>
        Option.bind (room s110.length) fun t146 =>
        some (s110 ++ [t144])
      )) s12 ((rng 0 ((3 : Int))))) fun s149 =>
      some ((s41, s149))
    ) fun (s55 : (Int × (List Int))) =>
    some s55.2
  )) (([] : List Int)) a0) fun s164 =>
  some s164
def C__law_tape : List Arg → List Cell → Arg → List Cell → Prop := fun as L r L' => ∃ a0 c, as = [⟨(rScr rInt), a0⟩] ∧ L = [] ∧ m_l_tape a0 = some c ∧ r = ⟨(rLst rInt), c⟩ ∧ L' = []
theorem sc__law_tape : FnScope ["_law_script", "_law_tape_here", "_law_cell", "_law_number", "_law_k", "_law_first"] ["_law_script"] (defScope s__law_tape) := ⟨rfl, rfl, rfl, by decide +kernel, rfl, by decide +kernel, by decide +kernel⟩
set_option maxHeartbeats 0 in
theorem ok__law_tape (F : FunC K "_law_tape" s__law_tape f fd cc) (z_int : mg "int" = none) (z_range : mg "range" = none) : FnOk P w K mg base CX0 1 f fd ["_law_script"] (spV K T C__law_tape) := by
  refine F.ok sc__law_tape (fun vs H Q E h => ?_) (fun A outer s H vs Q E hr h => ?_)
  · obtain ⟨B, M, L, as, r, L', hT, w, ha, ⟨_, _, rfl, _⟩, k⟩ := h
    exact args_len ha
  · skip
    obtain ⟨B, M, L, as, r, L', rfl, w, ha, ⟨a0, c, rfl, rfl, hm, rfl, rfl⟩, k⟩ := h
    obtain ⟨u0, rfl, f0⟩ := args1 ha
    replace f0 : ((rScr rInt)).is K B u0 a0 := f0
    unfold m_l_tape at hm
    refine ⟨_, (pss_cons (ps_set (i := 1) sc__law_tape.nd rfl (by first | exact Or.inl rfl | exact Or.inr rfl | exact Or.inr (Or.inl rfl) | exact Or.inr (Or.inr rfl)) (pe_lst pa_nil)) (pss_cons (ps_for PassesOwn.never rfl (pi_list (pv 0)) (pg_name (i := 2) sc__law_tape.nd rfl (by first | exact Or.inl rfl | exact Or.inr rfl | exact Or.inr (Or.inl rfl) | exact Or.inr (Or.inr rfl))) (pss_cons (ps_set (i := 3) sc__law_tape.nd rfl (by first | exact Or.inl rfl | exact Or.inr rfl | exact Or.inr (Or.inl rfl) | exact Or.inr (Or.inr rfl)) (pe_op op_mulX pe_int (pe_callTy call_int1 rfl z_int bt_int (pa_cons (pv 2) pa_nil)))) (Evl.pss_cut (ps_if (pt_cmpR op_lt (pv 3) pe_int (nomark _)) (pss_cons (ps_set (i := 3) sc__law_tape.nd rfl (by first | exact Or.inl rfl | exact Or.inr rfl | exact Or.inr (Or.inl rfl) | exact Or.inr (Or.inr rfl)) (pe_op op_sub (pe_un un_neg pe_int) (pv 3))) pss_nil) pss_nil) (Evl.pss_cut (ps_if (pt_cmpR op_ge (pv 3) (pe_op op_pow pe_int pe_int) (nomark _)) (pss_cons (ps_for PassesOwn.never rfl (pi_range1 rfl z_range (pa_cons pe_int pa_nil)) (pg_name (i := 4) sc__law_tape.nd rfl (by first | exact Or.inl rfl | exact Or.inr rfl | exact Or.inr (Or.inl rfl) | exact Or.inr (Or.inr rfl))) (Evl.pss_cut (ps_if (pt_cmpR op_gt (pv 3) pe_int (nomark _)) (pss_cons (ps_expr (pe_bm PySem.F.plainAttrs_list PySem.F.slot_list_append PySem.F.type_list_append mt_append (pv 1) (pa_cons (pe_op op_mod (pe_callTy call_int1 rfl z_int bt_int (pa_cons (pv 3) pa_nil)) pe_int) pa_nil))) (pss_cons (ps_set (i := 3) sc__law_tape.nd rfl (by first | exact Or.inl rfl | exact Or.inr rfl | exact Or.inr (Or.inl rfl) | exact Or.inr (Or.inr rfl)) (pe_op op_fdivW (pv 3) pe_int)) pss_nil)) pss_nil) pss_nil)) pss_nil) (pss_cons (ps_for PassesOwn.never rfl (pi_range1 rfl z_range (pa_cons pe_int pa_nil)) (pg_name (i := 4) sc__law_tape.nd rfl (by first | exact Or.inl rfl | exact Or.inr rfl | exact Or.inr (Or.inl rfl) | exact Or.inr (Or.inr rfl))) (pss_cons (ps_set (i := 5) sc__law_tape.nd rfl (by first | exact Or.inl rfl | exact Or.inr rfl | exact Or.inr (Or.inl rfl) | exact Or.inr (Or.inr rfl)) (pe_op op_mod (pe_callTy call_int1 rfl z_int bt_int (pa_cons (pe_op op_add (pe_op op_add (pe_op op_mulX (pv 3) pe_int) (pe_op op_mulX (pv 4) pe_int)) pe_int) pa_nil)) pe_int)) (pss_cons (ps_expr (pe_bm PySem.F.plainAttrs_list PySem.F.slot_list_append PySem.F.type_list_append mt_append (pv 1) (pa_cons (pe_op op_mod (pe_callTy call_int1 rfl z_int bt_int (pa_cons (pe_op op_add (pe_op op_mulX (pv 5) pe_int) (pe_op op_fdivW (pv 5) pe_int)) pa_nil)) pe_int) pa_nil))) pss_nil))) pss_nil)) pss_nil)))) (pss_cons (ps_ret (pv 1)) pss_nil))), ?_⟩
    rw [show start ["_law_script", "_law_tape_here", "_law_cell", "_law_number", "_law_k", "_law_first"] [u0] = ([some u0, none, none, none, none, none] : L2.St) from rfl]
    refine q_asgL (n := 1) w (el_lst (r := rInt) ([] : List Int) ea_nil) fun p11 B10 H10 x10 (w10 : Own K B10 M [⟨p11, (cLst rInt), ([] : List Int)⟩] H10) => ?_
    obtain ⟨s164, e16, hm⟩ := bindS hm
    refine q_fold w10 (ei_scr (ev_var rfl (((rScr rInt)).mono x10 f0))) _ (fun s12 B17 σ30 => ∃ o31 o32 o33 o34, σ30 = [some u0, some (.ref p11), o31, o32, o33, o34]) (fun s12 => [⟨p11, (cLst rInt), s12⟩]) (([] : List Int)) e16 (fun B9 x9 => ⟨_, _, _, _, rfl⟩) rfl ?_ ?_
    · skip
      rintro s12 x13 s174 v23 B17 B18 H19 σ30 hb14 x20 ⟨o31, o32, o33, o34, rfl⟩ x21 w22 h24 N25 K26 hN27
      replace w22 : Own K B18 M [⟨p11, (cLst rInt), s12⟩] H19 := w22
      refine g_name ?_
      obtain ⟨t35, e36, hb14⟩ := bindS hb14
      refine q_asg (n := 3) w22 (ev_mul (ev_int (i := 2)) (ev_intI (ev_varI rfl h24)) e36) fun v38 B37 H37 x37 (w37 : Own K B37 M [⟨p11, (cLst rInt), s12⟩] H37) h39 => ?_
      obtain ⟨s41, e42, hb14⟩ := bindS hb14
      refine q_cut (fun σ51 H48 => ∃ v49 B48, Ex B37 B48 ∧ Own K B48 M [⟨p11, (cLst rInt), s12⟩] H48 ∧ σ51 = [some u0, some (.ref p11), some v23, some v49, o33, o34] ∧ (rInt).is K B48 v49 s41) ?_ ?_
      · skip
        refine q_ifc w37 (et_test (ev_lt (ev_varI rfl h39) (ev_int (i := 0)))) (fun hb40 B43 H43 x43 (w43 : Own K B43 M [⟨p11, (cLst rInt), s12⟩] H43) => ?_) (fun hb40 B47 H47 x47 (w47 : Own K B47 M [⟨p11, (cLst rInt), s12⟩] H47) => ?_)
        · skip
          rw [if_pos hb40] at e42
          refine q_asg (n := 3) w43 (ev_sub (ev_neg (ev_int (i := 1))) (ev_varI rfl h39)) fun v45 B44 H44 x44 (w44 : Own K B44 M [⟨p11, (cLst rInt), s12⟩] H44) h46 => ?_
          replace e42 : some _ = some _ := e42
          cases e42
          exact ⟨v45, _, (x43.trans x44), w44, rfl, h46⟩
        rw [if_neg (by rw [hb40]; exact Bool.false_ne_true)] at e42
        replace e42 : some _ = some _ := e42
        cases e42
        exact ⟨v38, _, x47, w47, rfl, ((rInt).mono x47 h39)⟩
      rintro σ51' H48 ⟨v49, B48, x48, w48, rfl, h50⟩
      obtain ⟨t52, e53, hb14⟩ := bindS hb14
      obtain ⟨s55, e56, hb14⟩ := bindS hb14
      refine q_cut (fun σ163 H158 => ∃ v159 o161 o162 B158, Ex B48 B158 ∧ Own K B158 M [⟨p11, (cLst rInt), s55.2⟩] H158 ∧ σ163 = [some u0, some (.ref p11), some v23, some v159, o161, o162] ∧ (rInt).is K B158 v159 s55.1) ?_ ?_
      · skip
        refine q_ifc w48 (et_test (ev_ge (ev_varI rfl h50) (ev_pow (ev_int (i := 10)) (ev_int (i := 18)) e53))) (fun hb54 B57 H57 x57 (w57 : Own K B57 M [⟨p11, (cLst rInt), s12⟩] H57) => ?_) (fun hb54 B109 H109 x109 (w109 : Own K B109 M [⟨p11, (cLst rInt), s12⟩] H109) => ?_)
        · skip
          rw [if_pos hb54] at e56
          obtain ⟨s99, e62, e56⟩ := bindS e56
          refine q_fold w57 (ei_rng1 (ea_cons (ev_int (i := 40)) ea_nil) (by decide)) _ (fun s58 B63 σ76 => ∃ v77 o79, σ76 = [some u0, some (.ref p11), some v23, some v77, o79, o34] ∧ (rInt).is K B63 v77 s58.1) (fun s58 => [⟨p11, (cLst rInt), s58.2⟩]) ((s41, s12)) e62 (fun B9 x9 => ⟨v49, _, rfl, ((rInt).mono x9 ((rInt).mono x57 h50))⟩) rfl ?_ ?_
          · skip
            rintro s58 x59 s108 v69 B63 B64 H65 σ76 hb60 x66 ⟨v77, o79, rfl, h78⟩ x67 w68 h70 N71 K72 hN73
            replace w68 : Own K B64 M [⟨p11, (cLst rInt), s58.2⟩] H65 := w68
            refine g_name ?_
            obtain ⟨s81, e82, hb60⟩ := bindS hb60
            refine q_cut (fun σ98 H95 => ∃ v96 B95, Ex B64 B95 ∧ Own K B95 M [⟨p11, (cLst rInt), s81.2⟩] H95 ∧ σ98 = [some u0, some (.ref p11), some v23, some v96, some v69, o34] ∧ (rInt).is K B95 v96 s81.1) ?_ ?_
            · skip
              refine q_ifc w68 (et_test (ev_gt (ev_varI rfl h78) (ev_int (i := 0)))) (fun hb80 B83 H83 x83 (w83 : Own K B83 M [⟨p11, (cLst rInt), s58.2⟩] H83) => ?_) (fun hb80 B94 H94 x94 (w94 : Own K B94 M [⟨p11, (cLst rInt), s58.2⟩] H94) => ?_)
              · skip
                rw [if_pos hb80] at e82
                obtain ⟨t84, e85, e82⟩ := bindS e82
                obtain ⟨t86, e87, e82⟩ := bindS e82
                refine q_app (n := 0) (m := 1) w83 rfl (ev_mod (ev_intI (ev_varI rfl h78)) (ev_int (i := 1000)) e85) rfl ⟨0, _, rfl⟩ e87 fun B88 H88 x88 (w88 : Own K B88 M [⟨p11, (cLst rInt), (s58.2 ++ [t84])⟩] H88) => ?_
                obtain ⟨t89, e90, e82⟩ := bindS e82
                refine q_asg (n := 3) w88 (ev_div (ev_varI rfl h78) (ev_int (i := 1000)) e90) fun v92 B91 H91 x91 (w91 : Own K B91 M [⟨p11, (cLst rInt), (s58.2 ++ [t84])⟩] H91) h93 => ?_
                replace e82 : some _ = some _ := e82
                cases e82
                exact ⟨v92, _, ((x83.trans x88).trans x91), w91, rfl, h93⟩
              rw [if_neg (by rw [hb80]; exact Bool.false_ne_true)] at e82
              replace e82 : some _ = some _ := e82
              cases e82
              exact ⟨v77, _, x94, w94, rfl, ((rInt).mono (x67.trans x94) h78)⟩
            rintro σ98' H95 ⟨v96, B95, x95, w95, rfl, h97⟩
            replace hb60 : some _ = some _ := hb60
            cases hb60
            exact hN73 _ _ _ x95 w95 ⟨v96, _, rfl, h97⟩
          rintro B100 H101 σ104 x102 w103 ⟨v105, o107, rfl, h106⟩
          replace w103 : Own K B100 M [⟨p11, (cLst rInt), s99.2⟩] H101 := w103
          replace e56 : some _ = some _ := e56
          cases e56
          exact ⟨v105, _, _, _, (x57.trans x102), w103, rfl, h106⟩
        rw [if_neg (by rw [hb54]; exact Bool.false_ne_true)] at e56
        obtain ⟨s149, e114, e56⟩ := bindS e56
        refine q_fold w109 (ei_rng1 (ea_cons (ev_int (i := 3)) ea_nil) (by decide)) _ (fun s110 B115 σ128 => ∃ o129 o130, σ128 = [some u0, some (.ref p11), some v23, some v49, o129, o130]) (fun s110 => [⟨p11, (cLst rInt), s110⟩]) s12 e114 (fun B9 x9 => ⟨_, _, rfl⟩) rfl ?_ ?_
        · skip
          rintro s110 x111 s157 v121 B115 B116 H117 σ128 hb112 x118 ⟨o129, o130, rfl⟩ x119 w120 h122 N123 K124 hN125
          replace w120 : Own K B116 M [⟨p11, (cLst rInt), s110⟩] H117 := w120
          refine g_name ?_
          obtain ⟨t131, e132, hb112⟩ := bindS hb112
          obtain ⟨t133, e134, hb112⟩ := bindS hb112
          obtain ⟨t135, e136, hb112⟩ := bindS hb112
          refine q_asg (n := 5) w120 (ev_mod (ev_intI (ev_add (ev_add (ev_mul (ev_varI rfl h50) (ev_int (i := 48271)) e132) (ev_mul (ev_varI rfl h122) (ev_int (i := 40503)) e134)) (ev_int (i := 11)))) (ev_int (i := 2147483629)) e136) fun v138 B137 H137 x137 (w137 : Own K B137 M [⟨p11, (cLst rInt), s110⟩] H137) h139 => ?_
          obtain ⟨t140, e141, hb112⟩ := bindS hb112
          obtain ⟨t142, e143, hb112⟩ := bindS hb112
          obtain ⟨t144, e145, hb112⟩ := bindS hb112
          obtain ⟨t146, e147, hb112⟩ := bindS hb112
          refine q_app (n := 0) (m := 1) w137 rfl (ev_mod (ev_intI (ev_add (ev_mul (ev_varI rfl h139) (ev_int (i := 69621)) e141) (ev_div (ev_varI rfl h139) (ev_int (i := 65536)) e143))) (ev_int (i := 2147483629)) e145) rfl ⟨0, _, rfl⟩ e147 fun B148 H148 x148 (w148 : Own K B148 M [⟨p11, (cLst rInt), (s110 ++ [t144])⟩] H148) => ?_
          replace hb112 : some _ = some _ := hb112
          cases hb112
          exact hN125 _ _ _ (x137.trans x148) w148 ⟨_, _, rfl⟩
        rintro B150 H151 σ154 x152 w153 ⟨o155, o156, rfl⟩
        replace w153 : Own K B150 M [⟨p11, (cLst rInt), s149⟩] H151 := w153
        replace e56 : some _ = some _ := e56
        cases e56
        exact ⟨v49, _, _, _, (x109.trans x152), w153, rfl, ((rInt).mono (x109.trans x152) h50)⟩
      rintro σ163' H158 ⟨v159, o161, o162, B158, x158, w158, rfl, h160⟩
      replace hb14 : some _ = some _ := hb14
      cases hb14
      exact hN27 _ _ _ ((x37.trans x48).trans x158) w158 ⟨_, _, _, _, rfl⟩
    rintro B165 H166 σ169 x167 w168 ⟨o170, o171, o172, o173, rfl⟩
    replace w168 : Own K B165 M [⟨p11, (cLst rInt), s164⟩] H166 := w168
    replace hm : some _ = some _ := hm
    obtain rfl := Option.some.inj hm
    exact q_retC (n := 0) (m := 1) w168 rfl rfl fun v9 B9 x9 w9 h9 => k _ _ _ ((x10.trans x167).trans x9) w9 h9
noncomputable def m_l_draw (a0 : (List Int)) (a1 : Int) (a2 : Int) : Option Int :=
  if (decide (a1 < (a0.length : Int))) = true then
    Option.bind (ixL a0 a1) fun t12 =>
    Option.bind (modI t12 a2) fun t14 =>
    some t14
  else
    Option.bind (if (decide ((a0.length : Int) > (0 : Int))) = true then
      Option.bind (modI a1 ((a0.length : Int))) fun t24 =>
      Option.bind (ixL a0 t24) fun t26 =>
      some t26
    else
      some ((1 : Int))
    ) fun (s21 : Int) =>
    Option.bind (mulI ((s21 + a1)) ((a1 + (3 : Int)))) fun t36 =>
    Option.bind (mulI t36 ((7919 : Int))) fun t38 =>
    Option.bind (mulI a1 ((104729 : Int))) fun t40 =>
    Option.bind (modI ((t38 + t40)) ((65521 : Int))) fun t42 =>
    Option.bind (modI t42 a2) fun t44 =>
    some t44
def C__law_draw : List Arg → List Cell → Arg → List Cell → Prop := fun as L r L' => ∃ a0 a1 a2 c, as = [⟨(rLst rInt), a0⟩, ⟨rInt, a1⟩, ⟨rInt, a2⟩] ∧ L = [] ∧ m_l_draw a0 a1 a2 = some c ∧ r = ⟨rInt, c⟩ ∧ L' = []
theorem sc__law_draw : FnScope ["_law_tape_here", "_law_at", "_law_many", "_law_number"] ["_law_tape_here", "_law_at", "_law_many"] (defScope s__law_draw) := ⟨rfl, rfl, rfl, by decide +kernel, rfl, by decide +kernel, by decide +kernel⟩
set_option maxHeartbeats 0 in
theorem ok__law_draw (F : FunC K "_law_draw" s__law_draw f fd cc) (z_len : mg "len" = none) (z_int : mg "int" = none) : FnOk P w K mg base CX0 1 f fd ["_law_tape_here", "_law_at", "_law_many"] (spV K T C__law_draw) := by
  refine F.ok sc__law_draw (fun vs H Q E h => ?_) (fun A outer s H vs Q E hr h => ?_)
  · obtain ⟨B, M, L, as, r, L', hT, w, ha, ⟨_, _, _, _, rfl, _⟩, k⟩ := h
    exact args_len ha
  · skip
    obtain ⟨B, M, L, as, r, L', rfl, w, ha, ⟨a0, a1, a2, c, rfl, rfl, hm, rfl, rfl⟩, k⟩ := h
    obtain ⟨u0, u1, u2, rfl, f0, f1, f2⟩ := args3 ha
    replace f0 : ((rLst rInt)).is K B u0 a0 := f0
    replace f1 : (rInt).is K B u1 a1 := f1
    replace f2 : (rInt).is K B u2 a2 := f2
    unfold m_l_draw at hm
    refine ⟨_, (pss_cons (ps_if (pt_cmpR op_lt (pv 1) (pe_callB call_len_seq rfl z_len bt_len (pa_cons (pv 0) pa_nil)) (nomark _)) (pss_cons (ps_ret (pe_op op_mod (pe_callTy call_int1 rfl z_int bt_int (pa_cons (pe_ix ix_seq (pv 0) (pv 1) (fun _ _ => rfl)) pa_nil)) (pv 2))) pss_nil) pss_nil) (pss_cons (ps_set (i := 3) sc__law_draw.nd rfl (by first | exact Or.inl rfl | exact Or.inr rfl | exact Or.inr (Or.inl rfl) | exact Or.inr (Or.inr rfl)) pe_int) (Evl.pss_cut (ps_if (pt_cmpR op_gt (pe_callB call_len_seq rfl z_len bt_len (pa_cons (pv 0) pa_nil)) pe_int (nomark _)) (pss_cons (ps_set (i := 3) sc__law_draw.nd rfl (by first | exact Or.inl rfl | exact Or.inr rfl | exact Or.inr (Or.inl rfl) | exact Or.inr (Or.inr rfl)) (pe_ix ix_seq (pv 0) (pe_op op_mod (pe_callTy call_int1 rfl z_int bt_int (pa_cons (pv 1) pa_nil)) (pe_callB call_len_seq rfl z_len bt_len (pa_cons (pv 0) pa_nil))) (fun _ _ => rfl))) pss_nil) pss_nil) (pss_cons (ps_ret (pe_op op_mod (pe_op op_mod (pe_callTy call_int1 rfl z_int bt_int (pa_cons (pe_op op_add (pe_op op_mulX (pe_op op_mulX (pe_op op_add (pv 3) (pv 1)) (pe_op op_add (pv 1) pe_int)) pe_int) (pe_op op_mulX (pv 1) pe_int)) pa_nil)) pe_int) (pv 2))) pss_nil)))), ?_⟩
    rw [show start ["_law_tape_here", "_law_at", "_law_many", "_law_number"] [u0, u1, u2] = ([some u0, some u1, some u2, none] : L2.St) from rfl]
    refine q_if w (et_test (ev_lt (ev_varI rfl f1) (ev_len (ev_seqL (ev_var rfl f0))))) (fun hb10 B11 H11 x11 (w11 : Own K B11 M [] H11) => ?_) (fun hb10 B16 H16 x16 (w16 : Own K B16 M [] H16) => ?_)
    · skip
      rw [if_pos hb10] at hm
      obtain ⟨t12, e13, hm⟩ := bindS hm
      obtain ⟨t14, e15, hm⟩ := bindS hm
      replace hm : some _ = some _ := hm
      obtain rfl := Option.some.inj hm
      exact q_ret w11 (ev_mod (ev_intI (ev_ix (ev_seqL (ev_var rfl (((rLst rInt)).mono x11 f0))) (ev_varI rfl f1) e13)) (ev_varI rfl f2) e15) fun v9 B9 H9 x9 w9 h9 => k _ _ _ (x11.trans x9) w9 h9
    rw [if_neg (by rw [hb10]; exact Bool.false_ne_true)] at hm
    refine q_asg (n := 3) w16 (ev_int (i := 1)) fun v18 B17 H17 x17 (w17 : Own K B17 M [] H17) h19 => ?_
    obtain ⟨s21, e22, hm⟩ := bindS hm
    refine q_cut (fun σ35 H32 => ∃ v33 B32, Ex B17 B32 ∧ Own K B32 M [] H32 ∧ σ35 = [some u0, some u1, some u2, some v33] ∧ (rInt).is K B32 v33 s21) ?_ ?_
    · skip
      refine q_ifc w17 (et_test (ev_gt (ev_len (ev_seqL (ev_var rfl (((rLst rInt)).mono (x16.trans x17) f0)))) (ev_int (i := 0)))) (fun hb20 B23 H23 x23 (w23 : Own K B23 M [] H23) => ?_) (fun hb20 B31 H31 x31 (w31 : Own K B31 M [] H31) => ?_)
      · skip
        rw [if_pos hb20] at e22
        obtain ⟨t24, e25, e22⟩ := bindS e22
        obtain ⟨t26, e27, e22⟩ := bindS e22
        refine q_asg (n := 3) w23 (ev_ix (ev_seqL (ev_var rfl (((rLst rInt)).mono ((x16.trans x17).trans x23) f0))) (ev_mod (ev_intI (ev_varI rfl f1)) (ev_len (ev_seqL (ev_var rfl (((rLst rInt)).mono ((x16.trans x17).trans x23) f0)))) e25) e27) fun v29 B28 H28 x28 (w28 : Own K B28 M [] H28) h30 => ?_
        replace e22 : some _ = some _ := e22
        cases e22
        exact ⟨v29, _, (x23.trans x28), w28, rfl, h30⟩
      rw [if_neg (by rw [hb20]; exact Bool.false_ne_true)] at e22
      replace e22 : some _ = some _ := e22
      cases e22
      exact ⟨v18, _, x31, w31, rfl, ((rInt).mono x31 h19)⟩
    rintro σ35' H32 ⟨v33, B32, x32, w32, rfl, h34⟩
    obtain ⟨t36, e37, hm⟩ := bindS hm
    obtain ⟨t38, e39, hm⟩ := bindS hm
    obtain ⟨t40, e41, hm⟩ := bindS hm
    obtain ⟨t42, e43, hm⟩ := bindS hm
    obtain ⟨t44, e45, hm⟩ := bindS hm
    replace hm : some _ = some _ := hm
    obtain rfl := Option.some.inj hm
    exact q_ret w32 (ev_mod (ev_mod (ev_intI (ev_add (ev_mul (ev_mul (ev_add (ev_varI rfl h34) (ev_varI rfl f1)) (ev_add (ev_varI rfl f1) (ev_int (i := 3))) e37) (ev_int (i := 7919)) e39) (ev_mul (ev_varI rfl f1) (ev_int (i := 104729)) e41))) (ev_int (i := 65521)) e43) (ev_varI rfl f2) e45) fun v9 B9 H9 x9 w9 h9 => k _ _ _ (((x16.trans x17).trans x32).trans x9) w9 h9
noncomputable def m_l_take (a0 : ((List Int) × Int)) (a1 : Int) : Option (Int × ((List Int) × Int)) :=
  Option.bind (m_l_draw (((a0.1, (a0.2 + (1 : Int)))).1) (((a0.1, (a0.2 + (1 : Int)))).2) a1) fun t11 =>
  some (t11, (a0.1, (a0.2 + (1 : Int))))
def C__law_take : List Arg → List Cell → Arg → List Cell → Prop := fun as L r L' => ∃ a0 a1 p0 c, as = [⟨rRef, p0⟩, ⟨rInt, a1⟩] ∧ L = [⟨p0, (cL2 (rLst rInt) rInt), a0⟩] ∧ m_l_take a0 a1 = some c ∧ r = ⟨rInt, c.1⟩ ∧ L' = [⟨p0, (cL2 (rLst rInt) rInt), c.2⟩]
theorem sc__law_take : FnScope ["_law_state", "_law_many"] ["_law_state", "_law_many"] (defScope s__law_take) := ⟨rfl, rfl, rfl, by decide +kernel, rfl, by decide +kernel, by decide +kernel⟩
set_option maxHeartbeats 0 in
theorem ok__law_take (F : FunC K "_law_take" s__law_take f fd cc) (c__law_draw : Cl P w K mg base 1 "_law_draw" (spV K T C__law_draw) []) : FnOk P w K mg base CX0 2 f fd ["_law_state", "_law_many"] (spV K T C__law_take) := by
  refine F.ok sc__law_take (fun vs H Q E h => ?_) (fun A outer s H vs Q E hr h => ?_)
  · obtain ⟨B, M, L, as, r, L', hT, w, ha, ⟨_, _, _, _, rfl, _⟩, k⟩ := h
    exact args_len ha
  · skip
    obtain ⟨B, M, L, as, r, L', rfl, w, ha, ⟨a0, a1, p0, c, rfl, rfl, hm, rfl, rfl⟩, k⟩ := h
    obtain ⟨u0, u1, rfl, f0, f1⟩ := args2 ha
    replace f0 : u0 = V.ref p0 := f0
    subst f0
    replace f1 : (rInt).is K B u1 a1 := f1
    unfold m_l_take at hm
    refine ⟨_, (pss_cons (ps_asg (pe_op op_add (pe_ix ix_seq (pv 0) pe_int (fun _ _ => rfl)) pe_int) (pg_sub (pv 0) pe_int set_list)) (pss_cons (ps_ret (pe_c c__law_draw hr (by omega) rfl (pa_cons (pe_ix ix_seq (pv 0) pe_int (fun _ _ => rfl)) (pa_cons (pe_ix ix_seq (pv 0) pe_int (fun _ _ => rfl)) (pa_cons (pv 1) pa_nil))))) pss_nil)), ?_⟩
    rw [show start ["_law_state", "_law_many"] [.ref p0, u1] = ([some (.ref p0), some u1] : L2.St) from rfl]
    refine q_set1 (n := 0) w (ev_add (ev_l2snd (n := 0) rfl rfl) (ev_int (i := 1))) rfl rfl fun B10 H10 x10 (w10 : Own K B10 M [⟨p0, (cL2 (rLst rInt) rInt), (a0.1, (a0.2 + (1 : Int)))⟩] H10) => ?_
    obtain ⟨t11, e12, hm⟩ := bindS hm
    replace hm : some _ = some _ := hm
    obtain rfl := Option.some.inj hm
    exact q_ret w10 (ev_call (ea_cons (ev_l2fst (n := 0) rfl rfl) (ea_cons (ev_l2snd (n := 0) rfl rfl) (ea_cons (ev_varI rfl f1) ea_nil))) ⟨_, _, _, _, rfl, rfl, e12, rfl, rfl⟩) fun v9 B9 H9 x9 w9 h9 => k _ _ _ (x10.trans x9) w9 h9
noncomputable def F_m_l_equal (rec : PyData → PyData → Option Bool) (a0 : PyData) (a1 : PyData) : Option Bool :=
  if (isNoneD a1) = true then
    some (isNoneD a0)
  else
    if (isBoolD a1) = true then
      Option.bind ((if (isBoolD a0) = true then (Option.bind (eqvD a0 a1) fun t15 => some (t15)) else (some (false)))) fun t17 =>
      some t17
    else
      if (isIntD a1) = true then
        Option.bind ((if (isIntD a0) = true then (Option.bind ((if (!(isBoolD a0)) = true then (Option.bind (eqvD a0 a1) fun t23 => some (t23)) else (some (false)))) fun t25 => some (t25)) else (some (false)))) fun t28 =>
        some t28
      else
        if (isStrD a1) = true then
          Option.bind ((if (isStrD a0) = true then (Option.bind (eqvD a0 a1) fun t34 => some (t34)) else (some (false)))) fun t36 =>
          some t36
        else
          if ((isTupD a1) && (!(isTupD a0))) = true then
            some false
          else
            if ((isLstD a1) && (!(isLstD a0))) = true then
              some false
            else
              Option.bind (lenD a0) fun t46 =>
              Option.bind (lenD a1) fun t48 =>
              if (!decide (t46 = t48)) = true then
                some false
              else
                Option.bind (lenD a1) fun t53 =>
                Option.bind (small62 t53) fun t55 =>
                Option.bind (loopR (S := Unit) (R := Bool) (α := Int) (fun (s57 : Unit) (x58 : Int) => (
                  Option.bind (ixD a0 x58) fun t77 =>
                  Option.bind (ixD a1 x58) fun t79 =>
                  Option.bind (rec t77 t79) fun t81 =>
                  if (!t81) = true then
                    some (Stp.rt false)
                  else
                    some (Stp.nx (()))
                )) (()) ((rng 0 t53))) fun o60 =>
                match o60 with
                | .inl s86 =>
                  some true
                | .inr q9 => some q9
noncomputable def m_l_equal : Nat → PyData → PyData → Option Bool
  | 0 => fun _ _ => none
  | n + 1 => F_m_l_equal (m_l_equal n)
def C__law_equal (n : Nat) : List Arg → List Cell → Arg → List Cell → Prop := fun as L r L' => ∃ a0 a1 c, as = [⟨rDat, a0⟩, ⟨rDat, a1⟩] ∧ L = [] ∧ m_l_equal n a0 a1 = some c ∧ r = ⟨rBool, c⟩ ∧ L' = []
theorem sc__law_equal : FnScope ["_law_actual", "_law_due_here", "_law_k"] ["_law_actual", "_law_due_here"] (defScope s__law_equal) := ⟨rfl, rfl, rfl, by decide +kernel, rfl, by decide +kernel, by decide +kernel⟩
set_option maxHeartbeats 0 in
theorem ok__law_equal (F : FunC K "_law_equal" s__law_equal f fd cc) (z_isinstance : mg "isinstance" = none) (z_bool : mg "bool" = none) (z_int : mg "int" = none) (z_str : mg "str" = none) (z_tuple : mg "tuple" = none) (z_list : mg "list" = none) (z_len : mg "len" = none) (z_range : mg "range" = none) (n : Nat) (c__law_equal : Cl P w K mg base (0 + n) "_law_equal" (spV K T (C__law_equal n)) []) : FnOk P w K mg base CX0 (0 + n + 1) f fd ["_law_actual", "_law_due_here"] (spV K T (C__law_equal (n + 1))) := by
  refine F.ok sc__law_equal (fun vs H Q E h => ?_) (fun A outer s H vs Q E hr h => ?_)
  · obtain ⟨B, M, L, as, r, L', hT, w, ha, ⟨_, _, _, rfl, _⟩, k⟩ := h
    exact args_len ha
  · skip
    obtain ⟨B, M, L, as, r, L', rfl, w, ha, ⟨a0, a1, c, rfl, rfl, hm, rfl, rfl⟩, k⟩ := h
    obtain ⟨u0, u1, rfl, f0, f1⟩ := args2 ha
    replace f0 : (rDat).is K B u0 a0 := f0
    replace f1 : (rDat).is K B u1 a1 := f1
    replace hm : F_m_l_equal (m_l_equal n) a0 a1 = some c := hm
    unfold F_m_l_equal at hm
    refine ⟨_, (pss_cons (ps_if (pt_cmp (pc_isN (pv 1))) (pss_cons (ps_ret (pe_cmp (pc_isN (pv 0)))) pss_nil) pss_nil) (pss_cons (ps_if (pt_val (pe_callB call_isi rfl z_isinstance bt_isinstance (pa_cons (pv 1) (pa_cons (pe_bltn (v := .ty "bool") rfl z_bool bt_bool rfl) pa_nil)))) (pss_cons (ps_ret (pe_and (pe_callB call_isi rfl z_isinstance bt_isinstance (pa_cons (pv 0) (pa_cons (pe_bltn (v := .ty "bool") rfl z_bool bt_bool rfl) pa_nil))) (pe_one (pe_cmpR (op_eqD (room_hu hr)) (pv 0) (pv 1) (nomark _))))) pss_nil) pss_nil) (pss_cons (ps_if (pt_val (pe_callB call_isi rfl z_isinstance bt_isinstance (pa_cons (pv 1) (pa_cons (pe_bltn (v := .ty "int") rfl z_int bt_int rfl) pa_nil)))) (pss_cons (ps_ret (pe_and (pe_callB call_isi rfl z_isinstance bt_isinstance (pa_cons (pv 0) (pa_cons (pe_bltn (v := .ty "int") rfl z_int bt_int rfl) pa_nil))) (pe_and (pe_not (pe_callB call_isi rfl z_isinstance bt_isinstance (pa_cons (pv 0) (pa_cons (pe_bltn (v := .ty "bool") rfl z_bool bt_bool rfl) pa_nil)))) (pe_one (pe_cmpR (op_eqD (room_hu hr)) (pv 0) (pv 1) (nomark _)))))) pss_nil) pss_nil) (pss_cons (ps_if (pt_val (pe_callB call_isi rfl z_isinstance bt_isinstance (pa_cons (pv 1) (pa_cons (pe_bltn (v := .ty "str") rfl z_str bt_str rfl) pa_nil)))) (pss_cons (ps_ret (pe_and (pe_callB call_isi rfl z_isinstance bt_isinstance (pa_cons (pv 0) (pa_cons (pe_bltn (v := .ty "str") rfl z_str bt_str rfl) pa_nil))) (pe_one (pe_cmpR (op_eqD (room_hu hr)) (pv 0) (pv 1) (nomark _))))) pss_nil) pss_nil) (pss_cons (ps_if (PW.pt (pw_and (pt_val (pe_callB call_isi rfl z_isinstance bt_isinstance (pa_cons (pv 1) (pa_cons (pe_bltn (v := .ty "tuple") rfl z_tuple bt_tuple rfl) pa_nil)))) (pw_and1 (pt_not (pt_val (pe_callB call_isi rfl z_isinstance bt_isinstance (pa_cons (pv 0) (pa_cons (pe_bltn (v := .ty "tuple") rfl z_tuple bt_tuple rfl) pa_nil)))))))) (pss_cons (ps_ret pe_bl) pss_nil) pss_nil) (pss_cons (ps_if (PW.pt (pw_and (pt_val (pe_callB call_isi rfl z_isinstance bt_isinstance (pa_cons (pv 1) (pa_cons (pe_bltn (v := .ty "list") rfl z_list bt_list rfl) pa_nil)))) (pw_and1 (pt_not (pt_val (pe_callB call_isi rfl z_isinstance bt_isinstance (pa_cons (pv 0) (pa_cons (pe_bltn (v := .ty "list") rfl z_list bt_list rfl) pa_nil)))))))) (pss_cons (ps_ret pe_bl) pss_nil) pss_nil) (pss_cons (ps_if (pt_cmpR op_ne (pe_callB call_len_seq rfl z_len bt_len (pa_cons (pv 0) pa_nil)) (pe_callB call_len_seq rfl z_len bt_len (pa_cons (pv 1) pa_nil)) (nomark _)) (pss_cons (ps_ret pe_bl) pss_nil) pss_nil) (pss_cons (ps_for PassesOwn.never rfl (pi_range1 rfl z_range (pa_cons (pe_callB call_len_seq rfl z_len bt_len (pa_cons (pv 1) pa_nil)) pa_nil)) (pg_name (i := 2) sc__law_equal.nd rfl (by first | exact Or.inl rfl | exact Or.inr rfl | exact Or.inr (Or.inl rfl) | exact Or.inr (Or.inr rfl))) (pss_cons (ps_if (pt_not (pt_val (pe_c c__law_equal hr (by omega) rfl (pa_cons (pe_ix ix_seq (pv 0) (pv 2) (fun _ _ => rfl)) (pa_cons (pe_ix ix_seq (pv 1) (pv 2) (fun _ _ => rfl)) pa_nil))))) (pss_cons (ps_ret pe_bl) pss_nil) pss_nil) pss_nil)) (pss_cons (ps_ret pe_bl) pss_nil))))))))), ?_⟩
    rw [show start ["_law_actual", "_law_due_here", "_law_k"] [u0, u1] = ([some u0, some u1, none] : L2.St) from rfl]
    refine q_if w (et_B (ev_isND (ev_var rfl f1))) (fun hb10 B11 H11 x11 (w11 : Own K B11 M [] H11) => ?_) (fun hb10 B12 H12 x12 (w12 : Own K B12 M [] H12) => ?_)
    · skip
      rw [if_pos hb10] at hm
      replace hm : some _ = some _ := hm
      obtain rfl := Option.some.inj hm
      exact q_ret w11 (ev_isND (ev_var rfl ((rDat).mono x11 f0))) fun v9 B9 H9 x9 w9 h9 => k _ _ _ (x11.trans x9) w9 h9
    rw [if_neg (by rw [hb10]; exact Bool.false_ne_true)] at hm
    refine q_if w12 (et_B (ev_isi "bool" isBoolD isi_bool (ev_var rfl ((rDat).mono x12 f1)))) (fun hb13 B14 H14 x14 (w14 : Own K B14 M [] H14) => ?_) (fun hb13 B20 H20 x20 (w20 : Own K B20 M [] H20) => ?_)
    · skip
      rw [if_pos hb13] at hm
      obtain ⟨t17, e18, hm⟩ := bindS hm
      replace hm : some _ = some _ := hm
      obtain rfl := Option.some.inj hm
      exact q_ret w14 (ev_andV (d := t17) (ev_isi "bool" isBoolD isi_bool (ev_var rfl ((rDat).mono (x12.trans x14) f0))) (fun hb19 => by rw [if_pos hb19] at e18; obtain ⟨t15, e16, e18⟩ := bindS e18; obtain rfl := Option.some.inj e18; exact (ev_eqvD (ev_var rfl ((rDat).mono (x12.trans x14) f0)) (ev_var rfl ((rDat).mono (x12.trans x14) f1)) e16)) (fun hb19 => by rw [if_neg (by rw [hb19]; exact Bool.false_ne_true)] at e18; obtain rfl := Option.some.inj e18; exact ⟨rfl, rfl⟩)) fun v9 B9 H9 x9 w9 h9 => k _ _ _ ((x12.trans x14).trans x9) w9 h9
    rw [if_neg (by rw [hb13]; exact Bool.false_ne_true)] at hm
    refine q_if w20 (et_B (ev_isi "int" isIntD isi_int (ev_var rfl ((rDat).mono (x12.trans x20) f1)))) (fun hb21 B22 H22 x22 (w22 : Own K B22 M [] H22) => ?_) (fun hb21 B31 H31 x31 (w31 : Own K B31 M [] H31) => ?_)
    · skip
      rw [if_pos hb21] at hm
      obtain ⟨t28, e29, hm⟩ := bindS hm
      replace hm : some _ = some _ := hm
      obtain rfl := Option.some.inj hm
      exact q_ret w22 (ev_andV (d := t28) (ev_isi "int" isIntD isi_int (ev_var rfl ((rDat).mono ((x12.trans x20).trans x22) f0))) (fun hb30 => by rw [if_pos hb30] at e29; obtain ⟨t25, e26, e29⟩ := bindS e29; obtain rfl := Option.some.inj e29; exact (ev_andV (d := t25) (ev_notV (ev_isi "bool" isBoolD isi_bool (ev_var rfl ((rDat).mono ((x12.trans x20).trans x22) f0)))) (fun hb27 => by rw [if_pos hb27] at e26; obtain ⟨t23, e24, e26⟩ := bindS e26; obtain rfl := Option.some.inj e26; exact (ev_eqvD (ev_var rfl ((rDat).mono ((x12.trans x20).trans x22) f0)) (ev_var rfl ((rDat).mono ((x12.trans x20).trans x22) f1)) e24)) (fun hb27 => by rw [if_neg (by rw [hb27]; exact Bool.false_ne_true)] at e26; obtain rfl := Option.some.inj e26; exact ⟨rfl, rfl⟩))) (fun hb30 => by rw [if_neg (by rw [hb30]; exact Bool.false_ne_true)] at e29; obtain rfl := Option.some.inj e29; exact ⟨rfl, rfl⟩)) fun v9 B9 H9 x9 w9 h9 => k _ _ _ (((x12.trans x20).trans x22).trans x9) w9 h9
    rw [if_neg (by rw [hb21]; exact Bool.false_ne_true)] at hm
    refine q_if w31 (et_B (ev_isi "str" isStrD isi_str (ev_var rfl ((rDat).mono ((x12.trans x20).trans x31) f1)))) (fun hb32 B33 H33 x33 (w33 : Own K B33 M [] H33) => ?_) (fun hb32 B39 H39 x39 (w39 : Own K B39 M [] H39) => ?_)
    · skip
      rw [if_pos hb32] at hm
      obtain ⟨t36, e37, hm⟩ := bindS hm
      replace hm : some _ = some _ := hm
      obtain rfl := Option.some.inj hm
      exact q_ret w33 (ev_andV (d := t36) (ev_isi "str" isStrD isi_str (ev_var rfl ((rDat).mono (((x12.trans x20).trans x31).trans x33) f0))) (fun hb38 => by rw [if_pos hb38] at e37; obtain ⟨t34, e35, e37⟩ := bindS e37; obtain rfl := Option.some.inj e37; exact (ev_eqvD (ev_var rfl ((rDat).mono (((x12.trans x20).trans x31).trans x33) f0)) (ev_var rfl ((rDat).mono (((x12.trans x20).trans x31).trans x33) f1)) e35)) (fun hb38 => by rw [if_neg (by rw [hb38]; exact Bool.false_ne_true)] at e37; obtain rfl := Option.some.inj e37; exact ⟨rfl, rfl⟩)) fun v9 B9 H9 x9 w9 h9 => k _ _ _ ((((x12.trans x20).trans x31).trans x33).trans x9) w9 h9
    rw [if_neg (by rw [hb32]; exact Bool.false_ne_true)] at hm
    refine q_if w39 (et_and (et_B (ev_isi "tuple" isTupD isi_tuple (ev_var rfl ((rDat).mono (((x12.trans x20).trans x31).trans x39) f1)))) fun _ => (et_not (et_B (ev_isi "tuple" isTupD isi_tuple (ev_var rfl ((rDat).mono (((x12.trans x20).trans x31).trans x39) f0)))))) (fun hb40 B41 H41 x41 (w41 : Own K B41 M [] H41) => ?_) (fun hb40 B42 H42 x42 (w42 : Own K B42 M [] H42) => ?_)
    · skip
      rw [if_pos hb40] at hm
      replace hm : some _ = some _ := hm
      obtain rfl := Option.some.inj hm
      exact q_ret w41 (ev_bl (b := false)) fun v9 B9 H9 x9 w9 h9 => k _ _ _ (((((x12.trans x20).trans x31).trans x39).trans x41).trans x9) w9 h9
    rw [if_neg (by rw [hb40]; exact Bool.false_ne_true)] at hm
    refine q_if w42 (et_and (et_B (ev_isi "list" isLstD isi_list (ev_var rfl ((rDat).mono ((((x12.trans x20).trans x31).trans x39).trans x42) f1)))) fun _ => (et_not (et_B (ev_isi "list" isLstD isi_list (ev_var rfl ((rDat).mono ((((x12.trans x20).trans x31).trans x39).trans x42) f0)))))) (fun hb43 B44 H44 x44 (w44 : Own K B44 M [] H44) => ?_) (fun hb43 B45 H45 x45 (w45 : Own K B45 M [] H45) => ?_)
    · skip
      rw [if_pos hb43] at hm
      replace hm : some _ = some _ := hm
      obtain rfl := Option.some.inj hm
      exact q_ret w44 (ev_bl (b := false)) fun v9 B9 H9 x9 w9 h9 => k _ _ _ ((((((x12.trans x20).trans x31).trans x39).trans x42).trans x44).trans x9) w9 h9
    rw [if_neg (by rw [hb43]; exact Bool.false_ne_true)] at hm
    obtain ⟨t46, e47, hm⟩ := bindS hm
    obtain ⟨t48, e49, hm⟩ := bindS hm
    refine q_if w45 (et_test (ev_neI (ev_lenD (ev_var rfl ((rDat).mono (((((x12.trans x20).trans x31).trans x39).trans x42).trans x45) f0)) e47) (ev_lenD (ev_var rfl ((rDat).mono (((((x12.trans x20).trans x31).trans x39).trans x42).trans x45) f1)) e49))) (fun hb50 B51 H51 x51 (w51 : Own K B51 M [] H51) => ?_) (fun hb50 B52 H52 x52 (w52 : Own K B52 M [] H52) => ?_)
    · skip
      rw [if_pos hb50] at hm
      replace hm : some _ = some _ := hm
      obtain rfl := Option.some.inj hm
      exact q_ret w51 (ev_bl (b := false)) fun v9 B9 H9 x9 w9 h9 => k _ _ _ (((((((x12.trans x20).trans x31).trans x39).trans x42).trans x45).trans x51).trans x9) w9 h9
    rw [if_neg (by rw [hb50]; exact Bool.false_ne_true)] at hm
    obtain ⟨t53, e54, hm⟩ := bindS hm
    obtain ⟨t55, e56, hm⟩ := bindS hm
    obtain ⟨o60, e61, hm⟩ := bindS hm
    refine q_forR w52 (ei_rng1 (ea_cons (ev_lenD (ev_var rfl ((rDat).mono ((((((x12.trans x20).trans x31).trans x39).trans x42).trans x45).trans x52) f1)) e54) ea_nil) e56) _ (fun s57 B62 σ75 => ∃ o76, σ75 = [some u0, some u1, o76]) (fun s57 => []) (()) e61 (fun B9 x9 => ⟨_, rfl⟩) rfl ?_ ?_
    · skip
      rintro s57 x58 s93 v68 B62 B63 H64 σ75 hb59 x65 ⟨o76, rfl⟩ x66 w67 h69 ho74 N70 K71 hN72 hB73
      replace w67 : Own K B63 M [] H64 := w67
      refine g_name ?_
      obtain ⟨t77, e78, hb59⟩ := bindS hb59
      obtain ⟨t79, e80, hb59⟩ := bindS hb59
      obtain ⟨t81, e82, hb59⟩ := bindS hb59
      refine q_if w67 (et_not (et_B (ev_call (ea_cons (ev_ixD (ev_var rfl ((rDat).mono ((((((((x12.trans x20).trans x31).trans x39).trans x42).trans x45).trans x52).trans x65).trans x66) f0)) (ev_varI rfl h69) e78) (ea_cons (ev_ixD (ev_var rfl ((rDat).mono ((((((((x12.trans x20).trans x31).trans x39).trans x42).trans x45).trans x52).trans x65).trans x66) f1)) (ev_varI rfl h69) e80) ea_nil)) ⟨_, _, _, rfl, rfl, e82, rfl, rfl⟩))) (fun hb83 B84 H84 x84 (w84 : Own K B84 M [] H84) => ?_) (fun hb83 B85 H85 x85 (w85 : Own K B85 M [] H85) => ?_)
      · skip
        rw [if_pos hb83] at hb59
        replace hb59 : some _ = some _ := hb59
        obtain rfl := Option.some.inj hb59
        obtain rfl := ho74 _ rfl
        replace hm : some _ = some _ := hm
        obtain rfl := Option.some.inj hm
        exact q_ret w84 (ev_bl (b := false)) fun v9 B9 H9 x9 w9 h9 => k _ _ _ ((((((((((x12.trans x20).trans x31).trans x39).trans x42).trans x45).trans x52).trans x65).trans x66).trans x84).trans x9) w9 h9
      rw [if_neg (by rw [hb83]; exact Bool.false_ne_true)] at hb59
      replace hb59 : some _ = some _ := hb59
      cases hb59
      exact hN72 _ _ _ _ rfl x85 w85 ⟨_, rfl⟩
    rintro s86 B87 H88 σ91 rfl x89 w90 ⟨o92, rfl⟩
    dsimp only at hm
    replace w90 : Own K B87 M [] H88 := w90
    replace hm : some _ = some _ := hm
    obtain rfl := Option.some.inj hm
    exact q_ret w90 (ev_bl (b := true)) fun v9 B9 H9 x9 w9 h9 => k _ _ _ ((((((((x12.trans x20).trans x31).trans x39).trans x42).trans x45).trans x52).trans x89).trans x9) w9 h9
theorem all__law_equal (F : FunC K "_law_equal" s__law_equal f fd cc) (z_isinstance : mg "isinstance" = none) (z_bool : mg "bool" = none) (z_int : mg "int" = none) (z_str : mg "str" = none) (z_tuple : mg "tuple" = none) (z_list : mg "list" = none) (z_len : mg "len" = none) (z_range : mg "range" = none) (mf : mg "_law_equal" = some (.ref f)) (kp : PySem.W.keepIn K (.ref f) = true) (bf : Binds K fd ["_law_actual", "_law_due_here"] []) : ∀ n, FnOk P w K mg base CX0 (0 + n) f fd ["_law_actual", "_law_due_here"] (spV K T (C__law_equal n))
  | 0 => fn_none fun _ _ _ _ ⟨_, _, _, _, _, h, _⟩ => (by cases h)
  | n + 1 => ok__law_equal F z_isinstance z_bool z_int z_str z_tuple z_list z_len z_range n ⟨f, fd, ["_law_actual", "_law_due_here"], [], all__law_equal F z_isinstance z_bool z_int z_str z_tuple z_list z_len z_range mf kp bf n, mf, kp, bf, .nil⟩
noncomputable def m_l_ends (a0 : ((List Int) × Int)) (a1 : Int) : Option ((List (Int × Int)) × ((List Int) × Int)) :=
  Option.bind (m_l_take a0 a1) fun t12 =>
  Option.bind (small62 a1) fun t17 =>
  Option.bind (foldO (S := ((List (Int × Int)) × ((List Int) × Int))) (α := Int) (fun (s19 : ((List (Int × Int)) × ((List Int) × Int))) (x20 : Int) => (
    Option.bind ((if (decide (x20 = t12.1)) = true then (some (true, s19.2)) else (Option.bind (m_l_take s19.2 ((3 : Int))) fun t39 => some ((decide (t39.1 = (0 : Int))), t39.2)))) fun t41 =>
    Option.bind (if t41.1 = true then
      Option.bind (m_l_take t41.2 ((6 : Int))) fun t48 =>
      Option.bind (ixL ([(1 : Int), (1 : Int), (2 : Int), (3 : Int), (10 : Int), (1000 : Int)]) t48.1) fun t50 =>
      Option.bind (room s19.1.length) fun t52 =>
      some (((s19.1 ++ [(x20, t50)]), t48.2))
    else
      some ((s19.1, t41.2))
    ) fun (s45 : ((List (Int × Int)) × ((List Int) × Int))) =>
    some (s45.1, s45.2)
  )) ((([] : List (Int × Int)), t12.2)) ((rng 0 a1))) fun s58 =>
  some (s58.1, s58.2)
def C__law_ends : List Arg → List Cell → Arg → List Cell → Prop := fun as L r L' => ∃ a0 a1 p0 c, as = [⟨rRef, p0⟩, ⟨rInt, a1⟩] ∧ L = [⟨p0, (cL2 (rLst rInt) rInt), a0⟩] ∧ m_l_ends a0 a1 = some c ∧ r = ⟨(rTup (rT2 rInt rInt)), c.1⟩ ∧ L' = [⟨p0, (cL2 (rLst rInt) rInt), c.2⟩]
theorem sc__law_ends : FnScope ["_law_state", "_law_many", "_law_ends_here", "_law_first", "_law_goal"] ["_law_state", "_law_many"] (defScope s__law_ends) := ⟨rfl, rfl, rfl, by decide +kernel, rfl, by decide +kernel, by decide +kernel⟩
set_option maxHeartbeats 0 in
theorem ok__law_ends (F : FunC K "_law_ends" s__law_ends f fd cc) (c__law_take : Cl P w K mg base 2 "_law_take" (spV K T C__law_take) []) (z_range : mg "range" = none) (z_tuple : mg "tuple" = none) : FnOk P w K mg base CX0 3 f fd ["_law_state", "_law_many"] (spV K T C__law_ends) := by
  refine F.ok sc__law_ends (fun vs H Q E h => ?_) (fun A outer s H vs Q E hr h => ?_)
  · obtain ⟨B, M, L, as, r, L', hT, w, ha, ⟨_, _, _, _, rfl, _⟩, k⟩ := h
    exact args_len ha
  · skip
    obtain ⟨B, M, L, as, r, L', rfl, w, ha, ⟨a0, a1, p0, c, rfl, rfl, hm, rfl, rfl⟩, k⟩ := h
    obtain ⟨u0, u1, rfl, f0, f1⟩ := args2 ha
    replace f0 : u0 = V.ref p0 := f0
    subst f0
    replace f1 : (rInt).is K B u1 a1 := f1
    unfold m_l_ends at hm
    refine ⟨_, (pss_cons (ps_set (i := 2) sc__law_ends.nd rfl (by first | exact Or.inl rfl | exact Or.inr rfl | exact Or.inr (Or.inl rfl) | exact Or.inr (Or.inr rfl)) (pe_lst pa_nil)) (pss_cons (ps_set (i := 3) sc__law_ends.nd rfl (by first | exact Or.inl rfl | exact Or.inr rfl | exact Or.inr (Or.inl rfl) | exact Or.inr (Or.inr rfl)) (pe_c c__law_take hr (by omega) rfl (pa_cons (pv 0) (pa_cons (pv 1) pa_nil)))) (pss_cons (ps_for PassesOwn.never rfl (pi_range1 rfl z_range (pa_cons (pv 1) pa_nil)) (pg_name (i := 4) sc__law_ends.nd rfl (by first | exact Or.inl rfl | exact Or.inr rfl | exact Or.inr (Or.inl rfl) | exact Or.inr (Or.inr rfl))) (Evl.pss_cut (ps_if (PW.pt (pw_or (pt_cmpR op_eq (pv 4) (pv 3) (nomark _)) (pw_or1 (pt_cmpR op_eq (pe_c c__law_take hr (by omega) rfl (pa_cons (pv 0) (pa_cons pe_int pa_nil))) pe_int (nomark _))))) (pss_cons (ps_expr (pe_bm PySem.F.plainAttrs_list PySem.F.slot_list_append PySem.F.type_list_append mt_append (pv 2) (pa_cons (pe_tup (pa_cons (pv 4) (pa_cons (pe_ix ix_seq (pe_lst (pa_cons pe_int (pa_cons pe_int (pa_cons pe_int (pa_cons pe_int (pa_cons pe_int (pa_cons pe_int pa_nil))))))) (pe_c c__law_take hr (by omega) rfl (pa_cons (pv 0) (pa_cons pe_int pa_nil))) (fun _ _ => rfl)) pa_nil))) pa_nil))) pss_nil) pss_nil) pss_nil)) (pss_cons (ps_ret (pe_callTy call_tuple_of rfl z_tuple bt_tuple (pa_cons (pv 2) pa_nil))) pss_nil)))), ?_⟩
    rw [show start ["_law_state", "_law_many", "_law_ends_here", "_law_first", "_law_goal"] [.ref p0, u1] = ([some (.ref p0), some u1, none, none, none] : L2.St) from rfl]
    refine q_asgL (n := 2) w (el_lst (r := (rT2 rInt rInt)) ([] : List (Int × Int)) ea_nil) fun p11 B10 H10 x10 (w10 : Own K B10 M [⟨p11, (cLst (rT2 rInt rInt)), ([] : List (Int × Int))⟩, ⟨p0, (cL2 (rLst rInt) rInt), a0⟩] H10) => ?_
    obtain ⟨t12, e13, hm⟩ := bindS hm
    refine q_asg (n := 3) w10 (ev_callC 1 (x := ⟨p0, (cL2 (rLst rInt) rInt), a0⟩) (x' := ⟨p0, (cL2 (rLst rInt) rInt), t12.2⟩) (ea_cons (ev_varR rfl) (ea_cons (ev_varI rfl f1) ea_nil)) rfl ⟨_, _, _, _, rfl, rfl, e13, rfl, rfl⟩ rfl) fun v15 B14 H14 x14 (w14 : Own K B14 M [⟨p11, (cLst (rT2 rInt rInt)), ([] : List (Int × Int))⟩, ⟨p0, (cL2 (rLst rInt) rInt), t12.2⟩] H14) h16 => ?_
    obtain ⟨t17, e18, hm⟩ := bindS hm
    obtain ⟨s58, e23, hm⟩ := bindS hm
    refine q_fold w14 (ei_rng1 (ea_cons (ev_varI rfl f1) ea_nil) e18) _ (fun s19 B24 σ37 => ∃ o38, σ37 = [some (.ref p0), some u1, some (.ref p11), some v15, o38]) (fun s19 => [⟨p11, (cLst (rT2 rInt rInt)), s19.1⟩, ⟨p0, (cL2 (rLst rInt) rInt), s19.2⟩]) ((([] : List (Int × Int)), t12.2)) e23 (fun B9 x9 => ⟨_, rfl⟩) rfl ?_ ?_
    · skip
      rintro s19 x20 s65 v30 B24 B25 H26 σ37 hb21 x27 ⟨o38, rfl⟩ x28 w29 h31 N32 K33 hN34
      replace w29 : Own K B25 M [⟨p11, (cLst (rT2 rInt rInt)), s19.1⟩, ⟨p0, (cL2 (rLst rInt) rInt), s19.2⟩] H26 := w29
      refine g_name ?_
      obtain ⟨t41, e42, hb21⟩ := bindS hb21
      obtain ⟨s45, e46, hb21⟩ := bindS hb21
      refine q_cut (fun σ57 H56 => ∃ B56, Ex B25 B56 ∧ Own K B56 M [⟨p11, (cLst (rT2 rInt rInt)), s45.1⟩, ⟨p0, (cL2 (rLst rInt) rInt), s45.2⟩] H56 ∧ σ57 = [some (.ref p0), some u1, some (.ref p11), some v15, some v30]) ?_ ?_
      · skip
        refine q_ifc w29 (et_or' (d := t41.1) (et_test (ev_eqI (ev_varI rfl h31) (ev_varI rfl h16))) (fun hb43 => by rw [if_neg (by rw [hb43]; exact Bool.false_ne_true)] at e42; obtain ⟨t39, e40, e42⟩ := bindS e42; obtain rfl := Option.some.inj e42; exact (et_test (ev_eqI (ev_callC 1 (x := ⟨p0, (cL2 (rLst rInt) rInt), s19.2⟩) (x' := ⟨p0, (cL2 (rLst rInt) rInt), t39.2⟩) (ea_cons (ev_varR rfl) (ea_cons (ev_int (i := 3)) ea_nil)) rfl ⟨_, _, _, _, rfl, rfl, e40, rfl, rfl⟩ rfl) (ev_int (i := 0))))) (fun hb43 => by rw [if_pos hb43] at e42; obtain rfl := Option.some.inj e42; exact ⟨rfl, rfl⟩)) (fun hb44 B47 H47 x47 (w47 : Own K B47 M [⟨p11, (cLst (rT2 rInt rInt)), s19.1⟩, ⟨p0, (cL2 (rLst rInt) rInt), t41.2⟩] H47) => ?_) (fun hb44 B55 H55 x55 (w55 : Own K B55 M [⟨p11, (cLst (rT2 rInt rInt)), s19.1⟩, ⟨p0, (cL2 (rLst rInt) rInt), t41.2⟩] H55) => ?_)
        · skip
          rw [if_pos hb44] at e46
          obtain ⟨t48, e49, e46⟩ := bindS e46
          obtain ⟨t50, e51, e46⟩ := bindS e46
          obtain ⟨t52, e53, e46⟩ := bindS e46
          refine q_app (n := 0) (m := 2) w47 rfl (ev_T2 (ea_cons (ev_varI rfl h31) (ea_cons (ev_ix (ev_seqL (ev_frz (el_lst (r := rInt) [(1 : Int), (1 : Int), (2 : Int), (3 : Int), (10 : Int), (1000 : Int)] (ea_cons (ev_int (i := 1)) (ea_cons (ev_int (i := 1)) (ea_cons (ev_int (i := 2)) (ea_cons (ev_int (i := 3)) (ea_cons (ev_int (i := 10)) (ea_cons (ev_int (i := 1000)) ea_nil))))))))) (ev_callC 1 (x := ⟨p0, (cL2 (rLst rInt) rInt), t41.2⟩) (x' := ⟨p0, (cL2 (rLst rInt) rInt), t48.2⟩) (ea_cons (ev_varR rfl) (ea_cons (ev_int (i := 6)) ea_nil)) rfl ⟨_, _, _, _, rfl, rfl, e49, rfl, rfl⟩ rfl) e51) ea_nil))) rfl ⟨0, _, rfl⟩ e53 fun B54 H54 x54 (w54 : Own K B54 M [⟨p11, (cLst (rT2 rInt rInt)), (s19.1 ++ [(x20, t50)])⟩, ⟨p0, (cL2 (rLst rInt) rInt), t48.2⟩] H54) => ?_
          replace e46 : some _ = some _ := e46
          cases e46
          exact ⟨_, (x47.trans x54), w54, rfl⟩
        rw [if_neg (by rw [hb44]; exact Bool.false_ne_true)] at e46
        replace e46 : some _ = some _ := e46
        cases e46
        exact ⟨_, x55, w55, rfl⟩
      rintro σ57' H56 ⟨B56, x56, w56, rfl⟩
      replace hb21 : some _ = some _ := hb21
      cases hb21
      exact hN34 _ _ _ x56 w56 ⟨_, rfl⟩
    rintro B59 H60 σ63 x61 w62 ⟨o64, rfl⟩
    replace w62 : Own K B59 M [⟨p11, (cLst (rT2 rInt rInt)), s58.1⟩, ⟨p0, (cL2 (rLst rInt) rInt), s58.2⟩] H60 := w62
    replace hm : some _ = some _ := hm
    obtain rfl := Option.some.inj hm
    exact q_ret w62 (ev_tupOfC (n := 0) (ev_varR rfl) rfl) fun v9 B9 H9 x9 w9 h9 => k _ _ _ (((x10.trans x14).trans x61).trans x9) w9.tail h9
noncomputable def m_l_choices (a0 : ((List Int) × Int)) (a1 : Int) (a2 : Int) : Option ((List (Int × (List (Int × Int)))) × ((List Int) × Int)) :=
  Option.bind (m_l_take a0 a2) fun t12 =>
  Option.bind (small62 (((1 : Int) + t12.1))) fun t14 =>
  Option.bind (foldO (S := ((List (Int × (List (Int × Int)))) × ((List Int) × Int))) (α := Int) (fun (s16 : ((List (Int × (List (Int × Int)))) × ((List Int) × Int))) (x17 : Int) => (
    Option.bind (m_l_take s16.2 ((5 : Int))) fun t36 =>
    Option.bind (ixL ([(0 : Int), (1 : Int), (2 : Int), (5 : Int), (1000 : Int)]) t36.1) fun t38 =>
    Option.bind (m_l_ends t36.2 a1) fun t40 =>
    Option.bind (room s16.1.length) fun t42 =>
    some ((s16.1 ++ [(t38, t40.1)]), t40.2)
  )) ((([] : List (Int × (List (Int × Int)))), t12.2)) ((rng 0 (((1 : Int) + t12.1))))) fun s45 =>
  some (s45.1, s45.2)
def C__law_choices : List Arg → List Cell → Arg → List Cell → Prop := fun as L r L' => ∃ a0 a1 a2 p0 c, as = [⟨rRef, p0⟩, ⟨rInt, a1⟩, ⟨rInt, a2⟩] ∧ L = [⟨p0, (cL2 (rLst rInt) rInt), a0⟩] ∧ m_l_choices a0 a1 a2 = some c ∧ r = ⟨(rTup (rT2 rInt (rTup (rT2 rInt rInt)))), c.1⟩ ∧ L' = [⟨p0, (cL2 (rLst rInt) rInt), c.2⟩]
theorem sc__law_choices : FnScope ["_law_state", "_law_many", "_law_most", "_law_choices_here", "_law_k"] ["_law_state", "_law_many", "_law_most"] (defScope s__law_choices) := ⟨rfl, rfl, rfl, by decide +kernel, rfl, by decide +kernel, by decide +kernel⟩
set_option maxHeartbeats 0 in
theorem ok__law_choices (F : FunC K "_law_choices" s__law_choices f fd cc) (c__law_take : Cl P w K mg base 2 "_law_take" (spV K T C__law_take) []) (c__law_ends : Cl P w K mg base 3 "_law_ends" (spV K T C__law_ends) []) (z_range : mg "range" = none) (z_tuple : mg "tuple" = none) : FnOk P w K mg base CX0 4 f fd ["_law_state", "_law_many", "_law_most"] (spV K T C__law_choices) := by
  refine F.ok sc__law_choices (fun vs H Q E h => ?_) (fun A outer s H vs Q E hr h => ?_)
  · obtain ⟨B, M, L, as, r, L', hT, w, ha, ⟨_, _, _, _, _, rfl, _⟩, k⟩ := h
    exact args_len ha
  · skip
    obtain ⟨B, M, L, as, r, L', rfl, w, ha, ⟨a0, a1, a2, p0, c, rfl, rfl, hm, rfl, rfl⟩, k⟩ := h
    obtain ⟨u0, u1, u2, rfl, f0, f1, f2⟩ := args3 ha
    replace f0 : u0 = V.ref p0 := f0
    subst f0
    replace f1 : (rInt).is K B u1 a1 := f1
    replace f2 : (rInt).is K B u2 a2 := f2
    unfold m_l_choices at hm
    refine ⟨_, (pss_cons (ps_set (i := 3) sc__law_choices.nd rfl (by first | exact Or.inl rfl | exact Or.inr rfl | exact Or.inr (Or.inl rfl) | exact Or.inr (Or.inr rfl)) (pe_lst pa_nil)) (pss_cons (ps_for PassesOwn.never rfl (pi_range1 rfl z_range (pa_cons (pe_op op_add pe_int (pe_c c__law_take hr (by omega) rfl (pa_cons (pv 0) (pa_cons (pv 2) pa_nil)))) pa_nil)) (pg_name (i := 4) sc__law_choices.nd rfl (by first | exact Or.inl rfl | exact Or.inr rfl | exact Or.inr (Or.inl rfl) | exact Or.inr (Or.inr rfl))) (pss_cons (ps_expr (pe_bm PySem.F.plainAttrs_list PySem.F.slot_list_append PySem.F.type_list_append mt_append (pv 3) (pa_cons (pe_tup (pa_cons (pe_ix ix_seq (pe_lst (pa_cons pe_int (pa_cons pe_int (pa_cons pe_int (pa_cons pe_int (pa_cons pe_int pa_nil)))))) (pe_c c__law_take hr (by omega) rfl (pa_cons (pv 0) (pa_cons pe_int pa_nil))) (fun _ _ => rfl)) (pa_cons (pe_c c__law_ends hr (by omega) rfl (pa_cons (pv 0) (pa_cons (pv 1) pa_nil))) pa_nil))) pa_nil))) pss_nil)) (pss_cons (ps_ret (pe_callTy call_tuple_of rfl z_tuple bt_tuple (pa_cons (pv 3) pa_nil))) pss_nil))), ?_⟩
    rw [show start ["_law_state", "_law_many", "_law_most", "_law_choices_here", "_law_k"] [.ref p0, u1, u2] = ([some (.ref p0), some u1, some u2, none, none] : L2.St) from rfl]
    refine q_asgL (n := 3) w (el_lst (r := (rT2 rInt (rTup (rT2 rInt rInt)))) ([] : List (Int × (List (Int × Int)))) ea_nil) fun p11 B10 H10 x10 (w10 : Own K B10 M [⟨p11, (cLst (rT2 rInt (rTup (rT2 rInt rInt)))), ([] : List (Int × (List (Int × Int))))⟩, ⟨p0, (cL2 (rLst rInt) rInt), a0⟩] H10) => ?_
    obtain ⟨t12, e13, hm⟩ := bindS hm
    obtain ⟨t14, e15, hm⟩ := bindS hm
    obtain ⟨s45, e20, hm⟩ := bindS hm
    refine q_fold w10 (ei_rng1 (ea_cons (ev_add (ev_int (i := 1)) (ev_callC 1 (x := ⟨p0, (cL2 (rLst rInt) rInt), a0⟩) (x' := ⟨p0, (cL2 (rLst rInt) rInt), t12.2⟩) (ea_cons (ev_varR rfl) (ea_cons (ev_varI rfl f2) ea_nil)) rfl ⟨_, _, _, _, rfl, rfl, e13, rfl, rfl⟩ rfl)) ea_nil) e15) _ (fun s16 B21 σ34 => ∃ o35, σ34 = [some (.ref p0), some u1, some u2, some (.ref p11), o35]) (fun s16 => [⟨p11, (cLst (rT2 rInt (rTup (rT2 rInt rInt)))), s16.1⟩, ⟨p0, (cL2 (rLst rInt) rInt), s16.2⟩]) ((([] : List (Int × (List (Int × Int)))), t12.2)) e20 (fun B9 x9 => ⟨_, rfl⟩) rfl ?_ ?_
    · skip
      rintro s16 x17 s52 v27 B21 B22 H23 σ34 hb18 x24 ⟨o35, rfl⟩ x25 w26 h28 N29 K30 hN31
      replace w26 : Own K B22 M [⟨p11, (cLst (rT2 rInt (rTup (rT2 rInt rInt)))), s16.1⟩, ⟨p0, (cL2 (rLst rInt) rInt), s16.2⟩] H23 := w26
      refine g_name ?_
      obtain ⟨t36, e37, hb18⟩ := bindS hb18
      obtain ⟨t38, e39, hb18⟩ := bindS hb18
      obtain ⟨t40, e41, hb18⟩ := bindS hb18
      obtain ⟨t42, e43, hb18⟩ := bindS hb18
      refine q_app (n := 0) (m := 3) w26 rfl (ev_T2 (ea_cons (ev_ix (ev_seqL (ev_frz (el_lst (r := rInt) [(0 : Int), (1 : Int), (2 : Int), (5 : Int), (1000 : Int)] (ea_cons (ev_int (i := 0)) (ea_cons (ev_int (i := 1)) (ea_cons (ev_int (i := 2)) (ea_cons (ev_int (i := 5)) (ea_cons (ev_int (i := 1000)) ea_nil)))))))) (ev_callC 1 (x := ⟨p0, (cL2 (rLst rInt) rInt), s16.2⟩) (x' := ⟨p0, (cL2 (rLst rInt) rInt), t36.2⟩) (ea_cons (ev_varR rfl) (ea_cons (ev_int (i := 5)) ea_nil)) rfl ⟨_, _, _, _, rfl, rfl, e37, rfl, rfl⟩ rfl) e39) (ea_cons (ev_callC 1 (x := ⟨p0, (cL2 (rLst rInt) rInt), t36.2⟩) (x' := ⟨p0, (cL2 (rLst rInt) rInt), t40.2⟩) (ea_cons (ev_varR rfl) (ea_cons (ev_varI rfl f1) ea_nil)) rfl ⟨_, _, _, _, rfl, rfl, e41, rfl, rfl⟩ rfl) ea_nil))) rfl ⟨0, _, rfl⟩ e43 fun B44 H44 x44 (w44 : Own K B44 M [⟨p11, (cLst (rT2 rInt (rTup (rT2 rInt rInt)))), (s16.1 ++ [(t38, t40.1)])⟩, ⟨p0, (cL2 (rLst rInt) rInt), t40.2⟩] H44) => ?_
      replace hb18 : some _ = some _ := hb18
      cases hb18
      exact hN31 _ _ _ x44 w44 ⟨_, rfl⟩
    rintro B46 H47 σ50 x48 w49 ⟨o51, rfl⟩
    replace w49 : Own K B46 M [⟨p11, (cLst (rT2 rInt (rTup (rT2 rInt rInt)))), s45.1⟩, ⟨p0, (cL2 (rLst rInt) rInt), s45.2⟩] H47 := w49
    replace hm : some _ = some _ := hm
    obtain rfl := Option.some.inj hm
    exact q_ret w49 (ev_tupOfC (n := 0) (ev_varR rfl) rfl) fun v9 B9 H9 x9 w9 h9 => k _ _ _ ((x10.trans x48).trans x9) w9.tail h9
noncomputable def m_l_system (a0 : ((List Int) × Int)) (a1 : Int) : Option ((List (List (Int × (List (Int × Int))))) × ((List Int) × Int)) :=
  Option.bind (m_l_take a0 a1) fun t10 =>
  Option.bind (small62 (((1 : Int) + t10.1))) fun t15 =>
  Option.bind (room ((rng 0 (((1 : Int) + t10.1)))).length) fun t43 =>
  Option.bind (compM (S := ((List Int) × Int)) (β := (List (Int × (List (Int × Int))))) (fun (s17 : ((List Int) × Int)) (x24 : Int) => (Option.bind (m_l_choices s17 (((1 : Int) + t10.1)) ((3 : Int))) fun t41 => some (some t41.1, t41.2))) t10.2 ((rng 0 (((1 : Int) + t10.1))))) fun t45 =>
  some (t45.1, t45.2)
def C__law_system : List Arg → List Cell → Arg → List Cell → Prop := fun as L r L' => ∃ a0 a1 p0 c, as = [⟨rRef, p0⟩, ⟨rInt, a1⟩] ∧ L = [⟨p0, (cL2 (rLst rInt) rInt), a0⟩] ∧ m_l_system a0 a1 = some c ∧ r = ⟨(rTup (rTup (rT2 rInt (rTup (rT2 rInt rInt))))), c.1⟩ ∧ L' = [⟨p0, (cL2 (rLst rInt) rInt), c.2⟩]
theorem sc__law_system : FnScope ["_law_state", "_law_most", "_law_many", "_law_k"] ["_law_state", "_law_most"] (defScope s__law_system) := ⟨rfl, rfl, rfl, by decide +kernel, rfl, by decide +kernel, by decide +kernel⟩
set_option maxHeartbeats 0 in
theorem ok__law_system (F : FunC K "_law_system" s__law_system f fd cc) (c__law_take : Cl P w K mg base 2 "_law_take" (spV K T C__law_take) []) (c__law_choices : Cl P w K mg base 4 "_law_choices" (spV K T C__law_choices) []) (z_range : mg "range" = none) (z_tuple : mg "tuple" = none) : FnOk P w K mg base CX0 5 f fd ["_law_state", "_law_most"] (spV K T C__law_system) := by
  refine F.ok sc__law_system (fun vs H Q E h => ?_) (fun A outer s H vs Q E hr h => ?_)
  · obtain ⟨B, M, L, as, r, L', hT, w, ha, ⟨_, _, _, _, rfl, _⟩, k⟩ := h
    exact args_len ha
  · skip
    obtain ⟨B, M, L, as, r, L', rfl, w, ha, ⟨a0, a1, p0, c, rfl, rfl, hm, rfl, rfl⟩, k⟩ := h
    obtain ⟨u0, u1, rfl, f0, f1⟩ := args2 ha
    replace f0 : u0 = V.ref p0 := f0
    subst f0
    replace f1 : (rInt).is K B u1 a1 := f1
    unfold m_l_system at hm
    refine ⟨_, (pss_cons (ps_set (i := 2) sc__law_system.nd rfl (by first | exact Or.inl rfl | exact Or.inr rfl | exact Or.inr (Or.inl rfl) | exact Or.inr (Or.inr rfl)) (pe_op op_add pe_int (pe_c c__law_take hr (by omega) rfl (pa_cons (pv 0) (pa_cons (pv 1) pa_nil))))) (pss_cons (ps_ret (pe_callTy call_tuple_of rfl z_tuple bt_tuple (pa_cons (pe_lc rfl sc__law_system.nd (pi_range1 rfl z_range (pa_cons (pv 2) pa_nil)) (blkOk_by (own := [("_law_k", 3)]) (show blkC ["_law_state", "_law_most", "_law_many", "_law_k"] (defScope s__law_system) _ _ = true by decide +kernel)) (fun _ _ _ _ _ => (pg_name (i := 3) sc__law_system.nd rfl (by first | exact Or.inl rfl | exact Or.inr rfl | exact Or.inr (Or.inl rfl) | exact Or.inr (Or.inr rfl)))) (fun _ _ _ _ _ => pts_nil) (fun _ _ _ _ _ => (pe_c c__law_choices hr (by omega) rfl (pa_cons (pv 0) (pa_cons (pv 2) (pa_cons pe_int pa_nil)))))) pa_nil))) pss_nil)), ?_⟩
    rw [show start ["_law_state", "_law_most", "_law_many", "_law_k"] [.ref p0, u1] = ([some (.ref p0), some u1, none, none] : L2.St) from rfl]
    obtain ⟨t10, e11, hm⟩ := bindS hm
    refine q_asg (n := 2) w (ev_add (ev_int (i := 1)) (ev_callC 0 (x := ⟨p0, (cL2 (rLst rInt) rInt), a0⟩) (x' := ⟨p0, (cL2 (rLst rInt) rInt), t10.2⟩) (ea_cons (ev_varR rfl) (ea_cons (ev_varI rfl f1) ea_nil)) rfl ⟨_, _, _, _, rfl, rfl, e11, rfl, rfl⟩ rfl)) fun v13 B12 H12 x12 (w12 : Own K B12 M [⟨p0, (cL2 (rLst rInt) rInt), t10.2⟩] H12) h14 => ?_
    obtain ⟨t15, e16, hm⟩ := bindS hm
    obtain ⟨t43, e44, hm⟩ := bindS hm
    obtain ⟨t45, e46, hm⟩ := bindS hm
    replace hm : some _ = some _ := hm
    obtain rfl := Option.some.inj hm
    exact q_ret w12 (ev_tupOfL (ev_frz (el_lc (S := ((List Int) × Int)) (ys := t45.1) (s1 := t45.2) (s0 := t10.2) (σ' := [some (.ref p0), some u1, some v13, none]) (rTup (rT2 rInt (rTup (rT2 rInt rInt)))) (ei_rng1 (ea_cons (ev_varI rfl h14) ea_nil) e16) _ (fun (s17 : ((List Int) × Int)) => [⟨p0, (cL2 (rLst rInt) rInt), s17⟩]) rfl e46 e44 rfl (by rintro s17 x24 o29 s30 v22 D27 a28 B18 H19 hb26 x20 w21 h23 PY31 PN32 qY33 qN34; replace w21 : Own K B18 M [⟨D27, (cLst (rTup (rT2 rInt (rTup (rT2 rInt rInt))))), a28⟩, ⟨p0, (cL2 (rLst rInt) rInt), s17⟩] H19 := w21; refine g_name ?_; refine ⟨rfl, ?_⟩; obtain ⟨t41, e42, hb26⟩ := bindS hb26; obtain ⟨rfl, rfl⟩ := Prod.mk.inj (Option.some.inj hb26); refine lc_yes ?_; exact (ev_callC 1 (x := ⟨p0, (cL2 (rLst rInt) rInt), s17⟩) (x' := ⟨p0, (cL2 (rLst rInt) rInt), t41.2⟩) (ea_cons (ev_varR rfl) (ea_cons (ev_varI rfl h14) (ea_cons (ev_int (i := 3)) ea_nil))) rfl ⟨_, _, _, _, _, rfl, rfl, e42, rfl, rfl⟩ rfl) B18 H19 (Ex.refl _) w21 _ fun v35 B36 H37 x38 w39 h40 => qY33 v35 B36 H37 _ rfl x38 w39 h40)))) fun v9 B9 H9 x9 w9 h9 => k _ _ _ (x12.trans x9) w9 h9
noncomputable def m_l_some (a0 : ((List Int) × Int)) (a1 : Int) (a2 : Int) : Option ((List Int) × ((List Int) × Int)) :=
  Option.bind (small62 a1) fun t10 =>
  Option.bind (room ((rng 0 a1)).length) fun t43 =>
  Option.bind (compM (S := ((List Int) × Int)) (β := Int) (fun (s12 : ((List Int) × Int)) (x19 : Int) => (Option.bind (m_l_take s12 a2) fun t36 => if (decide (t36.1 = (0 : Int))) = true then ( some (some x19, t36.2)) else some (none, t36.2))) a0 ((rng 0 a1))) fun t45 =>
  Option.bind (m_l_take t45.2 ((2 : Int))) fun t50 =>
  Option.bind (if (decide (t50.1 = (0 : Int))) = true then
    some ((t45.1.reverse, t50.2))
  else
    some ((t45.1, t50.2))
  ) fun (s53 : ((List Int) × ((List Int) × Int))) =>
  some (s53.1, s53.2)
def C__law_some : List Arg → List Cell → Arg → List Cell → Prop := fun as L r L' => ∃ a0 a1 a2 p0 c, as = [⟨rRef, p0⟩, ⟨rInt, a1⟩, ⟨rInt, a2⟩] ∧ L = [⟨p0, (cL2 (rLst rInt) rInt), a0⟩] ∧ m_l_some a0 a1 a2 = some c ∧ r = ⟨(rLst rInt), c.1⟩ ∧ L' = [⟨p0, (cL2 (rLst rInt) rInt), c.2⟩]
theorem sc__law_some : FnScope ["_law_state", "_law_many", "_law_share", "_law_found", "_law_k"] ["_law_state", "_law_many", "_law_share"] (defScope s__law_some) := ⟨rfl, rfl, rfl, by decide +kernel, rfl, by decide +kernel, by decide +kernel⟩
set_option maxHeartbeats 0 in
theorem ok__law_some (F : FunC K "_law_some" s__law_some f fd cc) (c__law_take : Cl P w K mg base 2 "_law_take" (spV K T C__law_take) []) (z_range : mg "range" = none) : FnOk P w K mg base CX0 3 f fd ["_law_state", "_law_many", "_law_share"] (spV K T C__law_some) := by
  refine F.ok sc__law_some (fun vs H Q E h => ?_) (fun A outer s H vs Q E hr h => ?_)
  · obtain ⟨B, M, L, as, r, L', hT, w, ha, ⟨_, _, _, _, _, rfl, _⟩, k⟩ := h
    exact args_len ha
  · skip
    obtain ⟨B, M, L, as, r, L', rfl, w, ha, ⟨a0, a1, a2, p0, c, rfl, rfl, hm, rfl, rfl⟩, k⟩ := h
    obtain ⟨u0, u1, u2, rfl, f0, f1, f2⟩ := args3 ha
    replace f0 : u0 = V.ref p0 := f0
    subst f0
    replace f1 : (rInt).is K B u1 a1 := f1
    replace f2 : (rInt).is K B u2 a2 := f2
    unfold m_l_some at hm
    refine ⟨_, (pss_cons (ps_setLc (i := 3) rfl sc__law_some.nd rfl rfl rfl (pi_range1 rfl z_range (pa_cons (pv 1) pa_nil)) (blkOk_by (own := [("_law_k", 4)]) (show blkC ["_law_state", "_law_many", "_law_share", "_law_found", "_law_k"] (defScope s__law_some) _ _ = true by decide +kernel)) (fun _ _ _ _ _ => (pg_name (i := 4) sc__law_some.nd rfl (by first | exact Or.inl rfl | exact Or.inr rfl | exact Or.inr (Or.inl rfl) | exact Or.inr (Or.inr rfl)))) (fun _ _ _ _ _ => (pts_one (pt_cmpR op_eq (pe_c c__law_take hr (by omega) rfl (pa_cons (pv 0) (pa_cons (pv 2) pa_nil))) pe_int (nomark _)))) (fun _ _ _ _ _ => (pv 4))) (Evl.pss_cut (ps_if (pt_cmpR op_eq (pe_c c__law_take hr (by omega) rfl (pa_cons (pv 0) (pa_cons pe_int pa_nil))) pe_int (nomark _)) (pss_cons (ps_set (i := 3) sc__law_some.nd rfl (by first | exact Or.inl rfl | exact Or.inr rfl | exact Or.inr (Or.inl rfl) | exact Or.inr (Or.inr rfl)) (pe_revL (pv 3))) pss_nil) pss_nil) (pss_cons (ps_ret (pv 3)) pss_nil))), ?_⟩
    rw [show start ["_law_state", "_law_many", "_law_share", "_law_found", "_law_k"] [.ref p0, u1, u2] = ([some (.ref p0), some u1, some u2, none, none] : L2.St) from rfl]
    obtain ⟨t10, e11, hm⟩ := bindS hm
    obtain ⟨t43, e44, hm⟩ := bindS hm
    obtain ⟨t45, e46, hm⟩ := bindS hm
    refine q_asg (n := 3) w (ev_frz (el_lc (S := ((List Int) × Int)) (ys := t45.1) (s1 := t45.2) (s0 := a0) (σ' := [some (.ref p0), some u1, some u2, none, none]) rInt (ei_rng1 (ea_cons (ev_varI rfl f1) ea_nil) e11) _ (fun (s12 : ((List Int) × Int)) => [⟨p0, (cL2 (rLst rInt) rInt), s12⟩]) rfl e46 e44 rfl (by rintro s12 x19 o24 s25 v17 D22 a23 B13 H14 hb21 x15 w16 h18 PY26 PN27 qY28 qN29; replace w16 : Own K B13 M [⟨D22, (cLst rInt), a23⟩, ⟨p0, (cL2 (rLst rInt) rInt), s12⟩] H14 := w16; refine g_name ?_; refine ⟨rfl, ?_⟩; obtain ⟨t36, e37, hb21⟩ := bindS hb21; exact (et_test (ev_eqI (ev_callC 1 (x := ⟨p0, (cL2 (rLst rInt) rInt), s12⟩) (x' := ⟨p0, (cL2 (rLst rInt) rInt), t36.2⟩) (ea_cons (ev_varR rfl) (ea_cons (ev_varI rfl f2) ea_nil)) rfl ⟨_, _, _, _, rfl, rfl, e37, rfl, rfl⟩ rfl) (ev_int (i := 0)))) B13 H14 (Ex.refl _) w16 _ fun B38 H39 x40 (w41 : Own K B38 M [⟨D22, (cLst rInt), a23⟩, ⟨p0, (cL2 (rLst rInt) rInt), t36.2⟩] H39) => lc_if (fun hq42 => by rw [if_pos hq42] at hb21; obtain ⟨rfl, rfl⟩ := Prod.mk.inj (Option.some.inj hb21); exact (ev_varI rfl h18) B38 H39 (Ex.refl _) w41 _ fun v30 B31 H32 x33 w34 h35 => qY28 v30 B31 H32 _ rfl (x40.trans x33) w34 h35) (fun hq42 => by rw [if_neg (by rw [hq42]; exact Bool.false_ne_true)] at hb21; obtain ⟨rfl, rfl⟩ := Prod.mk.inj (Option.some.inj hb21); exact qN29 B38 H39 rfl x40 w41)))) fun v48 B47 H47 x47 (w47 : Own K B47 M [⟨p0, (cL2 (rLst rInt) rInt), t45.2⟩] H47) h49 => ?_
    obtain ⟨t50, e51, hm⟩ := bindS hm
    obtain ⟨s53, e54, hm⟩ := bindS hm
    refine q_cut (fun σ63 H60 => ∃ v61 B60, Ex B47 B60 ∧ Own K B60 M [⟨p0, (cL2 (rLst rInt) rInt), s53.2⟩] H60 ∧ σ63 = [some (.ref p0), some u1, some u2, some v61, none] ∧ ((rLst rInt)).is K B60 v61 s53.1) ?_ ?_
    · skip
      refine q_ifc w47 (et_test (ev_eqI (ev_callC 0 (x := ⟨p0, (cL2 (rLst rInt) rInt), t45.2⟩) (x' := ⟨p0, (cL2 (rLst rInt) rInt), t50.2⟩) (ea_cons (ev_varR rfl) (ea_cons (ev_int (i := 2)) ea_nil)) rfl ⟨_, _, _, _, rfl, rfl, e51, rfl, rfl⟩ rfl) (ev_int (i := 0)))) (fun hb52 B55 H55 x55 (w55 : Own K B55 M [⟨p0, (cL2 (rLst rInt) rInt), t50.2⟩] H55) => ?_) (fun hb52 B59 H59 x59 (w59 : Own K B59 M [⟨p0, (cL2 (rLst rInt) rInt), t50.2⟩] H59) => ?_)
      · skip
        rw [if_pos hb52] at e54
        refine q_asg (n := 3) w55 (ev_frz (el_revL (ev_var rfl (((rLst rInt)).mono x55 h49)))) fun v57 B56 H56 x56 (w56 : Own K B56 M [⟨p0, (cL2 (rLst rInt) rInt), t50.2⟩] H56) h58 => ?_
        replace e54 : some _ = some _ := e54
        cases e54
        exact ⟨v57, _, (x55.trans x56), w56, rfl, h58⟩
      rw [if_neg (by rw [hb52]; exact Bool.false_ne_true)] at e54
      replace e54 : some _ = some _ := e54
      cases e54
      exact ⟨v48, _, x59, w59, rfl, (((rLst rInt)).mono x59 h49)⟩
    rintro σ63' H60 ⟨v61, B60, x60, w60, rfl, h62⟩
    replace hm : some _ = some _ := hm
    obtain rfl := Option.some.inj hm
    exact q_ret w60 (ev_var rfl h62) fun v9 B9 H9 x9 w9 h9 => k _ _ _ ((x47.trans x60).trans x9) w9 h9
noncomputable def m_l_part (a0 : (List (List (Int × (List (Int × Int)))))) (a1 : (List Int)) : Option (Option (List (Int × (List Int)))) :=
  Option.bind (loopR (S := (List (Int × (List Int)))) (R := (Option (List (Int × (List Int))))) (α := Int) (fun (s12 : (List (Int × (List Int)))) (x13 : Int) => (
    Option.bind (ixL a0 x13) fun t36 =>
    Option.bind (small62 ((t36.length : Int))) fun t38 =>
    Option.bind (foldO (S := (List Int)) (α := Int) (fun (s40 : (List Int)) (x41 : Int) => (
      Option.bind (ixL a0 x13) fun t60 =>
      Option.bind (ixL t60 x41) fun t62 =>
      Option.bind (room t62.2.length) fun t93 =>
      Option.bind (compM (S := Unit) (β := (Int × Int)) (fun (s64 : Unit) (x71 : (Int × Int)) => ( if (!decide (x71.1 ∈ a1)) = true then ( some (some x71, ())) else some (none, ()))) (()) t62.2) fun t95 =>
      Option.bind (if (decide ((t95.1.length : Int) = (0 : Int))) = true then
        Option.bind (room s40.length) fun t101 =>
        some ((s40 ++ [x41]))
      else
        some s40
      ) fun (s98 : (List Int)) =>
      some s98
    )) (([] : List Int)) ((rng 0 ((t36.length : Int))))) fun s107 =>
    if (decide ((s107.length : Int) = (0 : Int))) = true then
      some (Stp.rt none)
    else
      Option.bind (room s12.length) fun t117 =>
      some (Stp.nx ((s12 ++ [(x13, s107)])))
  )) (([] : List (Int × (List Int)))) a1) fun o15 =>
  match o15 with
  | .inl s121 =>
    some (some s121)
  | .inr q9 => some q9
def C__law_part : List Arg → List Cell → Arg → List Cell → Prop := fun as L r L' => ∃ a0 a1 c, as = [⟨(rTup (rTup (rT2 rInt (rTup (rT2 rInt rInt))))), a0⟩, ⟨(rLst rInt), a1⟩] ∧ L = [] ∧ m_l_part a0 a1 = some c ∧ r = ⟨(rOpt (rLst (rT2 rInt (rTup rInt)))), c⟩ ∧ L' = []
theorem sc__law_part : FnScope ["_law_system_here", "_law_states", "_law_part_here", "_law_one", "_law_numbers", "_law_number", "_law_end"] ["_law_system_here", "_law_states"] (defScope s__law_part) := ⟨rfl, rfl, rfl, by decide +kernel, rfl, by decide +kernel, by decide +kernel⟩
set_option maxHeartbeats 0 in
theorem ok__law_part (F : FunC K "_law_part" s__law_part f fd cc) (z_range : mg "range" = none) (z_len : mg "len" = none) (z_tuple : mg "tuple" = none) : FnOk P w K mg base CX0 1 f fd ["_law_system_here", "_law_states"] (spV K T C__law_part) := by
  refine F.ok sc__law_part (fun vs H Q E h => ?_) (fun A outer s H vs Q E hr h => ?_)
  · obtain ⟨B, M, L, as, r, L', hT, w, ha, ⟨_, _, _, rfl, _⟩, k⟩ := h
    exact args_len ha
  · skip
    obtain ⟨B, M, L, as, r, L', rfl, w, ha, ⟨a0, a1, c, rfl, rfl, hm, rfl, rfl⟩, k⟩ := h
    obtain ⟨u0, u1, rfl, f0, f1⟩ := args2 ha
    replace f0 : ((rTup (rTup (rT2 rInt (rTup (rT2 rInt rInt)))))).is K B u0 a0 := f0
    replace f1 : ((rLst rInt)).is K B u1 a1 := f1
    unfold m_l_part at hm
    refine ⟨_, (pss_cons (ps_set (i := 2) sc__law_part.nd rfl (by first | exact Or.inl rfl | exact Or.inr rfl | exact Or.inr (Or.inl rfl) | exact Or.inr (Or.inr rfl)) (pe_lst pa_nil)) (pss_cons (ps_for PassesOwn.never rfl (pi_list (pv 1)) (pg_name (i := 3) sc__law_part.nd rfl (by first | exact Or.inl rfl | exact Or.inr rfl | exact Or.inr (Or.inl rfl) | exact Or.inr (Or.inr rfl))) (pss_cons (ps_set (i := 4) sc__law_part.nd rfl (by first | exact Or.inl rfl | exact Or.inr rfl | exact Or.inr (Or.inl rfl) | exact Or.inr (Or.inr rfl)) (pe_lst pa_nil)) (pss_cons (ps_for PassesOwn.never rfl (pi_range1 rfl z_range (pa_cons (pe_callB call_len_seq rfl z_len bt_len (pa_cons (pe_ix ix_seq (pv 0) (pv 3) (fun _ _ => rfl)) pa_nil)) pa_nil)) (pg_name (i := 5) sc__law_part.nd rfl (by first | exact Or.inl rfl | exact Or.inr rfl | exact Or.inr (Or.inl rfl) | exact Or.inr (Or.inr rfl))) (Evl.pss_cut (ps_if (pt_cmpR op_eq (pe_callB call_len_seq rfl z_len bt_len (pa_cons (pe_lc rfl sc__law_part.nd (pi_tup (pe_ix ix_seq (pe_ix ix_seq (pe_ix ix_seq (pv 0) (pv 3) (fun _ _ => rfl)) (pv 5) (fun _ _ => rfl)) pe_int (fun _ _ => rfl))) (blkOk_by (own := [("_law_end", 6)]) (show blkC ["_law_system_here", "_law_states", "_law_part_here", "_law_one", "_law_numbers", "_law_number", "_law_end"] (defScope s__law_part) _ _ = true by decide +kernel)) (fun _ _ _ _ _ => (pg_name (i := 6) sc__law_part.nd rfl (by first | exact Or.inl rfl | exact Or.inr rfl | exact Or.inr (Or.inl rfl) | exact Or.inr (Or.inr rfl)))) (fun _ _ _ _ _ => (pts_one (pt_cmpR (show OpR _ _ (rIn K true) from op_notIn_seq) (pe_ix (show IxR _ (rIx K) from ix_seq) (pv 6) pe_int (fun _ _ => rfl)) (pv 1) rfl))) (fun _ _ _ _ _ => (pv 6))) pa_nil)) pe_int (nomark _)) (pss_cons (ps_expr (pe_bm PySem.F.plainAttrs_list PySem.F.slot_list_append PySem.F.type_list_append mt_append (pv 4) (pa_cons (pv 5) pa_nil))) pss_nil) pss_nil) pss_nil)) (pss_cons (ps_if (pt_cmpR op_eq (pe_callB call_len_seq rfl z_len bt_len (pa_cons (pv 4) pa_nil)) pe_int (nomark _)) (pss_cons (ps_ret pe_non) pss_nil) pss_nil) (pss_cons (ps_expr (pe_bm PySem.F.plainAttrs_list PySem.F.slot_list_append PySem.F.type_list_append mt_append (pv 2) (pa_cons (pe_tup (pa_cons (pv 3) (pa_cons (pe_callTy call_tuple_of rfl z_tuple bt_tuple (pa_cons (pv 4) pa_nil)) pa_nil))) pa_nil))) pss_nil))))) (pss_cons (ps_ret (pv 2)) pss_nil))), ?_⟩
    rw [show start ["_law_system_here", "_law_states", "_law_part_here", "_law_one", "_law_numbers", "_law_number", "_law_end"] [u0, u1] = ([some u0, some u1, none, none, none, none, none] : L2.St) from rfl]
    refine q_asgL (n := 2) w (el_lst (r := (rT2 rInt (rTup rInt))) ([] : List (Int × (List Int))) ea_nil) fun p11 B10 H10 x10 (w10 : Own K B10 M [⟨p11, (cLst (rT2 rInt (rTup rInt))), ([] : List (Int × (List Int)))⟩] H10) => ?_
    obtain ⟨o15, e16, hm⟩ := bindS hm
    refine q_forR w10 (ei_lst (ev_var rfl (((rLst rInt)).mono x10 f1))) _ (fun s12 B17 σ30 => ∃ o31 o32 o33, σ30 = [some u0, some u1, some (.ref p11), o31, o32, o33, none]) (fun s12 => [⟨p11, (cLst (rT2 rInt (rTup rInt))), s12⟩]) (([] : List (Int × (List Int)))) e16 (fun B9 x9 => ⟨_, _, _, rfl⟩) rfl ?_ ?_
    · skip
      rintro s12 x13 s130 v23 B17 B18 H19 σ30 hb14 x20 ⟨o31, o32, o33, rfl⟩ x21 w22 h24 ho29 N25 K26 hN27 hB28
      replace w22 : Own K B18 M [⟨p11, (cLst (rT2 rInt (rTup rInt))), s12⟩] H19 := w22
      refine g_name ?_
      refine q_asgL (n := 4) w22 (el_lst (r := rInt) ([] : List Int) ea_nil) fun p35 B34 H34 x34 (w34 : Own K B34 M [⟨p35, (cLst rInt), ([] : List Int)⟩, ⟨p11, (cLst (rT2 rInt (rTup rInt))), s12⟩] H34) => ?_
      obtain ⟨t36, e37, hb14⟩ := bindS hb14
      obtain ⟨t38, e39, hb14⟩ := bindS hb14
      obtain ⟨s107, e44, hb14⟩ := bindS hb14
      refine q_fold w34 (ei_rng1 (ea_cons (ev_len (ev_seqT (ev_ix (ev_seqT (ev_var rfl (((rTup (rTup (rT2 rInt (rTup (rT2 rInt rInt)))))).mono (((x10.trans x20).trans x21).trans x34) f0))) (ev_varI rfl h24) e37))) ea_nil) e39) _ (fun s40 B45 σ58 => ∃ o59, σ58 = [some u0, some u1, some (.ref p11), some v23, some (.ref p35), o59, none]) (fun s40 => [⟨p35, (cLst rInt), s40⟩, ⟨p11, (cLst (rT2 rInt (rTup rInt))), s12⟩]) (([] : List Int)) e44 (fun B9 x9 => ⟨_, rfl⟩) rfl ?_ ?_
      · skip
        rintro s40 x41 s120 v51 B45 B46 H47 σ58 hb42 x48 ⟨o59, rfl⟩ x49 w50 h52 N53 K54 hN55
        replace w50 : Own K B46 M [⟨p35, (cLst rInt), s40⟩, ⟨p11, (cLst (rT2 rInt (rTup rInt))), s12⟩] H47 := w50
        refine g_name ?_
        obtain ⟨t60, e61, hb42⟩ := bindS hb42
        obtain ⟨t62, e63, hb42⟩ := bindS hb42
        obtain ⟨t93, e94, hb42⟩ := bindS hb42
        obtain ⟨t95, e96, hb42⟩ := bindS hb42
        obtain ⟨s98, e99, hb42⟩ := bindS hb42
        refine q_cut (fun σ106 H105 => ∃ B105, Ex B46 B105 ∧ Own K B105 M [⟨p35, (cLst rInt), s98⟩, ⟨p11, (cLst (rT2 rInt (rTup rInt))), s12⟩] H105 ∧ σ106 = [some u0, some u1, some (.ref p11), some v23, some (.ref p35), some v51, none]) ?_ ?_
        · skip
          refine q_ifc w50 (et_test (ev_eqI (ev_len (ev_seqL (ev_frz (el_lc (S := Unit) (ys := t95.1) (s1 := t95.2) (s0 := ()) (σ' := [some u0, some u1, some (.ref p11), some v23, some (.ref p35), some v51, none]) (rT2 rInt rInt) (ei_tup (ev_snd (ev_ix (ev_seqT (ev_ix (ev_seqT (ev_var rfl (((rTup (rTup (rT2 rInt (rTup (rT2 rInt rInt)))))).mono (((((x10.trans x20).trans x21).trans x34).trans x48).trans x49) f0))) (ev_varI rfl h24) e61)) (ev_varI rfl h52) e63))) _ (fun (s64 : Unit) => [⟨p35, (cLst rInt), s40⟩, ⟨p11, (cLst (rT2 rInt (rTup rInt))), s12⟩]) rfl e96 e94 rfl (by rintro s64 x71 o76 s77 v69 D74 a75 B65 H66 hb73 x67 w68 h70 PY78 PN79 qY80 qN81; replace w68 : Own K B65 M [⟨D74, (cLst (rT2 rInt rInt)), a75⟩, ⟨p35, (cLst rInt), s40⟩, ⟨p11, (cLst (rT2 rInt (rTup rInt))), s12⟩] H66 := w68; refine g_name ?_; refine ⟨rfl, ?_⟩; exact (et_test (ev_niI (ev_fst (ev_var rfl h70)) (ev_seqL (ev_var rfl (((rLst rInt)).mono ((((((x10.trans x20).trans x21).trans x34).trans x48).trans x49).trans x67) f1))))) B65 H66 (Ex.refl _) w68 _ fun B88 H89 x90 (w91 : Own K B88 M [⟨D74, (cLst (rT2 rInt rInt)), a75⟩, ⟨p35, (cLst rInt), s40⟩, ⟨p11, (cLst (rT2 rInt (rTup rInt))), s12⟩] H89) => lc_if (fun hq92 => by rw [if_pos hq92] at hb73; obtain ⟨rfl, rfl⟩ := Prod.mk.inj (Option.some.inj hb73); exact (ev_var rfl (((rT2 rInt rInt)).mono x90 h70)) B88 H89 (Ex.refl _) w91 _ fun v82 B83 H84 x85 w86 h87 => qY80 v82 B83 H84 _ rfl (x90.trans x85) w86 h87) (fun hq92 => by rw [if_neg (by rw [hq92]; exact Bool.false_ne_true)] at hb73; obtain ⟨rfl, rfl⟩ := Prod.mk.inj (Option.some.inj hb73); exact qN81 B88 H89 rfl x90 w91)))))) (ev_int (i := 0)))) (fun hb97 B100 H100 x100 (w100 : Own K B100 M [⟨p35, (cLst rInt), s40⟩, ⟨p11, (cLst (rT2 rInt (rTup rInt))), s12⟩] H100) => ?_) (fun hb97 B104 H104 x104 (w104 : Own K B104 M [⟨p35, (cLst rInt), s40⟩, ⟨p11, (cLst (rT2 rInt (rTup rInt))), s12⟩] H104) => ?_)
          · skip
            rw [if_pos hb97] at e99
            obtain ⟨t101, e102, e99⟩ := bindS e99
            refine q_app (n := 0) (m := 4) w100 rfl (ev_varI rfl h52) rfl ⟨0, _, rfl⟩ e102 fun B103 H103 x103 (w103 : Own K B103 M [⟨p35, (cLst rInt), (s40 ++ [x41])⟩, ⟨p11, (cLst (rT2 rInt (rTup rInt))), s12⟩] H103) => ?_
            replace e99 : some _ = some _ := e99
            cases e99
            exact ⟨_, (x100.trans x103), w103, rfl⟩
          rw [if_neg (by rw [hb97]; exact Bool.false_ne_true)] at e99
          replace e99 : some _ = some _ := e99
          cases e99
          exact ⟨_, x104, w104, rfl⟩
        rintro σ106' H105 ⟨B105, x105, w105, rfl⟩
        replace hb42 : some _ = some _ := hb42
        cases hb42
        exact hN55 _ _ _ x105 w105 ⟨_, rfl⟩
      rintro B108 H109 σ112 x110 w111 ⟨o113, rfl⟩
      replace w111 : Own K B108 M [⟨p35, (cLst rInt), s107⟩, ⟨p11, (cLst (rT2 rInt (rTup rInt))), s12⟩] H109 := w111
      refine q_if w111 (et_test (ev_eqI (ev_lenC (n := 0) (ev_varR rfl) rfl) (ev_int (i := 0)))) (fun hb114 B115 H115 x115 (w115 : Own K B115 M [⟨p35, (cLst rInt), s107⟩, ⟨p11, (cLst (rT2 rInt (rTup rInt))), s12⟩] H115) => ?_) (fun hb114 B116 H116 x116 (w116 : Own K B116 M [⟨p35, (cLst rInt), s107⟩, ⟨p11, (cLst (rT2 rInt (rTup rInt))), s12⟩] H116) => ?_)
      · skip
        rw [if_pos hb114] at hb14
        replace hb14 : some _ = some _ := hb14
        obtain rfl := Option.some.inj hb14
        obtain rfl := ho29 _ rfl
        replace hm : some _ = some _ := hm
        obtain rfl := Option.some.inj hm
        exact q_ret w115 (ev_non (r := (rLst (rT2 rInt (rTup rInt))))) fun v9 B9 H9 x9 w9 h9 => k _ _ _ ((((((x10.trans x20).trans x21).trans x34).trans x110).trans x115).trans x9) w9.tail.tail h9
      rw [if_neg (by rw [hb114]; exact Bool.false_ne_true)] at hb14
      obtain ⟨t117, e118, hb14⟩ := bindS hb14
      refine q_app (n := 1) (m := 2) w116 rfl (ev_T2 (ea_cons (ev_varI rfl h24) (ea_cons (ev_tupOfC (n := 0) (ev_varR rfl) rfl) ea_nil))) rfl ⟨1, _, rfl⟩ e118 fun B119 H119 x119 (w119 : Own K B119 M [⟨p35, (cLst rInt), s107⟩, ⟨p11, (cLst (rT2 rInt (rTup rInt))), (s12 ++ [(x13, s107)])⟩] H119) => ?_
      replace hb14 : some _ = some _ := hb14
      cases hb14
      exact hN27 _ _ _ _ rfl (((x34.trans x110).trans x116).trans x119) w119.tail ⟨_, _, _, rfl⟩
    rintro s121 B122 H123 σ126 rfl x124 w125 ⟨o127, o128, o129, rfl⟩
    dsimp only at hm
    replace w125 : Own K B122 M [⟨p11, (cLst (rT2 rInt (rTup rInt))), s121⟩] H123 := w125
    replace hm : some _ = some _ := hm
    obtain rfl := Option.some.inj hm
    exact q_retC (n := 0) (m := 2) w125 rfl rfl fun v9 B9 x9 w9 h9 => k _ _ _ ((x10.trans x124).trans x9) w9 h9
noncomputable def m_l_connected (a0 : (List (List (Int × (List (Int × Int)))))) (a1 : (List (Int × (List Int)))) : Option Bool :=
  Option.bind (loopR (S := Unit) (R := Bool) (α := (Int × (List Int))) (fun (s10 : Unit) (x11 : (Int × (List Int))) => (
    Option.bind (small62 ((a1.length : Int))) fun t43 =>
    Option.bind (foldO (S := (List Int)) (α := Int) (fun (s45 : (List Int)) (x46 : Int) => (
      Option.bind (foldO (S := (List Int)) (α := (Int × (List Int))) (fun (s70 : (List Int)) (x71 : (Int × (List Int))) => (
        Option.bind (if (decide (x71.1 ∈ s70)) = true then
          Option.bind (foldO (S := (List Int)) (α := Int) (fun (s102 : (List Int)) (x103 : Int) => (
            Option.bind (ixL a0 x71.1) fun t124 =>
            Option.bind (ixL t124 x103) fun t126 =>
            Option.bind (room t126.2.length) fun t157 =>
            Option.bind (compM (S := Unit) (β := Int) (fun (s128 : Unit) (x135 : (Int × Int)) => ( if (!decide (x135.1 ∈ s102)) = true then ( some (some x135.1, ())) else some (none, ()))) (()) t126.2) fun t159 =>
            Option.bind (catT s102 t159.1) fun t161 =>
            some t161
          )) s70 x71.2) fun s166 =>
          some s166
        else
          some s70
        ) fun (s99 : (List Int)) =>
        some s99
      )) s45 a1) fun s182 =>
      some s182
    )) ([x11.1]) ((rng 0 ((a1.length : Int))))) fun s194 =>
    if (decide ((s194.length : Int) < (a1.length : Int))) = true then
      some (Stp.rt false)
    else
      some (Stp.nx (()))
  )) (()) a1) fun o13 =>
  match o13 with
  | .inl s210 =>
    some true
  | .inr q9 => some q9
def C__law_connected : List Arg → List Cell → Arg → List Cell → Prop := fun as L r L' => ∃ a0 a1 c, as = [⟨(rTup (rTup (rT2 rInt (rTup (rT2 rInt rInt))))), a0⟩, ⟨(rLst (rT2 rInt (rTup rInt))), a1⟩] ∧ L = [] ∧ m_l_connected a0 a1 = some c ∧ r = ⟨rBool, c⟩ ∧ L' = []
theorem sc__law_connected : FnScope ["_law_system_here", "_law_part_here", "_law_start", "_law_numbers", "_law_found", "_law_k", "_law_one", "_law_own", "_law_number", "_law_end"] ["_law_system_here", "_law_part_here"] (defScope s__law_connected) := ⟨rfl, rfl, rfl, by decide +kernel, rfl, by decide +kernel, by decide +kernel⟩
set_option maxHeartbeats 0 in
theorem ok__law_connected (F : FunC K "_law_connected" s__law_connected f fd cc) (z_range : mg "range" = none) (z_len : mg "len" = none) : FnOk P w K mg base CX0 1 f fd ["_law_system_here", "_law_part_here"] (spV K T C__law_connected) := by
  refine F.ok sc__law_connected (fun vs H Q E h => ?_) (fun A outer s H vs Q E hr h => ?_)
  · obtain ⟨B, M, L, as, r, L', hT, w, ha, ⟨_, _, _, rfl, _⟩, k⟩ := h
    exact args_len ha
  · skip
    obtain ⟨B, M, L, as, r, L', rfl, w, ha, ⟨a0, a1, c, rfl, rfl, hm, rfl, rfl⟩, k⟩ := h
    obtain ⟨u0, u1, rfl, f0, f1⟩ := args2 ha
    replace f0 : ((rTup (rTup (rT2 rInt (rTup (rT2 rInt rInt)))))).is K B u0 a0 := f0
    replace f1 : ((rLst (rT2 rInt (rTup rInt)))).is K B u1 a1 := f1
    unfold m_l_connected at hm
    refine ⟨_, (pss_cons (ps_for PassesOwn.never rfl (pi_list (pv 1)) (pg_tup rfl (pgs_cons (pg_name (i := 2) sc__law_connected.nd rfl (by first | exact Or.inl rfl | exact Or.inr rfl | exact Or.inr (Or.inl rfl) | exact Or.inr (Or.inr rfl))) (pgs_cons (pg_name (i := 3) sc__law_connected.nd rfl (by first | exact Or.inl rfl | exact Or.inr rfl | exact Or.inr (Or.inl rfl) | exact Or.inr (Or.inr rfl))) pgs_nil))) (pss_cons (ps_set (i := 4) sc__law_connected.nd rfl (by first | exact Or.inl rfl | exact Or.inr rfl | exact Or.inr (Or.inl rfl) | exact Or.inr (Or.inr rfl)) (pe_lst (pa_cons (pv 2) pa_nil))) (pss_cons (ps_for PassesOwn.never rfl (pi_range1 rfl z_range (pa_cons (pe_callB call_len_seq rfl z_len bt_len (pa_cons (pv 1) pa_nil)) pa_nil)) (pg_name (i := 5) sc__law_connected.nd rfl (by first | exact Or.inl rfl | exact Or.inr rfl | exact Or.inr (Or.inl rfl) | exact Or.inr (Or.inr rfl))) (pss_cons (ps_for PassesOwn.never rfl (pi_list (pv 1)) (pg_tup rfl (pgs_cons (pg_name (i := 6) sc__law_connected.nd rfl (by first | exact Or.inl rfl | exact Or.inr rfl | exact Or.inr (Or.inl rfl) | exact Or.inr (Or.inr rfl))) (pgs_cons (pg_name (i := 7) sc__law_connected.nd rfl (by first | exact Or.inl rfl | exact Or.inr rfl | exact Or.inr (Or.inl rfl) | exact Or.inr (Or.inr rfl))) pgs_nil))) (Evl.pss_cut (ps_if (pt_cmpR op_in_seq (pv 6) (pv 4) rfl) (pss_cons (ps_for PassesOwn.never rfl (pi_tup (pv 7)) (pg_name (i := 8) sc__law_connected.nd rfl (by first | exact Or.inl rfl | exact Or.inr rfl | exact Or.inr (Or.inl rfl) | exact Or.inr (Or.inr rfl))) (pss_cons (ps_set (i := 4) sc__law_connected.nd rfl (by first | exact Or.inl rfl | exact Or.inr rfl | exact Or.inr (Or.inl rfl) | exact Or.inr (Or.inr rfl)) (pe_op op_cat (pv 4) (pe_lc rfl sc__law_connected.nd (pi_tup (pe_ix ix_seq (pe_ix ix_seq (pe_ix ix_seq (pv 0) (pv 6) (fun _ _ => rfl)) (pv 8) (fun _ _ => rfl)) pe_int (fun _ _ => rfl))) (blkOk_by (own := [("_law_end", 9)]) (show blkC ["_law_system_here", "_law_part_here", "_law_start", "_law_numbers", "_law_found", "_law_k", "_law_one", "_law_own", "_law_number", "_law_end"] (defScope s__law_connected) _ _ = true by decide +kernel)) (fun _ _ _ _ _ => (pg_name (i := 9) sc__law_connected.nd rfl (by first | exact Or.inl rfl | exact Or.inr rfl | exact Or.inr (Or.inl rfl) | exact Or.inr (Or.inr rfl)))) (fun _ _ _ _ _ => (pts_one (pt_cmpR (show OpR _ _ (rIn K true) from op_notIn_seq) (pe_ix (show IxR _ (rIx K) from ix_seq) (pv 9) pe_int (fun _ _ => rfl)) (pv 4) rfl))) (fun _ _ _ _ _ => (pe_ix (show IxR _ (rIx K) from ix_seq) (pv 9) pe_int (fun _ _ => rfl)))))) pss_nil)) pss_nil) pss_nil) pss_nil)) pss_nil)) (pss_cons (ps_if (pt_cmpR op_lt (pe_callB call_len_seq rfl z_len bt_len (pa_cons (pv 4) pa_nil)) (pe_callB call_len_seq rfl z_len bt_len (pa_cons (pv 1) pa_nil)) (nomark _)) (pss_cons (ps_ret pe_bl) pss_nil) pss_nil) pss_nil)))) (pss_cons (ps_ret pe_bl) pss_nil)), ?_⟩
    rw [show start ["_law_system_here", "_law_part_here", "_law_start", "_law_numbers", "_law_found", "_law_k", "_law_one", "_law_own", "_law_number", "_law_end"] [u0, u1] = ([some u0, some u1, none, none, none, none, none, none, none, none] : L2.St) from rfl]
    obtain ⟨o13, e14, hm⟩ := bindS hm
    refine q_forR w (ei_lst (ev_var rfl f1)) _ (fun s10 B15 σ28 => ∃ o29 o30 o31 o32 o33 o34 o35, σ28 = [some u0, some u1, o29, o30, o31, o32, o33, o34, o35, none]) (fun s10 => []) (()) e14 (fun B9 x9 => ⟨_, _, _, _, _, _, _, rfl⟩) rfl ?_ ?_
    · skip
      rintro s10 x11 s223 v21 B15 B16 H17 σ28 hb12 x18 ⟨o29, o30, o31, o32, o33, o34, o35, rfl⟩ x19 w20 h22 ho27 N23 K24 hN25 hB26
      replace w20 : Own K B16 M [] H17 := w20
      refine g_T2 h22 w20 fun v36 v37 h38 h39 => ?_
      refine g_cons ?_
      refine g_name ?_
      refine g_cons ?_
      refine g_name ?_
      refine g_nil ?_
      refine q_asg (n := 4) w20 (ev_frz (el_lst (r := rInt) [x11.1] (ea_cons (ev_varI rfl h38) ea_nil))) fun v41 B40 H40 x40 (w40 : Own K B40 M [] H40) h42 => ?_
      obtain ⟨t43, e44, hb12⟩ := bindS hb12
      obtain ⟨s194, e49, hb12⟩ := bindS hb12
      refine q_fold w40 (ei_rng1 (ea_cons (ev_len (ev_seqL (ev_var rfl (((rLst (rT2 rInt (rTup rInt)))).mono ((x18.trans x19).trans x40) f1)))) ea_nil) e44) _ (fun s45 B50 σ63 => ∃ v64 o66 o67 o68 o69, σ63 = [some u0, some u1, some v36, some v37, some v64, o66, o67, o68, o69, none] ∧ ((rLst rInt)).is K B50 v64 s45) (fun s45 => []) ([x11.1]) e49 (fun B9 x9 => ⟨v41, _, _, _, _, rfl, (((rLst rInt)).mono x9 h42)⟩) rfl ?_ ?_
      · skip
        rintro s45 x46 s209 v56 B50 B51 H52 σ63 hb47 x53 ⟨v64, o66, o67, o68, o69, rfl, h65⟩ x54 w55 h57 N58 K59 hN60
        replace w55 : Own K B51 M [] H52 := w55
        refine g_name ?_
        obtain ⟨s182, e74, hb47⟩ := bindS hb47
        refine q_fold w55 (ei_lst (ev_var rfl (((rLst (rT2 rInt (rTup rInt)))).mono ((((x18.trans x19).trans x40).trans x53).trans x54) f1))) _ (fun s70 B75 σ88 => ∃ v89 o91 o92 o93, σ88 = [some u0, some u1, some v36, some v37, some v89, some v56, o91, o92, o93, none] ∧ ((rLst rInt)).is K B75 v89 s70) (fun s70 => []) s45 e74 (fun B9 x9 => ⟨v64, _, _, _, rfl, (((rLst rInt)).mono x9 (((rLst rInt)).mono x54 h65))⟩) rfl ?_ ?_
        · skip
          rintro s70 x71 s193 v81 B75 B76 H77 σ88 hb72 x78 ⟨v89, o91, o92, o93, rfl, h90⟩ x79 w80 h82 N83 K84 hN85
          replace w80 : Own K B76 M [] H77 := w80
          refine g_T2 h82 w80 fun v94 v95 h96 h97 => ?_
          refine g_cons ?_
          refine g_name ?_
          refine g_cons ?_
          refine g_name ?_
          refine g_nil ?_
          obtain ⟨s99, e100, hb72⟩ := bindS hb72
          refine q_cut (fun σ181 H177 => ∃ v178 o180 B177, Ex B76 B177 ∧ Own K B177 M [] H177 ∧ σ181 = [some u0, some u1, some v36, some v37, some v178, some v56, some v94, some v95, o180, none] ∧ ((rLst rInt)).is K B177 v178 s99) ?_ ?_
          · skip
            refine q_ifc w80 (et_test (ev_inI (ev_varI rfl h96) (ev_seqL (ev_var rfl (((rLst rInt)).mono x79 h90))))) (fun hb98 B101 H101 x101 (w101 : Own K B101 M [] H101) => ?_) (fun hb98 B176 H176 x176 (w176 : Own K B176 M [] H176) => ?_)
            · skip
              rw [if_pos hb98] at e100
              obtain ⟨s166, e106, e100⟩ := bindS e100
              refine q_fold w101 (ei_tup (ev_var rfl (((rTup rInt)).mono x101 h97))) _ (fun s102 B107 σ120 => ∃ v121 o123, σ120 = [some u0, some u1, some v36, some v37, some v121, some v56, some v94, some v95, o123, none] ∧ ((rLst rInt)).is K B107 v121 s102) (fun s102 => []) s70 e106 (fun B9 x9 => ⟨v89, _, rfl, (((rLst rInt)).mono x9 (((rLst rInt)).mono (x79.trans x101) h90))⟩) rfl ?_ ?_
              · skip
                rintro s102 x103 s175 v113 B107 B108 H109 σ120 hb104 x110 ⟨v121, o123, rfl, h122⟩ x111 w112 h114 N115 K116 hN117
                replace w112 : Own K B108 M [] H109 := w112
                refine g_name ?_
                obtain ⟨t124, e125, hb104⟩ := bindS hb104
                obtain ⟨t126, e127, hb104⟩ := bindS hb104
                obtain ⟨t157, e158, hb104⟩ := bindS hb104
                obtain ⟨t159, e160, hb104⟩ := bindS hb104
                obtain ⟨t161, e162, hb104⟩ := bindS hb104
                refine q_asg (n := 4) w112 (ev_frz (el_cat (ev_var rfl (((rLst rInt)).mono x111 h122)) (ev_frz (el_lc (S := Unit) (ys := t159.1) (s1 := t159.2) (s0 := ()) (σ' := [some u0, some u1, some v36, some v37, some v121, some v56, some v94, some v95, some v113, none]) rInt (ei_tup (ev_snd (ev_ix (ev_seqT (ev_ix (ev_seqT (ev_var rfl (((rTup (rTup (rT2 rInt (rTup (rT2 rInt rInt)))))).mono (((((((((x18.trans x19).trans x40).trans x53).trans x54).trans x78).trans x79).trans x101).trans x110).trans x111) f0))) (ev_varI rfl h96) e125)) (ev_varI rfl h114) e127))) _ (fun (s128 : Unit) => []) rfl e160 e158 rfl (by rintro s128 x135 o140 s141 v133 D138 a139 B129 H130 hb137 x131 w132 h134 PY142 PN143 qY144 qN145; replace w132 : Own K B129 M [⟨D138, (cLst rInt), a139⟩] H130 := w132; refine g_name ?_; refine ⟨rfl, ?_⟩; exact (et_test (ev_niI (ev_fst (ev_var rfl h134)) (ev_seqL (ev_var rfl (((rLst rInt)).mono (x111.trans x131) h122))))) B129 H130 (Ex.refl _) w132 _ fun B152 H153 x154 (w155 : Own K B152 M [⟨D138, (cLst rInt), a139⟩] H153) => lc_if (fun hq156 => by rw [if_pos hq156] at hb137; obtain ⟨rfl, rfl⟩ := Prod.mk.inj (Option.some.inj hb137); exact (ev_fst (ev_var rfl (((rT2 rInt rInt)).mono x154 h134))) B152 H153 (Ex.refl _) w155 _ fun v146 B147 H148 x149 w150 h151 => qY144 v146 B147 H148 _ rfl (x154.trans x149) w150 h151) (fun hq156 => by rw [if_neg (by rw [hq156]; exact Bool.false_ne_true)] at hb137; obtain ⟨rfl, rfl⟩ := Prod.mk.inj (Option.some.inj hb137); exact qN145 B152 H153 rfl x154 w155)))) e162)) fun v164 B163 H163 x163 (w163 : Own K B163 M [] H163) h165 => ?_
                replace hb104 : some _ = some _ := hb104
                cases hb104
                exact hN117 _ _ _ x163 w163 ⟨v164, _, rfl, h165⟩
              rintro B167 H168 σ171 x169 w170 ⟨v172, o174, rfl, h173⟩
              replace w170 : Own K B167 M [] H168 := w170
              replace e100 : some _ = some _ := e100
              cases e100
              exact ⟨v172, _, _, (x101.trans x169), w170, rfl, h173⟩
            rw [if_neg (by rw [hb98]; exact Bool.false_ne_true)] at e100
            replace e100 : some _ = some _ := e100
            cases e100
            exact ⟨v89, _, _, x176, w176, rfl, (((rLst rInt)).mono (x79.trans x176) h90)⟩
          rintro σ181' H177 ⟨v178, o180, B177, x177, w177, rfl, h179⟩
          replace hb72 : some _ = some _ := hb72
          cases hb72
          exact hN85 _ _ _ x177 w177 ⟨v178, _, _, _, rfl, h179⟩
        rintro B183 H184 σ187 x185 w186 ⟨v188, o190, o191, o192, rfl, h189⟩
        replace w186 : Own K B183 M [] H184 := w186
        replace hb47 : some _ = some _ := hb47
        cases hb47
        exact hN60 _ _ _ x185 w186 ⟨v188, _, _, _, _, rfl, h189⟩
      rintro B195 H196 σ199 x197 w198 ⟨v200, o202, o203, o204, o205, rfl, h201⟩
      replace w198 : Own K B195 M [] H196 := w198
      refine q_if w198 (et_test (ev_lt (ev_len (ev_seqL (ev_var rfl h201))) (ev_len (ev_seqL (ev_var rfl (((rLst (rT2 rInt (rTup rInt)))).mono (((x18.trans x19).trans x40).trans x197) f1)))))) (fun hb206 B207 H207 x207 (w207 : Own K B207 M [] H207) => ?_) (fun hb206 B208 H208 x208 (w208 : Own K B208 M [] H208) => ?_)
      · skip
        rw [if_pos hb206] at hb12
        replace hb12 : some _ = some _ := hb12
        obtain rfl := Option.some.inj hb12
        obtain rfl := ho27 _ rfl
        replace hm : some _ = some _ := hm
        obtain rfl := Option.some.inj hm
        exact q_ret w207 (ev_bl (b := false)) fun v9 B9 H9 x9 w9 h9 => k _ _ _ (((((x18.trans x19).trans x40).trans x197).trans x207).trans x9) w9 h9
      rw [if_neg (by rw [hb206]; exact Bool.false_ne_true)] at hb12
      replace hb12 : some _ = some _ := hb12
      cases hb12
      exact hN25 _ _ _ _ rfl ((x40.trans x197).trans x208) w208 ⟨_, _, _, _, _, _, _, rfl⟩
    rintro s210 B211 H212 σ215 rfl x213 w214 ⟨o216, o217, o218, o219, o220, o221, o222, rfl⟩
    dsimp only at hm
    replace w214 : Own K B211 M [] H212 := w214
    replace hm : some _ = some _ := hm
    obtain rfl := Option.some.inj hm
    exact q_ret w214 (ev_bl (b := true)) fun v9 B9 H9 x9 w9 h9 => k _ _ _ (x213.trans x9) w9 h9
noncomputable def m_l_due (a0 : (List (List (Int × (List (Int × Int)))))) : Option (List (List (Int × (List Int)))) :=
  Option.bind (small62 ((a0.length : Int))) fun t15 =>
  Option.bind (foldO (S := (List (List Int))) (α := Int) (fun (s17 : (List (List Int))) (x18 : Int) => (
    Option.bind (room s17.length) fun t65 =>
    Option.bind (compM (S := Unit) (β := (List Int)) (fun (s39 : Unit) (x46 : (List Int)) => (Option.bind (catT x46 ([x18])) fun t63 => some (some t63, ()))) (()) s17) fun t67 =>
    Option.bind (catT s17 t67.1) fun t69 =>
    some t69
  )) ([([] : List Int)]) ((rng 0 ((a0.length : Int))))) fun s74 =>
  Option.bind (foldO (S := (List ((List Int) × (List (Int × (List Int)))))) (α := (List Int)) (fun (s83 : (List ((List Int) × (List (Int × (List Int)))))) (x84 : (List Int)) => (
    Option.bind (m_l_part a0 x84) fun t104 =>
    Option.bind ((if t104.isSome = true then (Option.bind (t104) fun t109 => Option.bind (m_l_connected a0 t109) fun t111 => some (t111)) else (some (false)))) fun t113 =>
    Option.bind (if t113 = true then
      Option.bind (t104) fun t120 =>
      Option.bind (room s83.length) fun t122 =>
      some ((s83 ++ [(x84, t120)]))
    else
      some s83
    ) fun (s117 : (List ((List Int) × (List (Int × (List Int)))))) =>
    some s117
  )) (([] : List ((List Int) × (List (Int × (List Int)))))) ((cutL s74 (some ((1 : Int))) none))) fun s128 =>
  Option.bind (foldO (S := (List (List (Int × (List Int))))) (α := ((List Int) × (List (Int × (List Int))))) (fun (s142 : (List (List (Int × (List Int))))) (x143 : ((List Int) × (List (Int × (List Int))))) => (
    Option.bind (foldO (S := Int) (α := ((List Int) × (List (Int × (List Int))))) (fun (s173 : Int) (x174 : ((List Int) × (List (Int × (List Int))))) => (
      Option.bind ((if (decide ((x174.1.length : Int) > (x143.1.length : Int))) = true then (Option.bind (room x143.1.length) fun t229 => Option.bind (compM (S := Unit) (β := Int) (fun (s200 : Unit) (x207 : Int) => ( if (!decide (x207 ∈ x174.1)) = true then ( some (some x207, ())) else some (none, ()))) (()) x143.1) fun t231 => some ((decide ((t231.1.length : Int) = (0 : Int))))) else (some (false)))) fun t233 =>
      Option.bind (if t233 = true then
        some ((s173 + (1 : Int)))
      else
        some s173
      ) fun (s237 : Int) =>
      some s237
    )) ((0 : Int)) s128) fun s248 =>
    Option.bind (if (decide (s248 = (0 : Int))) = true then
      Option.bind (room s142.length) fun t262 =>
      some ((s142 ++ [x143.2]))
    else
      some s142
    ) fun (s259 : (List (List (Int × (List Int))))) =>
    some s259
  )) (([] : List (List (Int × (List Int))))) s128) fun s269 =>
  some (sortBy ((dLst (dT2 PyData.int (dTup PyData.int)))) s269)
def C__law_due : List Arg → List Cell → Arg → List Cell → Prop := fun as L r L' => ∃ a0 c, as = [⟨(rTup (rTup (rT2 rInt (rTup (rT2 rInt rInt))))), a0⟩] ∧ L = [] ∧ m_l_due a0 = some c ∧ r = ⟨(rLst (rLst (rT2 rInt (rTup rInt)))), c⟩ ∧ L' = []
theorem sc__law_due : FnScope ["_law_system_here", "_law_parts", "_law_sets", "_law_k", "_law_states", "_law_part_here", "_law_found", "_law_wider", "_law_other", "_law_own"] ["_law_system_here"] (defScope s__law_due) := ⟨rfl, rfl, rfl, by decide +kernel, rfl, by decide +kernel, by decide +kernel⟩
set_option maxHeartbeats 0 in
theorem ok__law_due (F : FunC K "_law_due" s__law_due f fd cc) (c__law_part : Cl P w K mg base 1 "_law_part" (spV K T C__law_part) []) (c__law_connected : Cl P w K mg base 1 "_law_connected" (spV K T C__law_connected) []) (z_range : mg "range" = none) (z_len : mg "len" = none) (z_sorted : mg "sorted" = none) : FnOk P w K mg base CX0 2 f fd ["_law_system_here"] (spV K T C__law_due) := by
  refine F.ok sc__law_due (fun vs H Q E h => ?_) (fun A outer s H vs Q E hr h => ?_)
  · obtain ⟨B, M, L, as, r, L', hT, w, ha, ⟨_, _, rfl, _⟩, k⟩ := h
    exact args_len ha
  · skip
    obtain ⟨B, M, L, as, r, L', rfl, w, ha, ⟨a0, c, rfl, rfl, hm, rfl, rfl⟩, k⟩ := h
    obtain ⟨u0, rfl, f0⟩ := args1 ha
    replace f0 : ((rTup (rTup (rT2 rInt (rTup (rT2 rInt rInt)))))).is K B u0 a0 := f0
    unfold m_l_due at hm
    refine ⟨_, (pss_cons (ps_set (i := 1) sc__law_due.nd rfl (by first | exact Or.inl rfl | exact Or.inr rfl | exact Or.inr (Or.inl rfl) | exact Or.inr (Or.inr rfl)) (pe_lst pa_nil)) (pss_cons (ps_set (i := 2) sc__law_due.nd rfl (by first | exact Or.inl rfl | exact Or.inr rfl | exact Or.inr (Or.inl rfl) | exact Or.inr (Or.inr rfl)) (pe_lst (pa_cons (pe_lst pa_nil) pa_nil))) (pss_cons (ps_for PassesOwn.never rfl (pi_range1 rfl z_range (pa_cons (pe_callB call_len_seq rfl z_len bt_len (pa_cons (pv 0) pa_nil)) pa_nil)) (pg_name (i := 3) sc__law_due.nd rfl (by first | exact Or.inl rfl | exact Or.inr rfl | exact Or.inr (Or.inl rfl) | exact Or.inr (Or.inr rfl))) (pss_cons (ps_set (i := 2) sc__law_due.nd rfl (by first | exact Or.inl rfl | exact Or.inr rfl | exact Or.inr (Or.inl rfl) | exact Or.inr (Or.inr rfl)) (pe_op op_cat (pv 2) (pe_lc rfl sc__law_due.nd (pi_list (pv 2)) (blkOk_by (own := [("_law_states", 4)]) (show blkC ["_law_system_here", "_law_parts", "_law_sets", "_law_k", "_law_states", "_law_part_here", "_law_found", "_law_wider", "_law_other", "_law_own"] (defScope s__law_due) _ _ = true by decide +kernel)) (fun _ _ _ _ _ => (pg_name (i := 4) sc__law_due.nd rfl (by first | exact Or.inl rfl | exact Or.inr rfl | exact Or.inr (Or.inl rfl) | exact Or.inr (Or.inr rfl)))) (fun _ _ _ _ _ => pts_nil) (fun _ _ _ _ _ => (pe_op op_cat (pv 4) (pe_lst (pa_cons (pv 3) pa_nil))))))) pss_nil)) (pss_cons (ps_for PassesOwn.never rfl (pi_list (pe_slice sl_list (pv 2) (po_some pe_int) po_none)) (pg_name (i := 4) sc__law_due.nd rfl (by first | exact Or.inl rfl | exact Or.inr rfl | exact Or.inr (Or.inl rfl) | exact Or.inr (Or.inr rfl))) (pss_cons (ps_set (i := 5) sc__law_due.nd rfl (by first | exact Or.inl rfl | exact Or.inr rfl | exact Or.inr (Or.inl rfl) | exact Or.inr (Or.inr rfl)) (pe_c c__law_part hr (by omega) rfl (pa_cons (pv 0) (pa_cons (pv 4) pa_nil)))) (Evl.pss_cut (ps_if (PW.pt (pw_and (pt_cmp (pc_notN (pv 5))) (pw_and1 (pt_val (pe_c c__law_connected hr (by omega) rfl (pa_cons (pv 0) (pa_cons (pv 5) pa_nil))))))) (pss_cons (ps_expr (pe_bm PySem.F.plainAttrs_list PySem.F.slot_list_append PySem.F.type_list_append mt_append (pv 1) (pa_cons (pe_tup (pa_cons (pv 4) (pa_cons (pv 5) pa_nil))) pa_nil))) pss_nil) pss_nil) pss_nil))) (pss_cons (ps_set (i := 6) sc__law_due.nd rfl (by first | exact Or.inl rfl | exact Or.inr rfl | exact Or.inr (Or.inl rfl) | exact Or.inr (Or.inr rfl)) (pe_lst pa_nil)) (pss_cons (ps_for PassesOwn.never rfl (pi_list (pv 1)) (pg_tup rfl (pgs_cons (pg_name (i := 4) sc__law_due.nd rfl (by first | exact Or.inl rfl | exact Or.inr rfl | exact Or.inr (Or.inl rfl) | exact Or.inr (Or.inr rfl))) (pgs_cons (pg_name (i := 5) sc__law_due.nd rfl (by first | exact Or.inl rfl | exact Or.inr rfl | exact Or.inr (Or.inl rfl) | exact Or.inr (Or.inr rfl))) pgs_nil))) (pss_cons (ps_set (i := 7) sc__law_due.nd rfl (by first | exact Or.inl rfl | exact Or.inr rfl | exact Or.inr (Or.inl rfl) | exact Or.inr (Or.inr rfl)) pe_int) (pss_cons (ps_for PassesOwn.never rfl (pi_list (pv 1)) (pg_tup rfl (pgs_cons (pg_name (i := 8) sc__law_due.nd rfl (by first | exact Or.inl rfl | exact Or.inr rfl | exact Or.inr (Or.inl rfl) | exact Or.inr (Or.inr rfl))) (pgs_cons (pg_name (i := 9) sc__law_due.nd rfl (by first | exact Or.inl rfl | exact Or.inr rfl | exact Or.inr (Or.inl rfl) | exact Or.inr (Or.inr rfl))) pgs_nil))) (Evl.pss_cut (ps_if (PW.pt (pw_and (pt_cmpR op_gt (pe_callB call_len_seq rfl z_len bt_len (pa_cons (pv 8) pa_nil)) (pe_callB call_len_seq rfl z_len bt_len (pa_cons (pv 4) pa_nil)) (nomark _)) (pw_and1 (pt_cmpR op_eq (pe_callB call_len_seq rfl z_len bt_len (pa_cons (pe_lc rfl sc__law_due.nd (pi_list (pv 4)) (blkOk_by (own := [("_law_k", 3)]) (show blkC ["_law_system_here", "_law_parts", "_law_sets", "_law_k", "_law_states", "_law_part_here", "_law_found", "_law_wider", "_law_other", "_law_own"] (defScope s__law_due) _ _ = true by decide +kernel)) (fun _ _ _ _ _ => (pg_name (i := 3) sc__law_due.nd rfl (by first | exact Or.inl rfl | exact Or.inr rfl | exact Or.inr (Or.inl rfl) | exact Or.inr (Or.inr rfl)))) (fun _ _ _ _ _ => (pts_one (pt_cmpR (show OpR _ _ (rIn K true) from op_notIn_seq) (pv 3) (pv 8) rfl))) (fun _ _ _ _ _ => (pv 3))) pa_nil)) pe_int (nomark _))))) (pss_cons (ps_set (i := 7) sc__law_due.nd rfl (by first | exact Or.inl rfl | exact Or.inr rfl | exact Or.inr (Or.inl rfl) | exact Or.inr (Or.inr rfl)) (pe_op op_add (pv 7) pe_int)) pss_nil) pss_nil) pss_nil)) (Evl.pss_cut (ps_if (pt_cmpR op_eq (pv 7) pe_int (nomark _)) (pss_cons (ps_expr (pe_bm PySem.F.plainAttrs_list PySem.F.slot_list_append PySem.F.type_list_append mt_append (pv 6) (pa_cons (pv 5) pa_nil))) pss_nil) pss_nil) pss_nil)))) (pss_cons (ps_ret (pe_callB (L3G.cr_sortDat (room_hu hr)) rfl z_sorted bt_sorted (pa_cons (pv 6) pa_nil))) pss_nil))))))), ?_⟩
    rw [show start ["_law_system_here", "_law_parts", "_law_sets", "_law_k", "_law_states", "_law_part_here", "_law_found", "_law_wider", "_law_other", "_law_own"] [u0] = ([some u0, none, none, none, none, none, none, none, none, none] : L2.St) from rfl]
    refine q_asgL (n := 1) w (el_lst (r := (rT2 (rLst rInt) (rLst (rT2 rInt (rTup rInt))))) ([] : List ((List Int) × (List (Int × (List Int))))) ea_nil) fun p11 B10 H10 x10 (w10 : Own K B10 M [⟨p11, (cLst (rT2 (rLst rInt) (rLst (rT2 rInt (rTup rInt))))), ([] : List ((List Int) × (List (Int × (List Int)))))⟩] H10) => ?_
    refine q_asg (n := 2) w10 (ev_frz (el_lst (r := (rLst rInt)) [([] : List Int)] (ea_cons (ev_frz (el_lst (r := rInt) ([] : List Int) ea_nil)) ea_nil))) fun v13 B12 H12 x12 (w12 : Own K B12 M [⟨p11, (cLst (rT2 (rLst rInt) (rLst (rT2 rInt (rTup rInt))))), ([] : List ((List Int) × (List (Int × (List Int)))))⟩] H12) h14 => ?_
    obtain ⟨t15, e16, hm⟩ := bindS hm
    obtain ⟨s74, e21, hm⟩ := bindS hm
    refine q_fold w12 (ei_rng1 (ea_cons (ev_len (ev_seqT (ev_var rfl (((rTup (rTup (rT2 rInt (rTup (rT2 rInt rInt)))))).mono (x10.trans x12) f0)))) ea_nil) e16) _ (fun s17 B22 σ35 => ∃ v36 o38, σ35 = [some u0, some (.ref p11), some v36, o38, none, none, none, none, none, none] ∧ ((rLst (rLst rInt))).is K B22 v36 s17) (fun s17 => [⟨p11, (cLst (rT2 (rLst rInt) (rLst (rT2 rInt (rTup rInt))))), ([] : List ((List Int) × (List (Int × (List Int)))))⟩]) ([([] : List Int)]) e21 (fun B9 x9 => ⟨v13, _, rfl, (((rLst (rLst rInt))).mono x9 h14)⟩) rfl ?_ ?_
    · skip
      rintro s17 x18 s286 v28 B22 B23 H24 σ35 hb19 x25 ⟨v36, o38, rfl, h37⟩ x26 w27 h29 N30 K31 hN32
      replace w27 : Own K B23 M [⟨p11, (cLst (rT2 (rLst rInt) (rLst (rT2 rInt (rTup rInt))))), ([] : List ((List Int) × (List (Int × (List Int)))))⟩] H24 := w27
      refine g_name ?_
      obtain ⟨t65, e66, hb19⟩ := bindS hb19
      obtain ⟨t67, e68, hb19⟩ := bindS hb19
      obtain ⟨t69, e70, hb19⟩ := bindS hb19
      refine q_asg (n := 2) w27 (ev_frz (el_cat (ev_var rfl (((rLst (rLst rInt))).mono x26 h37)) (ev_frz (el_lc (S := Unit) (ys := t67.1) (s1 := t67.2) (s0 := ()) (σ' := [some u0, some (.ref p11), some v36, some v28, none, none, none, none, none, none]) (rLst rInt) (ei_lst (ev_var rfl (((rLst (rLst rInt))).mono x26 h37))) _ (fun (s39 : Unit) => [⟨p11, (cLst (rT2 (rLst rInt) (rLst (rT2 rInt (rTup rInt))))), ([] : List ((List Int) × (List (Int × (List Int)))))⟩]) rfl e68 e66 rfl (by rintro s39 x46 o51 s52 v44 D49 a50 B40 H41 hb48 x42 w43 h45 PY53 PN54 qY55 qN56; replace w43 : Own K B40 M [⟨D49, (cLst (rLst rInt)), a50⟩, ⟨p11, (cLst (rT2 (rLst rInt) (rLst (rT2 rInt (rTup rInt))))), ([] : List ((List Int) × (List (Int × (List Int)))))⟩] H41 := w43; refine g_name ?_; refine ⟨rfl, ?_⟩; obtain ⟨t63, e64, hb48⟩ := bindS hb48; obtain ⟨rfl, rfl⟩ := Prod.mk.inj (Option.some.inj hb48); refine lc_yes ?_; exact (ev_frz (el_cat (ev_var rfl h45) (ev_frz (el_lst (r := rInt) [x18] (ea_cons (ev_varI rfl h29) ea_nil))) e64)) B40 H41 (Ex.refl _) w43 _ fun v57 B58 H59 x60 w61 h62 => qY55 v57 B58 H59 _ rfl x60 w61 h62))) e70)) fun v72 B71 H71 x71 (w71 : Own K B71 M [⟨p11, (cLst (rT2 (rLst rInt) (rLst (rT2 rInt (rTup rInt))))), ([] : List ((List Int) × (List (Int × (List Int)))))⟩] H71) h73 => ?_
      replace hb19 : some _ = some _ := hb19
      cases hb19
      exact hN32 _ _ _ x71 w71 ⟨v72, _, rfl, h73⟩
    rintro B75 H76 σ79 x77 w78 ⟨v80, o82, rfl, h81⟩
    replace w78 : Own K B75 M [⟨p11, (cLst (rT2 (rLst rInt) (rLst (rT2 rInt (rTup rInt))))), ([] : List ((List Int) × (List (Int × (List Int)))))⟩] H76 := w78
    obtain ⟨s128, e87, hm⟩ := bindS hm
    refine q_fold w78 (ei_lst (ev_frz (el_slL (ev_var rfl h81) (eo_some (ev_int (i := 1))) eo_none))) _ (fun s83 B88 σ101 => ∃ o102 o103, σ101 = [some u0, some (.ref p11), some v80, o82, o102, o103, none, none, none, none]) (fun s83 => [⟨p11, (cLst (rT2 (rLst rInt) (rLst (rT2 rInt (rTup rInt))))), s83⟩]) (([] : List ((List Int) × (List (Int × (List Int)))))) e87 (fun B9 x9 => ⟨_, _, rfl⟩) rfl ?_ ?_
    · skip
      rintro s83 x84 s285 v94 B88 B89 H90 σ101 hb85 x91 ⟨o102, o103, rfl⟩ x92 w93 h95 N96 K97 hN98
      replace w93 : Own K B89 M [⟨p11, (cLst (rT2 (rLst rInt) (rLst (rT2 rInt (rTup rInt))))), s83⟩] H90 := w93
      refine g_name ?_
      obtain ⟨t104, e105, hb85⟩ := bindS hb85
      refine q_asg (n := 5) w93 (ev_call (ea_cons (ev_var rfl (((rTup (rTup (rT2 rInt (rTup (rT2 rInt rInt)))))).mono ((((x10.trans x12).trans x77).trans x91).trans x92) f0)) (ea_cons (ev_var rfl h95) ea_nil)) ⟨_, _, _, rfl, rfl, e105, rfl, rfl⟩) fun v107 B106 H106 x106 (w106 : Own K B106 M [⟨p11, (cLst (rT2 (rLst rInt) (rLst (rT2 rInt (rTup rInt))))), s83⟩] H106) h108 => ?_
      obtain ⟨t113, e114, hb85⟩ := bindS hb85
      obtain ⟨s117, e118, hb85⟩ := bindS hb85
      refine q_cut (fun σ127 H126 => ∃ B126, Ex B106 B126 ∧ Own K B126 M [⟨p11, (cLst (rT2 (rLst rInt) (rLst (rT2 rInt (rTup rInt))))), s117⟩] H126 ∧ σ127 = [some u0, some (.ref p11), some v80, o82, some v94, some v107, none, none, none, none]) ?_ ?_
      · skip
        refine q_ifc w106 (et_and' (d := t113) (et_B (ev_notN (ev_var rfl h108) (fun _ => nn_rLst))) (fun hb115 => by rw [if_pos hb115] at e114; obtain ⟨t109, e110, e114⟩ := bindS e114; obtain ⟨t111, e112, e114⟩ := bindS e114; obtain rfl := Option.some.inj e114; exact (et_B (ev_call (ea_cons (ev_var rfl (((rTup (rTup (rT2 rInt (rTup (rT2 rInt rInt)))))).mono (((((x10.trans x12).trans x77).trans x91).trans x92).trans x106) f0)) (ea_cons (ev_get (ev_var rfl h108) e110) ea_nil)) ⟨_, _, _, rfl, rfl, e112, rfl, rfl⟩))) (fun hb115 => by rw [if_neg (by rw [hb115]; exact Bool.false_ne_true)] at e114; obtain rfl := Option.some.inj e114; exact ⟨rfl, rfl⟩)) (fun hb116 B119 H119 x119 (w119 : Own K B119 M [⟨p11, (cLst (rT2 (rLst rInt) (rLst (rT2 rInt (rTup rInt))))), s83⟩] H119) => ?_) (fun hb116 B125 H125 x125 (w125 : Own K B125 M [⟨p11, (cLst (rT2 (rLst rInt) (rLst (rT2 rInt (rTup rInt))))), s83⟩] H125) => ?_)
        · skip
          rw [if_pos hb116] at e118
          obtain ⟨t120, e121, e118⟩ := bindS e118
          obtain ⟨t122, e123, e118⟩ := bindS e118
          refine q_app (n := 0) (m := 1) w119 rfl (ev_T2 (ea_cons (ev_var rfl (((rLst rInt)).mono (x106.trans x119) h95)) (ea_cons (ev_get (ev_var rfl (((rOpt (rLst (rT2 rInt (rTup rInt))))).mono x119 h108)) e121) ea_nil))) rfl ⟨0, _, rfl⟩ e123 fun B124 H124 x124 (w124 : Own K B124 M [⟨p11, (cLst (rT2 (rLst rInt) (rLst (rT2 rInt (rTup rInt))))), (s83 ++ [(x84, t120)])⟩] H124) => ?_
          replace e118 : some _ = some _ := e118
          cases e118
          exact ⟨_, (x119.trans x124), w124, rfl⟩
        rw [if_neg (by rw [hb116]; exact Bool.false_ne_true)] at e118
        replace e118 : some _ = some _ := e118
        cases e118
        exact ⟨_, x125, w125, rfl⟩
      rintro σ127' H126 ⟨B126, x126, w126, rfl⟩
      replace hb85 : some _ = some _ := hb85
      cases hb85
      exact hN98 _ _ _ (x106.trans x126) w126 ⟨_, _, rfl⟩
    rintro B129 H130 σ133 x131 w132 ⟨o134, o135, rfl⟩
    replace w132 : Own K B129 M [⟨p11, (cLst (rT2 (rLst rInt) (rLst (rT2 rInt (rTup rInt))))), s128⟩] H130 := w132
    refine q_asgL (n := 6) w132 (el_lst (r := (rLst (rT2 rInt (rTup rInt)))) ([] : List (List (Int × (List Int)))) ea_nil) fun p137 B136 H136 x136 (w136 : Own K B136 M [⟨p137, (cLst (rLst (rT2 rInt (rTup rInt)))), ([] : List (List (Int × (List Int))))⟩, ⟨p11, (cLst (rT2 (rLst rInt) (rLst (rT2 rInt (rTup rInt))))), s128⟩] H136) => ?_
    obtain ⟨B138, x139, w140, h141⟩ := frz_step (n := 1) w136 rfl
    replace w140 : Own K B138 M [⟨p137, (cLst (rLst (rT2 rInt (rTup rInt)))), ([] : List (List (Int × (List Int))))⟩] H136 := w140
    obtain ⟨s269, e146, hm⟩ := bindS hm
    refine q_fold w140 (ei_lst (ev_var rfl h141)) _ (fun s142 B147 σ160 => ∃ o161 o162 o163 o164 o165, σ160 = [some u0, some (.ref p11), some v80, o82, o161, o162, some (.ref p137), o163, o164, o165]) (fun s142 => [⟨p137, (cLst (rLst (rT2 rInt (rTup rInt)))), s142⟩]) (([] : List (List (Int × (List Int))))) e146 (fun B9 x9 => ⟨_, _, _, _, _, rfl⟩) rfl ?_ ?_
    · skip
      rintro s142 x143 s284 v153 B147 B148 H149 σ160 hb144 x150 ⟨o161, o162, o163, o164, o165, rfl⟩ x151 w152 h154 N155 K156 hN157
      replace w152 : Own K B148 M [⟨p137, (cLst (rLst (rT2 rInt (rTup rInt)))), s142⟩] H149 := w152
      refine g_T2 h154 w152 fun v166 v167 h168 h169 => ?_
      refine g_cons ?_
      refine g_name ?_
      refine g_cons ?_
      refine g_name ?_
      refine g_nil ?_
      refine q_asg (n := 7) w152 (ev_int (i := 0)) fun v171 B170 H170 x170 (w170 : Own K B170 M [⟨p137, (cLst (rLst (rT2 rInt (rTup rInt)))), s142⟩] H170) h172 => ?_
      obtain ⟨s248, e177, hb144⟩ := bindS hb144
      refine q_fold w170 (ei_lst (ev_var rfl (((rLst (rT2 (rLst rInt) (rLst (rT2 rInt (rTup rInt)))))).mono ((x150.trans x151).trans x170) h141))) _ (fun s173 B178 σ191 => ∃ v192 o194 o195, σ191 = [some u0, some (.ref p11), some v80, o82, some v166, some v167, some (.ref p137), some v192, o194, o195] ∧ (rInt).is K B178 v192 s173) (fun s173 => [⟨p137, (cLst (rLst (rT2 rInt (rTup rInt)))), s142⟩]) ((0 : Int)) e177 (fun B9 x9 => ⟨v171, _, _, rfl, ((rInt).mono x9 h172)⟩) rfl ?_ ?_
      · skip
        rintro s173 x174 s268 v184 B178 B179 H180 σ191 hb175 x181 ⟨v192, o194, o195, rfl, h193⟩ x182 w183 h185 N186 K187 hN188
        replace w183 : Own K B179 M [⟨p137, (cLst (rLst (rT2 rInt (rTup rInt)))), s142⟩] H180 := w183
        refine g_T2 h185 w183 fun v196 v197 h198 h199 => ?_
        refine g_cons ?_
        refine g_name ?_
        refine g_cons ?_
        refine g_name ?_
        refine g_nil ?_
        obtain ⟨t233, e234, hb175⟩ := bindS hb175
        obtain ⟨s237, e238, hb175⟩ := bindS hb175
        refine q_cut (fun σ247 H244 => ∃ v245 B244, Ex B179 B244 ∧ Own K B244 M [⟨p137, (cLst (rLst (rT2 rInt (rTup rInt)))), s142⟩] H244 ∧ σ247 = [some u0, some (.ref p11), some v80, o82, some v166, some v167, some (.ref p137), some v245, some v196, some v197] ∧ (rInt).is K B244 v245 s237) ?_ ?_
        · skip
          refine q_ifc w183 (et_and' (d := t233) (et_test (ev_gt (ev_len (ev_seqL (ev_var rfl h198))) (ev_len (ev_seqL (ev_var rfl (((rLst rInt)).mono ((x170.trans x181).trans x182) h168)))))) (fun hb235 => by rw [if_pos hb235] at e234; obtain ⟨t229, e230, e234⟩ := bindS e234; obtain ⟨t231, e232, e234⟩ := bindS e234; obtain rfl := Option.some.inj e234; exact (et_test (ev_eqI (ev_len (ev_seqL (ev_frz (el_lc (S := Unit) (ys := t231.1) (s1 := t231.2) (s0 := ()) (σ' := [some u0, some (.ref p11), some v80, none, some v166, some v167, some (.ref p137), some v192, some v196, some v197]) rInt (ei_lst (ev_var rfl (((rLst rInt)).mono ((x170.trans x181).trans x182) h168))) _ (fun (s200 : Unit) => [⟨p137, (cLst (rLst (rT2 rInt (rTup rInt)))), s142⟩]) rfl e232 e230 rfl (by rintro s200 x207 o212 s213 v205 D210 a211 B201 H202 hb209 x203 w204 h206 PY214 PN215 qY216 qN217; replace w204 : Own K B201 M [⟨D210, (cLst rInt), a211⟩, ⟨p137, (cLst (rLst (rT2 rInt (rTup rInt)))), s142⟩] H202 := w204; refine g_name ?_; refine ⟨rfl, ?_⟩; exact (et_test (ev_niI (ev_varI rfl h206) (ev_seqL (ev_var rfl (((rLst rInt)).mono x203 h198))))) B201 H202 (Ex.refl _) w204 _ fun B224 H225 x226 (w227 : Own K B224 M [⟨D210, (cLst rInt), a211⟩, ⟨p137, (cLst (rLst (rT2 rInt (rTup rInt)))), s142⟩] H225) => lc_if (fun hq228 => by rw [if_pos hq228] at hb209; obtain ⟨rfl, rfl⟩ := Prod.mk.inj (Option.some.inj hb209); exact (ev_varI rfl h206) B224 H225 (Ex.refl _) w227 _ fun v218 B219 H220 x221 w222 h223 => qY216 v218 B219 H220 _ rfl (x226.trans x221) w222 h223) (fun hq228 => by rw [if_neg (by rw [hq228]; exact Bool.false_ne_true)] at hb209; obtain ⟨rfl, rfl⟩ := Prod.mk.inj (Option.some.inj hb209); exact qN217 B224 H225 rfl x226 w227)))))) (ev_int (i := 0))))) (fun hb235 => by rw [if_neg (by rw [hb235]; exact Bool.false_ne_true)] at e234; obtain rfl := Option.some.inj e234; exact ⟨rfl, rfl⟩)) (fun hb236 B239 H239 x239 (w239 : Own K B239 M [⟨p137, (cLst (rLst (rT2 rInt (rTup rInt)))), s142⟩] H239) => ?_) (fun hb236 B243 H243 x243 (w243 : Own K B243 M [⟨p137, (cLst (rLst (rT2 rInt (rTup rInt)))), s142⟩] H243) => ?_)
          · skip
            rw [if_pos hb236] at e238
            refine q_asg (n := 7) w239 (ev_add (ev_varI rfl h193) (ev_int (i := 1))) fun v241 B240 H240 x240 (w240 : Own K B240 M [⟨p137, (cLst (rLst (rT2 rInt (rTup rInt)))), s142⟩] H240) h242 => ?_
            replace e238 : some _ = some _ := e238
            cases e238
            exact ⟨v241, _, (x239.trans x240), w240, rfl, h242⟩
          rw [if_neg (by rw [hb236]; exact Bool.false_ne_true)] at e238
          replace e238 : some _ = some _ := e238
          cases e238
          exact ⟨v192, _, x243, w243, rfl, ((rInt).mono (x182.trans x243) h193)⟩
        rintro σ247' H244 ⟨v245, B244, x244, w244, rfl, h246⟩
        replace hb175 : some _ = some _ := hb175
        cases hb175
        exact hN188 _ _ _ x244 w244 ⟨v245, _, _, rfl, h246⟩
      rintro B249 H250 σ253 x251 w252 ⟨v254, o256, o257, rfl, h255⟩
      replace w252 : Own K B249 M [⟨p137, (cLst (rLst (rT2 rInt (rTup rInt)))), s142⟩] H250 := w252
      obtain ⟨s259, e260, hb144⟩ := bindS hb144
      refine q_cut (fun σ267 H266 => ∃ B266, Ex B249 B266 ∧ Own K B266 M [⟨p137, (cLst (rLst (rT2 rInt (rTup rInt)))), s259⟩] H266 ∧ σ267 = [some u0, some (.ref p11), some v80, o82, some v166, some v167, some (.ref p137), some v254, o256, o257]) ?_ ?_
      · skip
        refine q_ifc w252 (et_test (ev_eqI (ev_varI rfl h255) (ev_int (i := 0)))) (fun hb258 B261 H261 x261 (w261 : Own K B261 M [⟨p137, (cLst (rLst (rT2 rInt (rTup rInt)))), s142⟩] H261) => ?_) (fun hb258 B265 H265 x265 (w265 : Own K B265 M [⟨p137, (cLst (rLst (rT2 rInt (rTup rInt)))), s142⟩] H265) => ?_)
        · skip
          rw [if_pos hb258] at e260
          obtain ⟨t262, e263, e260⟩ := bindS e260
          refine q_app (n := 0) (m := 6) w261 rfl (ev_var rfl (((rLst (rT2 rInt (rTup rInt)))).mono ((x170.trans x251).trans x261) h169)) rfl ⟨0, _, rfl⟩ e263 fun B264 H264 x264 (w264 : Own K B264 M [⟨p137, (cLst (rLst (rT2 rInt (rTup rInt)))), (s142 ++ [x143.2])⟩] H264) => ?_
          replace e260 : some _ = some _ := e260
          cases e260
          exact ⟨_, (x261.trans x264), w264, rfl⟩
        rw [if_neg (by rw [hb258]; exact Bool.false_ne_true)] at e260
        replace e260 : some _ = some _ := e260
        cases e260
        exact ⟨_, x265, w265, rfl⟩
      rintro σ267' H266 ⟨B266, x266, w266, rfl⟩
      replace hb144 : some _ = some _ := hb144
      cases hb144
      exact hN157 _ _ _ ((x170.trans x251).trans x266) w266 ⟨_, _, _, _, _, rfl⟩
    rintro B270 H271 σ274 x272 w273 ⟨o275, o276, o277, o278, o279, rfl⟩
    replace w273 : Own K B270 M [⟨p137, (cLst (rLst (rT2 rInt (rTup rInt)))), s269⟩] H271 := w273
    obtain ⟨B280, x281, w282, h283⟩ := frz_step (n := 0) w273 rfl
    replace w282 : Own K B280 M [] H271 := w282
    replace hm : some _ = some _ := hm
    obtain rfl := Option.some.inj hm
    exact q_ret w282 (ev_frz (el_sortDat (dr_lst (dr_T2 dr_int (dr_tup dr_int))) (by decide) (da_lst (da_T2 da_int (da_tup da_int))) so_lst (ev_var rfl h283))) fun v9 B9 H9 x9 w9 h9 => k _ _ _ ((((((((x10.trans x12).trans x77).trans x131).trans x136).trans x139).trans x272).trans x281).trans x9) w9 h9
noncomputable def m_law (a0 : (List Int)) : Option Bool :=
  Option.bind (m_l_tape a0) fun t10 =>
  Option.bind (loopR (S := ((Option (List (List (Int × (List (Int × Int)))))) × ((List Int) × Int))) (R := Bool) (α := Int) (fun (s14 : ((Option (List (List (Int × (List (Int × Int)))))) × ((List Int) × Int))) (x15 : Int) => (
    Option.bind (m_l_system s14.2 ((5 : Int))) fun t37 =>
    Option.bind (m_l_take t37.2 ((2 : Int))) fun t42 =>
    Option.bind (if (decide (t42.1 = (0 : Int))) = true then
      Option.bind (m_l_take t42.2 ((t37.1.length : Int))) fun t48 =>
      Option.bind (ixL t37.1 t48.1) fun t53 =>
      Option.bind (catT t53 ([((1 : Int), [(t48.1, (1 : Int))])])) fun t55 =>
      Option.bind (catT ((cutL t37.1 none (some t48.1))) ([t55])) fun t57 =>
      Option.bind (catT t57 ((cutL t37.1 (some ((t48.1 + (1 : Int)))) none))) fun t59 =>
      some ((t59, t48.2))
    else
      some ((t37.1, t42.2))
    ) fun (s45 : ((List (List (Int × (List (Int × Int))))) × ((List Int) × Int))) =>
    Option.bind (m_closed_parts s45.1) fun t70 =>
    Option.bind (m_l_due s45.1) fun t72 =>
    Option.bind (m_l_equal 8 (((dLst (dLst (dT2 PyData.int (dTup PyData.int)))) t70)) (((dLst (dLst (dT2 PyData.int (dTup PyData.int)))) t72))) fun t74 =>
    if (!t74) = true then
      some (Stp.rt false)
    else
      some (Stp.nx (((some s45.1), s45.2)))
  )) ((none, (t10, (0 : Int)))) ((rng 0 ((2 : Int))))) fun o17 =>
  match o17 with
  | .inl s79 =>
    Option.bind s79.1 fun a89 =>
    Option.bind (m_l_take s79.2 ((4 : Int))) fun t93 =>
    if (decide (t93.1 > (0 : Int))) = true then
      some true
    else
      Option.bind (foldO (S := ((List (List (Int × (List Int)))) × (List (List (Int × (List (Int × Int))))) × ((List Int) × Int))) (α := Int) (fun (s104 : ((List (List (Int × (List Int)))) × (List (List (Int × (List (Int × Int))))) × ((List Int) × Int))) (x105 : Int) => (
        Option.bind (m_l_system s104.2.2 ((4 : Int))) fun t134 =>
        Option.bind (m_l_due t134.1) fun t142 =>
        Option.bind (room t142.length) fun t200 =>
        Option.bind (compM (S := Unit) (β := (List (Int × (List Int)))) (fun (s144 : Unit) (x151 : (List (Int × (List Int)))) => (Option.bind (room x151.length) fun t196 => Option.bind (compM (S := Unit) (β := (Int × (List Int))) (fun (s168 : Unit) (x175 : (Int × (List Int))) => ( some (some (((x175.1 + (s104.2.1.length : Int)), x175.2)), ()))) (()) x151) fun t198 => some (some t198.1, ()))) (()) t142) fun t202 =>
        Option.bind (catT s104.1 t202.1) fun t204 =>
        Option.bind (foldO (S := (List (List (Int × (List (Int × Int)))))) (α := (List (Int × (List (Int × Int))))) (fun (s209 : (List (List (Int × (List (Int × Int)))))) (x210 : (List (Int × (List (Int × Int))))) => (
          Option.bind (foldO (S := (List (Int × (List (Int × Int))))) (α := (Int × (List (Int × Int)))) (fun (s236 : (List (Int × (List (Int × Int))))) (x237 : (Int × (List (Int × Int)))) => (
            Option.bind (room x237.2.length) fun t285 =>
            Option.bind (compM (S := Unit) (β := (Int × Int)) (fun (s261 : Unit) (x268 : (Int × Int)) => ( some (some (((x268.1 + (s104.2.1.length : Int)), x268.2)), ()))) (()) x237.2) fun t287 =>
            Option.bind (room s236.length) fun t289 =>
            some (s236 ++ [(x237.1, t287.1)])
          )) (([] : List (Int × (List (Int × Int))))) x210) fun s292 =>
          Option.bind (catT s209 ([s292])) fun t300 =>
          some t300
        )) s104.2.1 t134.1) fun s306 =>
        some (t204, s306, t134.2)
      )) ((([] : List (List (Int × (List Int)))), ([] : List (List (Int × (List (Int × Int))))), t93.2)) ((rng 0 ((5 : Int))))) fun s319 =>
      Option.bind (m_closed_parts s319.2.1) fun t336 =>
      Option.bind (m_l_equal 8 (((dLst (dLst (dT2 PyData.int (dTup PyData.int)))) t336)) (((dLst (dLst (dT2 PyData.int (dTup PyData.int)))) s319.1))) fun t338 =>
      some t338
  | .inr q9 => some q9
def C_law : List Arg → List Cell → Arg → List Cell → Prop := fun as L r L' => ∃ a0 c, as = [⟨(rScr rInt), a0⟩] ∧ L = [] ∧ m_law a0 = some c ∧ r = ⟨rBool, c⟩ ∧ L' = []
theorem sc_law : FnScope ["_law_script", "_law_state", "_law_turn", "_law_system_here", "_law_at", "_law_due_here", "_law_small", "_law_first", "_law_choices_here", "_law_made", "_law_cost", "_law_ends_here", "_law_part_here", "_law_one", "_law_numbers", "_law_end"] ["_law_script"] (defScope s_law) := ⟨rfl, rfl, rfl, by decide +kernel, rfl, by decide +kernel, by decide +kernel⟩
set_option maxHeartbeats 0 in
theorem ok_law (F : FunC K "law" s_law f fd cc) (c__law_tape : Cl P w K mg base 1 "_law_tape" (spV K T C__law_tape) []) (c__law_system : Cl P w K mg base 5 "_law_system" (spV K T C__law_system) []) (c__law_take : Cl P w K mg base 2 "_law_take" (spV K T C__law_take) []) (c__law_equal : Cl P w K mg base 8 "_law_equal" (spV K T (C__law_equal 8)) []) (c_closed_parts : Cl P w K mg base 3 "closed_parts" (spV K T C_closed_parts) []) (c__law_due : Cl P w K mg base 2 "_law_due" (spV K T C__law_due) []) (z_range : mg "range" = none) (z_len : mg "len" = none) (z_tuple : mg "tuple" = none) : FnOk P w K mg base CX0 9 f fd ["_law_script"] (spV K T C_law) := by
  refine F.ok sc_law (fun vs H Q E h => ?_) (fun A outer s H vs Q E hr h => ?_)
  · obtain ⟨B, M, L, as, r, L', hT, w, ha, ⟨_, _, rfl, _⟩, k⟩ := h
    exact args_len ha
  · skip
    obtain ⟨B, M, L, as, r, L', rfl, w, ha, ⟨a0, c, rfl, rfl, hm, rfl, rfl⟩, k⟩ := h
    obtain ⟨u0, rfl, f0⟩ := args1 ha
    replace f0 : ((rScr rInt)).is K B u0 a0 := f0
    unfold m_law at hm
    refine ⟨_, (pss_cons (ps_set (i := 1) sc_law.nd rfl (by first | exact Or.inl rfl | exact Or.inr rfl | exact Or.inr (Or.inl rfl) | exact Or.inr (Or.inr rfl)) (pe_lst (pa_cons (pe_c c__law_tape hr (by omega) rfl (pa_cons (pv 0) pa_nil)) (pa_cons pe_int pa_nil)))) (pss_cons (ps_for PassesOwn.never rfl (pi_range1 rfl z_range (pa_cons pe_int pa_nil)) (pg_name (i := 2) sc_law.nd rfl (by first | exact Or.inl rfl | exact Or.inr rfl | exact Or.inr (Or.inl rfl) | exact Or.inr (Or.inr rfl))) (pss_cons (ps_set (i := 3) sc_law.nd rfl (by first | exact Or.inl rfl | exact Or.inr rfl | exact Or.inr (Or.inl rfl) | exact Or.inr (Or.inr rfl)) (pe_c c__law_system hr (by omega) rfl (pa_cons (pv 1) (pa_cons pe_int pa_nil)))) (Evl.pss_cut (ps_if (pt_cmpR op_eq (pe_c c__law_take hr (by omega) rfl (pa_cons (pv 1) (pa_cons pe_int pa_nil))) pe_int (nomark _)) (pss_cons (ps_set (i := 4) sc_law.nd rfl (by first | exact Or.inl rfl | exact Or.inr rfl | exact Or.inr (Or.inl rfl) | exact Or.inr (Or.inr rfl)) (pe_c c__law_take hr (by omega) rfl (pa_cons (pv 1) (pa_cons (pe_callB call_len_seq rfl z_len bt_len (pa_cons (pv 3) pa_nil)) pa_nil)))) (pss_cons (ps_set (i := 3) sc_law.nd rfl (by first | exact Or.inl rfl | exact Or.inr rfl | exact Or.inr (Or.inl rfl) | exact Or.inr (Or.inr rfl)) (pe_op op_catA (pe_op op_catA (pe_slice sl_tupA (pv 3) po_none (po_some (pv 4))) (pe_tup (pa_cons (pe_op op_catA (pe_ix ix_seq (pv 3) (pv 4) (fun _ _ => rfl)) (pe_tup (pa_cons (pe_tup (pa_cons pe_int (pa_cons (pe_tup (pa_cons (pe_tup (pa_cons (pv 4) (pa_cons pe_int pa_nil))) pa_nil)) pa_nil))) pa_nil))) pa_nil))) (pe_slice sl_tupA (pv 3) (po_some (pe_op op_add (pv 4) pe_int)) po_none))) pss_nil)) pss_nil) (pss_cons (ps_if (pt_not (pt_val (pe_c c__law_equal hr (by omega) rfl (pa_cons (pe_c c_closed_parts hr (by omega) rfl (pa_cons (pv 3) pa_nil)) (pa_cons (pe_c c__law_due hr (by omega) rfl (pa_cons (pv 3) pa_nil)) pa_nil))))) (pss_cons (ps_ret pe_bl) pss_nil) pss_nil) pss_nil)))) (pss_cons (ps_if (pt_cmpR op_gt (pe_c c__law_take hr (by omega) rfl (pa_cons (pv 1) (pa_cons pe_int pa_nil))) pe_int (nomark _)) (pss_cons (ps_ret pe_bl) pss_nil) pss_nil) (pss_cons (ps_set (i := 3) sc_law.nd rfl (by first | exact Or.inl rfl | exact Or.inr rfl | exact Or.inr (Or.inl rfl) | exact Or.inr (Or.inr rfl)) (pe_tup pa_nil)) (pss_cons (ps_set (i := 5) sc_law.nd rfl (by first | exact Or.inl rfl | exact Or.inr rfl | exact Or.inr (Or.inl rfl) | exact Or.inr (Or.inr rfl)) (pe_lst pa_nil)) (pss_cons (ps_for PassesOwn.never rfl (pi_range1 rfl z_range (pa_cons pe_int pa_nil)) (pg_name (i := 2) sc_law.nd rfl (by first | exact Or.inl rfl | exact Or.inr rfl | exact Or.inr (Or.inl rfl) | exact Or.inr (Or.inr rfl))) (pss_cons (ps_set (i := 6) sc_law.nd rfl (by first | exact Or.inl rfl | exact Or.inr rfl | exact Or.inr (Or.inl rfl) | exact Or.inr (Or.inr rfl)) (pe_c c__law_system hr (by omega) rfl (pa_cons (pv 1) (pa_cons pe_int pa_nil)))) (pss_cons (ps_set (i := 7) sc_law.nd rfl (by first | exact Or.inl rfl | exact Or.inr rfl | exact Or.inr (Or.inl rfl) | exact Or.inr (Or.inr rfl)) (pe_callB call_len_seq rfl z_len bt_len (pa_cons (pv 3) pa_nil))) (pss_cons (ps_set (i := 5) sc_law.nd rfl (by first | exact Or.inl rfl | exact Or.inr rfl | exact Or.inr (Or.inl rfl) | exact Or.inr (Or.inr rfl)) (pe_op op_cat (pv 5) (pe_lc rfl sc_law.nd (pi_list (pe_c c__law_due hr (by omega) rfl (pa_cons (pv 6) pa_nil))) (blkOk_by (own := [("_law_part_here", 12)]) (show blkC ["_law_script", "_law_state", "_law_turn", "_law_system_here", "_law_at", "_law_due_here", "_law_small", "_law_first", "_law_choices_here", "_law_made", "_law_cost", "_law_ends_here", "_law_part_here", "_law_one", "_law_numbers", "_law_end"] (defScope s_law) _ _ = true by decide +kernel)) (fun _ _ _ _ _ => (pg_name (i := 12) sc_law.nd rfl (by first | exact Or.inl rfl | exact Or.inr rfl | exact Or.inr (Or.inl rfl) | exact Or.inr (Or.inr rfl)))) (fun _ _ _ _ _ => pts_nil) (fun _ _ _ _ _ => (pe_lc rfl sc_law.nd (show PI _ _ _ (iList K _) from pi_list (pv 12)) (blkOk_by (own := [("_law_one", 13), ("_law_numbers", 14)]) (by kernel_rfl)) (fun _ _ _ _ _ => (show PG _ _ (gTup K 2 (gCons (gName 13) (gCons (gName 14) gNil))) from (pg_tup rfl (pgs_cons (pg_name (i := 13) sc_law.nd rfl (by first | exact Or.inl rfl | exact Or.inr rfl | exact Or.inr (Or.inl rfl) | exact Or.inr (Or.inr rfl))) (pgs_cons (pg_name (i := 14) sc_law.nd rfl (by first | exact Or.inl rfl | exact Or.inr rfl | exact Or.inr (Or.inl rfl) | exact Or.inr (Or.inr rfl))) pgs_nil))))) (fun _ _ _ _ _ => pts_nil) (fun _ _ _ _ _ => (pe_tup (pa_cons (pe_op op_add (pv 13) (pv 7)) (pa_cons (pv 14) pa_nil))))))))) (pss_cons (ps_for PassesOwn.never rfl (pi_tup (pv 6)) (pg_name (i := 8) sc_law.nd rfl (by first | exact Or.inl rfl | exact Or.inr rfl | exact Or.inr (Or.inl rfl) | exact Or.inr (Or.inr rfl))) (pss_cons (ps_set (i := 9) sc_law.nd rfl (by first | exact Or.inl rfl | exact Or.inr rfl | exact Or.inr (Or.inl rfl) | exact Or.inr (Or.inr rfl)) (pe_lst pa_nil)) (pss_cons (ps_for PassesOwn.never rfl (pi_tup (pv 8)) (pg_tup rfl (pgs_cons (pg_name (i := 10) sc_law.nd rfl (by first | exact Or.inl rfl | exact Or.inr rfl | exact Or.inr (Or.inl rfl) | exact Or.inr (Or.inr rfl))) (pgs_cons (pg_name (i := 11) sc_law.nd rfl (by first | exact Or.inl rfl | exact Or.inr rfl | exact Or.inr (Or.inl rfl) | exact Or.inr (Or.inr rfl))) pgs_nil))) (pss_cons (ps_expr (pe_bm PySem.F.plainAttrs_list PySem.F.slot_list_append PySem.F.type_list_append mt_append (pv 9) (pa_cons (pe_tup (pa_cons (pv 10) (pa_cons (pe_callTy call_tuple_of rfl z_tuple bt_tuple (pa_cons (pe_lc rfl sc_law.nd (pi_tup (pv 11)) (blkOk_by (own := [("_law_end", 15)]) (show blkC ["_law_script", "_law_state", "_law_turn", "_law_system_here", "_law_at", "_law_due_here", "_law_small", "_law_first", "_law_choices_here", "_law_made", "_law_cost", "_law_ends_here", "_law_part_here", "_law_one", "_law_numbers", "_law_end"] (defScope s_law) _ _ = true by decide +kernel)) (fun _ _ _ _ _ => (pg_name (i := 15) sc_law.nd rfl (by first | exact Or.inl rfl | exact Or.inr rfl | exact Or.inr (Or.inl rfl) | exact Or.inr (Or.inr rfl)))) (fun _ _ _ _ _ => pts_nil) (fun _ _ _ _ _ => (pe_tup (pa_cons (pe_op op_add (pe_ix (show IxR _ (rIx K) from ix_seq) (pv 15) pe_int (fun _ _ => rfl)) (pv 7)) (pa_cons (pe_ix (show IxR _ (rIx K) from ix_seq) (pv 15) pe_int (fun _ _ => rfl)) pa_nil))))) pa_nil)) pa_nil))) pa_nil))) pss_nil)) (pss_cons (ps_set (i := 3) sc_law.nd rfl (by first | exact Or.inl rfl | exact Or.inr rfl | exact Or.inr (Or.inl rfl) | exact Or.inr (Or.inr rfl)) (pe_op op_catA (pv 3) (pe_tup (pa_cons (pe_callTy call_tuple_of rfl z_tuple bt_tuple (pa_cons (pv 9) pa_nil)) pa_nil)))) pss_nil)))) pss_nil))))) (pss_cons (ps_ret (pe_c c__law_equal hr (by omega) rfl (pa_cons (pe_c c_closed_parts hr (by omega) rfl (pa_cons (pv 3) pa_nil)) (pa_cons (pv 5) pa_nil)))) pss_nil))))))), ?_⟩
    rw [show start ["_law_script", "_law_state", "_law_turn", "_law_system_here", "_law_at", "_law_due_here", "_law_small", "_law_first", "_law_choices_here", "_law_made", "_law_cost", "_law_ends_here", "_law_part_here", "_law_one", "_law_numbers", "_law_end"] [u0] = ([some u0, none, none, none, none, none, none, none, none, none, none, none, none, none, none, none] : L2.St) from rfl]
    obtain ⟨t10, e11, hm⟩ := bindS hm
    refine q_asgL2 (n := 1) (r := (rLst rInt)) (s := rInt) w (ea_cons (ev_call (ea_cons (ev_var rfl f0) ea_nil) ⟨_, _, rfl, rfl, e11, rfl, rfl⟩) (ea_cons (ev_int (i := 0)) ea_nil)) fun p13 B12 H12 x12 (w12 : Own K B12 M [⟨p13, (cL2 (rLst rInt) rInt), (t10, (0 : Int))⟩] H12) => ?_
    obtain ⟨o17, e18, hm⟩ := bindS hm
    refine q_forR w12 (ei_rng1 (ea_cons (ev_int (i := 2)) ea_nil) (by decide)) _ (fun s14 B19 σ32 => ∃ v33 o35 o36, σ32 = [some u0, some (.ref p13), o35, v33, o36, none, none, none, none, none, none, none, none, none, none, none] ∧ slotIs (rTup (rTup (rT2 rInt (rTup (rT2 rInt rInt))))) K B19 v33 s14.1) (fun s14 => [⟨p13, (cL2 (rLst rInt) rInt), s14.2⟩]) ((none, (t10, (0 : Int)))) e18 (fun B9 x9 => ⟨none, _, _, rfl, (by exact trivial)⟩) rfl ?_ ?_
    · skip
      rintro s14 x15 s341 v25 B19 B20 H21 σ32 hb16 x22 ⟨v33, o35, o36, rfl, h34⟩ x23 w24 h26 ho31 N27 K28 hN29 hB30
      replace w24 : Own K B20 M [⟨p13, (cL2 (rLst rInt) rInt), s14.2⟩] H21 := w24
      refine g_name ?_
      obtain ⟨t37, e38, hb16⟩ := bindS hb16
      refine q_asg (n := 3) w24 (ev_callC 0 (x := ⟨p13, (cL2 (rLst rInt) rInt), s14.2⟩) (x' := ⟨p13, (cL2 (rLst rInt) rInt), t37.2⟩) (ea_cons (ev_varR rfl) (ea_cons (ev_int (i := 5)) ea_nil)) rfl ⟨_, _, _, _, rfl, rfl, e38, rfl, rfl⟩ rfl) fun v40 B39 H39 x39 (w39 : Own K B39 M [⟨p13, (cL2 (rLst rInt) rInt), t37.2⟩] H39) h41 => ?_
      obtain ⟨t42, e43, hb16⟩ := bindS hb16
      obtain ⟨s45, e46, hb16⟩ := bindS hb16
      refine q_cut (fun σ69 H65 => ∃ v66 o68 B65, Ex B39 B65 ∧ Own K B65 M [⟨p13, (cL2 (rLst rInt) rInt), s45.2⟩] H65 ∧ σ69 = [some u0, some (.ref p13), some v25, some v66, o68, none, none, none, none, none, none, none, none, none, none, none] ∧ ((rTup (rTup (rT2 rInt (rTup (rT2 rInt rInt)))))).is K B65 v66 s45.1) ?_ ?_
      · skip
        refine q_ifc w39 (et_test (ev_eqI (ev_callC 0 (x := ⟨p13, (cL2 (rLst rInt) rInt), t37.2⟩) (x' := ⟨p13, (cL2 (rLst rInt) rInt), t42.2⟩) (ea_cons (ev_varR rfl) (ea_cons (ev_int (i := 2)) ea_nil)) rfl ⟨_, _, _, _, rfl, rfl, e43, rfl, rfl⟩ rfl) (ev_int (i := 0)))) (fun hb44 B47 H47 x47 (w47 : Own K B47 M [⟨p13, (cL2 (rLst rInt) rInt), t42.2⟩] H47) => ?_) (fun hb44 B64 H64 x64 (w64 : Own K B64 M [⟨p13, (cL2 (rLst rInt) rInt), t42.2⟩] H64) => ?_)
        · skip
          rw [if_pos hb44] at e46
          obtain ⟨t48, e49, e46⟩ := bindS e46
          refine q_asg (n := 4) w47 (ev_callC 0 (x := ⟨p13, (cL2 (rLst rInt) rInt), t42.2⟩) (x' := ⟨p13, (cL2 (rLst rInt) rInt), t48.2⟩) (ea_cons (ev_varR rfl) (ea_cons (ev_len (ev_seqT (ev_var rfl (((rTup (rTup (rT2 rInt (rTup (rT2 rInt rInt)))))).mono x47 h41)))) ea_nil)) rfl ⟨_, _, _, _, rfl, rfl, e49, rfl, rfl⟩ rfl) fun v51 B50 H50 x50 (w50 : Own K B50 M [⟨p13, (cL2 (rLst rInt) rInt), t48.2⟩] H50) h52 => ?_
          obtain ⟨t53, e54, e46⟩ := bindS e46
          obtain ⟨t55, e56, e46⟩ := bindS e46
          obtain ⟨t57, e58, e46⟩ := bindS e46
          obtain ⟨t59, e60, e46⟩ := bindS e46
          refine q_asg (n := 3) w50 (ev_catT (ev_catT (ev_slT (ev_var rfl (((rTup (rTup (rT2 rInt (rTup (rT2 rInt rInt)))))).mono (x47.trans x50) h41)) eo_none (eo_some (ev_varI rfl h52))) (ev_tup (r := (rTup (rT2 rInt (rTup (rT2 rInt rInt))))) [t55] (ea_cons (ev_catT (ev_ix (ev_seqT (ev_var rfl (((rTup (rTup (rT2 rInt (rTup (rT2 rInt rInt)))))).mono (x47.trans x50) h41))) (ev_varI rfl h52) e54) (ev_tup (r := (rT2 rInt (rTup (rT2 rInt rInt)))) [((1 : Int), [(t48.1, (1 : Int))])] (ea_cons (ev_T2 (ea_cons (ev_int (i := 1)) (ea_cons (ev_tup (r := (rT2 rInt rInt)) [(t48.1, (1 : Int))] (ea_cons (ev_T2 (ea_cons (ev_varI rfl h52) (ea_cons (ev_int (i := 1)) ea_nil))) ea_nil)) ea_nil))) ea_nil)) e56) ea_nil)) e58) (ev_slT (ev_var rfl (((rTup (rTup (rT2 rInt (rTup (rT2 rInt rInt)))))).mono (x47.trans x50) h41)) (eo_some (ev_add (ev_varI rfl h52) (ev_int (i := 1)))) eo_none) e60) fun v62 B61 H61 x61 (w61 : Own K B61 M [⟨p13, (cL2 (rLst rInt) rInt), t48.2⟩] H61) h63 => ?_
          replace e46 : some _ = some _ := e46
          cases e46
          exact ⟨v62, _, _, ((x47.trans x50).trans x61), w61, rfl, h63⟩
        rw [if_neg (by rw [hb44]; exact Bool.false_ne_true)] at e46
        replace e46 : some _ = some _ := e46
        cases e46
        exact ⟨v40, _, _, x64, w64, rfl, (((rTup (rTup (rT2 rInt (rTup (rT2 rInt rInt)))))).mono x64 h41)⟩
      rintro σ69' H65 ⟨v66, o68, B65, x65, w65, rfl, h67⟩
      obtain ⟨t70, e71, hb16⟩ := bindS hb16
      obtain ⟨t72, e73, hb16⟩ := bindS hb16
      obtain ⟨t74, e75, hb16⟩ := bindS hb16
      refine q_if w65 (et_not (et_B (ev_call (ea_cons (ev_dq (ev_call (ea_cons (ev_var rfl h67) ea_nil) ⟨_, _, rfl, rfl, e71, rfl, rfl⟩) (dq_lst (dq_lst (dq_T2 dq_int (dq_tup dq_int))))) (ea_cons (ev_dq (ev_call (ea_cons (ev_var rfl h67) ea_nil) ⟨_, _, rfl, rfl, e73, rfl, rfl⟩) (dq_lst (dq_lst (dq_T2 dq_int (dq_tup dq_int))))) ea_nil)) ⟨_, _, _, rfl, rfl, e75, rfl, rfl⟩))) (fun hb76 B77 H77 x77 (w77 : Own K B77 M [⟨p13, (cL2 (rLst rInt) rInt), s45.2⟩] H77) => ?_) (fun hb76 B78 H78 x78 (w78 : Own K B78 M [⟨p13, (cL2 (rLst rInt) rInt), s45.2⟩] H78) => ?_)
      · skip
        rw [if_pos hb76] at hb16
        replace hb16 : some _ = some _ := hb16
        obtain rfl := Option.some.inj hb16
        obtain rfl := ho31 _ rfl
        replace hm : some _ = some _ := hm
        obtain rfl := Option.some.inj hm
        exact q_ret w77 (ev_bl (b := false)) fun v9 B9 H9 x9 w9 h9 => k _ _ _ ((((((x12.trans x22).trans x23).trans x39).trans x65).trans x77).trans x9) w9.tail h9
      rw [if_neg (by rw [hb76]; exact Bool.false_ne_true)] at hb16
      replace hb16 : some _ = some _ := hb16
      cases hb16
      exact hN29 _ _ _ _ rfl ((x39.trans x65).trans x78) w78 ⟨(some v66), _, _, rfl, ⟨_, rfl, (((rTup (rTup (rT2 rInt (rTup (rT2 rInt rInt)))))).mono x78 h67)⟩⟩
    rintro s79 B80 H81 σ84 rfl x82 w83 ⟨v85, o87, o88, rfl, h86⟩
    dsimp only at hm
    replace w83 : Own K B80 M [⟨p13, (cL2 (rLst rInt) rInt), s79.2⟩] H81 := w83
    obtain ⟨a89, e90, hm⟩ := bindS hm
    obtain ⟨v91, rfl, h92⟩ := slot_get h86 e90
    obtain ⟨t93, e94, hm⟩ := bindS hm
    refine q_if w83 (et_test (ev_gt (ev_callC 0 (x := ⟨p13, (cL2 (rLst rInt) rInt), s79.2⟩) (x' := ⟨p13, (cL2 (rLst rInt) rInt), t93.2⟩) (ea_cons (ev_varR rfl) (ea_cons (ev_int (i := 4)) ea_nil)) rfl ⟨_, _, _, _, rfl, rfl, e94, rfl, rfl⟩ rfl) (ev_int (i := 0)))) (fun hb95 B96 H96 x96 (w96 : Own K B96 M [⟨p13, (cL2 (rLst rInt) rInt), t93.2⟩] H96) => ?_) (fun hb95 B97 H97 x97 (w97 : Own K B97 M [⟨p13, (cL2 (rLst rInt) rInt), t93.2⟩] H97) => ?_)
    · skip
      rw [if_pos hb95] at hm
      replace hm : some _ = some _ := hm
      obtain rfl := Option.some.inj hm
      exact q_ret w96 (ev_bl (b := true)) fun v9 B9 H9 x9 w9 h9 => k _ _ _ (((x12.trans x82).trans x96).trans x9) w9.tail h9
    rw [if_neg (by rw [hb95]; exact Bool.false_ne_true)] at hm
    refine q_asg (n := 3) w97 (ev_tup (r := (rTup (rT2 rInt (rTup (rT2 rInt rInt))))) ([] : List (List (Int × (List (Int × Int))))) ea_nil) fun v99 B98 H98 x98 (w98 : Own K B98 M [⟨p13, (cL2 (rLst rInt) rInt), t93.2⟩] H98) h100 => ?_
    refine q_asg (n := 5) w98 (ev_frz (el_lst (r := (rLst (rT2 rInt (rTup rInt)))) ([] : List (List (Int × (List Int)))) ea_nil)) fun v102 B101 H101 x101 (w101 : Own K B101 M [⟨p13, (cL2 (rLst rInt) rInt), t93.2⟩] H101) h103 => ?_
    obtain ⟨s319, e108, hm⟩ := bindS hm
    refine q_fold w101 (ei_rng1 (ea_cons (ev_int (i := 5)) ea_nil) (by decide)) _ (fun s104 B109 σ122 => ∃ v123 v125 o127 o128 o129 o130 o131 o132 o133, σ122 = [some u0, some (.ref p13), o127, some v125, o88, some v123, o128, o129, o130, o131, o132, o133, none, none, none, none] ∧ ((rLst (rLst (rT2 rInt (rTup rInt))))).is K B109 v123 s104.1 ∧ ((rTup (rTup (rT2 rInt (rTup (rT2 rInt rInt)))))).is K B109 v125 s104.2.1) (fun s104 => [⟨p13, (cL2 (rLst rInt) rInt), s104.2.2⟩]) ((([] : List (List (Int × (List Int)))), ([] : List (List (Int × (List (Int × Int))))), t93.2)) e108 (fun B9 x9 => ⟨v102, v99, _, _, _, _, _, _, _, rfl, (((rLst (rLst (rT2 rInt (rTup rInt))))).mono x9 h103), (((rTup (rTup (rT2 rInt (rTup (rT2 rInt rInt)))))).mono x9 (((rTup (rTup (rT2 rInt (rTup (rT2 rInt rInt)))))).mono x101 h100))⟩) rfl ?_ ?_
    · skip
      rintro s104 x105 s340 v115 B109 B110 H111 σ122 hb106 x112 ⟨v123, v125, o127, o128, o129, o130, o131, o132, o133, rfl, h124, h126⟩ x113 w114 h116 N117 K118 hN119
      replace w114 : Own K B110 M [⟨p13, (cL2 (rLst rInt) rInt), s104.2.2⟩] H111 := w114
      refine g_name ?_
      obtain ⟨t134, e135, hb106⟩ := bindS hb106
      refine q_asg (n := 6) w114 (ev_callC 0 (x := ⟨p13, (cL2 (rLst rInt) rInt), s104.2.2⟩) (x' := ⟨p13, (cL2 (rLst rInt) rInt), t134.2⟩) (ea_cons (ev_varR rfl) (ea_cons (ev_int (i := 4)) ea_nil)) rfl ⟨_, _, _, _, rfl, rfl, e135, rfl, rfl⟩ rfl) fun v137 B136 H136 x136 (w136 : Own K B136 M [⟨p13, (cL2 (rLst rInt) rInt), t134.2⟩] H136) h138 => ?_
      refine q_asg (n := 7) w136 (ev_len (ev_seqT (ev_var rfl (((rTup (rTup (rT2 rInt (rTup (rT2 rInt rInt)))))).mono (x113.trans x136) h126)))) fun v140 B139 H139 x139 (w139 : Own K B139 M [⟨p13, (cL2 (rLst rInt) rInt), t134.2⟩] H139) h141 => ?_
      obtain ⟨t142, e143, hb106⟩ := bindS hb106
      obtain ⟨t200, e201, hb106⟩ := bindS hb106
      obtain ⟨t202, e203, hb106⟩ := bindS hb106
      obtain ⟨t204, e205, hb106⟩ := bindS hb106
      refine q_asg (n := 5) w139 (ev_frz (el_cat (ev_var rfl (((rLst (rLst (rT2 rInt (rTup rInt))))).mono ((x113.trans x136).trans x139) h124)) (ev_frz (el_lc (S := Unit) (ys := t202.1) (s1 := t202.2) (s0 := ()) (σ' := [some u0, some (.ref p13), some v115, some v125, o88, some v123, some v137, some v140, o130, o131, o132, o133, none, none, none, none]) (rLst (rT2 rInt (rTup rInt))) (ei_lst (ev_call (ea_cons (ev_var rfl (((rTup (rTup (rT2 rInt (rTup (rT2 rInt rInt)))))).mono x139 h138)) ea_nil) ⟨_, _, rfl, rfl, e143, rfl, rfl⟩)) _ (fun (s144 : Unit) => [⟨p13, (cL2 (rLst rInt) rInt), t134.2⟩]) rfl e203 e201 rfl (by rintro s144 x151 o156 s157 v149 D154 a155 B145 H146 hb153 x147 w148 h150 PY158 PN159 qY160 qN161; replace w148 : Own K B145 M [⟨D154, (cLst (rLst (rT2 rInt (rTup rInt)))), a155⟩, ⟨p13, (cL2 (rLst rInt) rInt), t134.2⟩] H146 := w148; refine g_name ?_; refine ⟨rfl, ?_⟩; obtain ⟨t196, e197, hb153⟩ := bindS hb153; obtain ⟨t198, e199, hb153⟩ := bindS hb153; obtain ⟨rfl, rfl⟩ := Prod.mk.inj (Option.some.inj hb153); refine lc_yes ?_; exact (ev_frz (el_lc (S := Unit) (ys := t198.1) (s1 := t198.2) (s0 := ()) (σ' := [some u0, some (.ref p13), some v115, some v125, o88, some v123, some v137, some v140, o130, o131, o132, o133, some v149, none, none, none]) (rT2 rInt (rTup rInt)) (ei_lst (ev_var rfl h150)) _ (fun (s168 : Unit) => [⟨D154, (cLst (rLst (rT2 rInt (rTup rInt)))), a155⟩, ⟨p13, (cL2 (rLst rInt) rInt), t134.2⟩]) rfl e199 e197 rfl (by rintro s168 x175 o180 s181 v173 D178 a179 B169 H170 hb177 x171 w172 h174 PY182 PN183 qY184 qN185; replace w172 : Own K B169 M [⟨D178, (cLst (rT2 rInt (rTup rInt))), a179⟩, ⟨D154, (cLst (rLst (rT2 rInt (rTup rInt)))), a155⟩, ⟨p13, (cL2 (rLst rInt) rInt), t134.2⟩] H170 := w172; refine g_T2 h174 w172 fun v186 v187 h188 h189 => ?_; refine g_cons ?_; refine g_name ?_; refine g_cons ?_; refine g_name ?_; refine g_nil ?_; refine ⟨rfl, ?_⟩; obtain ⟨rfl, rfl⟩ := Prod.mk.inj (Option.some.inj hb177); refine lc_yes ?_; exact (ev_T2 (ea_cons (ev_add (ev_varI rfl h188) (ev_varI rfl h141)) (ea_cons (ev_var rfl h189) ea_nil))) B169 H170 (Ex.refl _) w172 _ fun v190 B191 H192 x193 w194 h195 => qY184 v190 B191 H192 _ rfl x193 w194 h195))) B145 H146 (Ex.refl _) w148 _ fun v162 B163 H164 x165 w166 h167 => qY160 v162 B163 H164 _ rfl x165 w166 h167))) e205)) fun v207 B206 H206 x206 (w206 : Own K B206 M [⟨p13, (cL2 (rLst rInt) rInt), t134.2⟩] H206) h208 => ?_
      obtain ⟨s306, e213, hb106⟩ := bindS hb106
      refine q_fold w206 (ei_tup (ev_var rfl (((rTup (rTup (rT2 rInt (rTup (rT2 rInt rInt)))))).mono (x139.trans x206) h138))) _ (fun s209 B214 σ227 => ∃ v228 o230 o231 o232 o233, σ227 = [some u0, some (.ref p13), some v115, some v228, o88, some v207, some v137, some v140, o230, o231, o232, o233, none, none, none, none] ∧ ((rTup (rTup (rT2 rInt (rTup (rT2 rInt rInt)))))).is K B214 v228 s209) (fun s209 => [⟨p13, (cL2 (rLst rInt) rInt), t134.2⟩]) s104.2.1 e213 (fun B9 x9 => ⟨v125, _, _, _, _, rfl, (((rTup (rTup (rT2 rInt (rTup (rT2 rInt rInt)))))).mono x9 (((rTup (rTup (rT2 rInt (rTup (rT2 rInt rInt)))))).mono (((x113.trans x136).trans x139).trans x206) h126))⟩) rfl ?_ ?_
      · skip
        rintro s209 x210 s318 v220 B214 B215 H216 σ227 hb211 x217 ⟨v228, o230, o231, o232, o233, rfl, h229⟩ x218 w219 h221 N222 K223 hN224
        replace w219 : Own K B215 M [⟨p13, (cL2 (rLst rInt) rInt), t134.2⟩] H216 := w219
        refine g_name ?_
        refine q_asgL (n := 9) w219 (el_lst (r := (rT2 rInt (rTup (rT2 rInt rInt)))) ([] : List (Int × (List (Int × Int)))) ea_nil) fun p235 B234 H234 x234 (w234 : Own K B234 M [⟨p235, (cLst (rT2 rInt (rTup (rT2 rInt rInt)))), ([] : List (Int × (List (Int × Int))))⟩, ⟨p13, (cL2 (rLst rInt) rInt), t134.2⟩] H234) => ?_
        obtain ⟨s292, e240, hb211⟩ := bindS hb211
        refine q_fold w234 (ei_tup (ev_var rfl (((rTup (rT2 rInt (rTup (rT2 rInt rInt))))).mono x234 h221))) _ (fun s236 B241 σ254 => ∃ o255 o256, σ254 = [some u0, some (.ref p13), some v115, some v228, o88, some v207, some v137, some v140, some v220, some (.ref p235), o255, o256, none, none, none, none]) (fun s236 => [⟨p235, (cLst (rT2 rInt (rTup (rT2 rInt rInt)))), s236⟩, ⟨p13, (cL2 (rLst rInt) rInt), t134.2⟩]) (([] : List (Int × (List (Int × Int))))) e240 (fun B9 x9 => ⟨_, _, rfl⟩) rfl ?_ ?_
        · skip
          rintro s236 x237 s305 v247 B241 B242 H243 σ254 hb238 x244 ⟨o255, o256, rfl⟩ x245 w246 h248 N249 K250 hN251
          replace w246 : Own K B242 M [⟨p235, (cLst (rT2 rInt (rTup (rT2 rInt rInt)))), s236⟩, ⟨p13, (cL2 (rLst rInt) rInt), t134.2⟩] H243 := w246
          refine g_T2 h248 w246 fun v257 v258 h259 h260 => ?_
          refine g_cons ?_
          refine g_name ?_
          refine g_cons ?_
          refine g_name ?_
          refine g_nil ?_
          obtain ⟨t285, e286, hb238⟩ := bindS hb238
          obtain ⟨t287, e288, hb238⟩ := bindS hb238
          obtain ⟨t289, e290, hb238⟩ := bindS hb238
          refine q_app (n := 0) (m := 9) w246 rfl (ev_T2 (ea_cons (ev_varI rfl h259) (ea_cons (ev_tupOfL (ev_frz (el_lc (S := Unit) (ys := t287.1) (s1 := t287.2) (s0 := ()) (σ' := [some u0, some (.ref p13), some v115, some v228, o88, some v207, some v137, some v140, some v220, some (.ref p235), some v257, some v258, none, none, none, none]) (rT2 rInt rInt) (ei_tup (ev_var rfl h260)) _ (fun (s261 : Unit) => [⟨p235, (cLst (rT2 rInt (rTup (rT2 rInt rInt)))), s236⟩, ⟨p13, (cL2 (rLst rInt) rInt), t134.2⟩]) rfl e288 e286 rfl (by rintro s261 x268 o273 s274 v266 D271 a272 B262 H263 hb270 x264 w265 h267 PY275 PN276 qY277 qN278; replace w265 : Own K B262 M [⟨D271, (cLst (rT2 rInt rInt)), a272⟩, ⟨p235, (cLst (rT2 rInt (rTup (rT2 rInt rInt)))), s236⟩, ⟨p13, (cL2 (rLst rInt) rInt), t134.2⟩] H263 := w265; refine g_name ?_; refine ⟨rfl, ?_⟩; obtain ⟨rfl, rfl⟩ := Prod.mk.inj (Option.some.inj hb270); refine lc_yes ?_; exact (ev_T2 (ea_cons (ev_add (ev_fst (ev_var rfl h267)) (ev_varI rfl h141)) (ea_cons (ev_snd (ev_var rfl h267)) ea_nil))) B262 H263 (Ex.refl _) w265 _ fun v279 B280 H281 x282 w283 h284 => qY277 v279 B280 H281 _ rfl x282 w283 h284)))) ea_nil))) rfl ⟨0, _, rfl⟩ e290 fun B291 H291 x291 (w291 : Own K B291 M [⟨p235, (cLst (rT2 rInt (rTup (rT2 rInt rInt)))), (s236 ++ [(x237.1, t287.1)])⟩, ⟨p13, (cL2 (rLst rInt) rInt), t134.2⟩] H291) => ?_
          replace hb238 : some _ = some _ := hb238
          cases hb238
          exact hN251 _ _ _ x291 w291 ⟨_, _, rfl⟩
        rintro B293 H294 σ297 x295 w296 ⟨o298, o299, rfl⟩
        replace w296 : Own K B293 M [⟨p235, (cLst (rT2 rInt (rTup (rT2 rInt rInt)))), s292⟩, ⟨p13, (cL2 (rLst rInt) rInt), t134.2⟩] H294 := w296
        obtain ⟨t300, e301, hb211⟩ := bindS hb211
        refine q_asg (n := 3) w296 (ev_catT (ev_var rfl (((rTup (rTup (rT2 rInt (rTup (rT2 rInt rInt)))))).mono ((x218.trans x234).trans x295) h229)) (ev_tup (r := (rTup (rT2 rInt (rTup (rT2 rInt rInt))))) [s292] (ea_cons (ev_tupOfC (n := 0) (ev_varR rfl) rfl) ea_nil)) e301) fun v303 B302 H302 x302 (w302 : Own K B302 M [⟨p235, (cLst (rT2 rInt (rTup (rT2 rInt rInt)))), s292⟩, ⟨p13, (cL2 (rLst rInt) rInt), t134.2⟩] H302) h304 => ?_
        replace hb211 : some _ = some _ := hb211
        cases hb211
        exact hN224 _ _ _ ((x234.trans x295).trans x302) w302.tail ⟨v303, _, _, _, _, rfl, h304⟩
      rintro B307 H308 σ311 x309 w310 ⟨v312, o314, o315, o316, o317, rfl, h313⟩
      replace w310 : Own K B307 M [⟨p13, (cL2 (rLst rInt) rInt), t134.2⟩] H308 := w310
      replace hb106 : some _ = some _ := hb106
      cases hb106
      exact hN119 _ _ _ (((x136.trans x139).trans x206).trans x309) w310 ⟨v207, v312, _, _, _, _, _, _, _, rfl, (((rLst (rLst (rT2 rInt (rTup rInt))))).mono x309 h208), h313⟩
    rintro B320 H321 σ324 x322 w323 ⟨v325, v327, o329, o330, o331, o332, o333, o334, o335, rfl, h326, h328⟩
    replace w323 : Own K B320 M [⟨p13, (cL2 (rLst rInt) rInt), s319.2.2⟩] H321 := w323
    obtain ⟨t336, e337, hm⟩ := bindS hm
    obtain ⟨t338, e339, hm⟩ := bindS hm
    replace hm : some _ = some _ := hm
    obtain rfl := Option.some.inj hm
    exact q_ret w323 (ev_call (ea_cons (ev_dq (ev_call (ea_cons (ev_var rfl h328) ea_nil) ⟨_, _, rfl, rfl, e337, rfl, rfl⟩) (dq_lst (dq_lst (dq_T2 dq_int (dq_tup dq_int))))) (ea_cons (ev_dq (ev_var rfl h326) (dq_lst (dq_lst (dq_T2 dq_int (dq_tup dq_int))))) ea_nil)) ⟨_, _, _, rfl, rfl, e339, rfl, rfl⟩) fun v9 B9 H9 x9 w9 h9 => k _ _ _ ((((((x12.trans x82).trans x97).trans x98).trans x101).trans x322).trans x9) w9.tail h9
end
end L3

namespace L3
open PySem L2
/-! ### the prelude of the laws: tape, draw, take, equal -/
def TapeOk (t : List Int) : Prop := t.length ≤ 4000 ∧ ∀ x ∈ t, 0 ≤ x ∧ x < 2 ^ 31
theorem all_app {t : List Int} {x : Int} (h : ∀ y ∈ t, 0 ≤ y ∧ y < (2 : Int) ^ 31) (hx : 0 ≤ x ∧ x < (2 : Int) ^ 31) : ∀ y ∈ t ++ [x], 0 ≤ y ∧ y < (2 : Int) ^ 31 := fun y hy => by
  rcases List.mem_append.mp hy with hy | hy
  · exact h y hy
  · rw [List.mem_singleton.mp hy]; exact hx
theorem tape_ok {ns : List Int} (h : ns.length ≤ 63) : Yes (m_l_tape ns) TapeOk := by
  unfold m_l_tape
  refine y_bind (Q := TapeOk) ?_ fun t h => y_some h
  refine (y_foldI _ (fun i t => t.length ≤ 40 * i ∧ ∀ x ∈ t, 0 ≤ x ∧ x < (2 : Int) ^ 31) ⟨by simp, by simp⟩ ?_).mono fun t ht => ⟨by have := ht.1; omega, ht.2⟩
  rintro i x s hx ⟨h1, h2⟩
  have hi : i < ns.length := (List.getElem?_eq_some_iff.mp hx).1
  refine y_eq (mulI_l (by decide) (by decide)) ?_
  refine y_bind (Q := fun n => 0 ≤ n) (y_if (fun c => y_some ?_) (fun c => y_some ?_)) fun n hn => ?_
  · have := of_decide_eq_true c; omega
  · have : ¬ (2 * x < 0) := fun z => c (decide_eq_true z)
    omega
  refine y_eq (a := 1000000000000000000) (by decide +kernel) ?_
  refine y_bind (Q := fun (p : Int × List Int) => p.2.length ≤ 40 * (i + 1) ∧ ∀ x ∈ p.2, 0 ≤ x ∧ x < (2 : Int) ^ 31) (y_if (fun c => ?_) (fun c => ?_)) fun p hp => y_some hp
  · refine y_bind (Q := fun (p : Int × List Int) => p.2.length ≤ 40 * (i + 1) ∧ ∀ x ∈ p.2, 0 ≤ x ∧ x < (2 : Int) ^ 31) ?_ fun p hp => y_some hp
    refine (y_foldI _ (fun j (p : Int × List Int) => 0 ≤ p.1 ∧ p.2.length ≤ 40 * i + j ∧ ∀ x ∈ p.2, 0 ≤ x ∧ x < (2 : Int) ^ 31) ⟨hn, h1, h2⟩ ?_).mono fun p hp => ⟨by have := hp.2.1; rw [rng_len] at this; simp at this; omega, hp.2.2⟩
    rintro j y ⟨m, t⟩ hy ⟨g1, g2, g3⟩
    have hj := (rng_at hy).2
    have hj : j < 40 := by omega
    refine y_bind (Q := fun (p : Int × List Int) => 0 ≤ p.1 ∧ p.2.length ≤ 40 * i + (j + 1) ∧ ∀ x ∈ p.2, 0 ≤ x ∧ x < (2 : Int) ^ 31) (y_if (fun c => ?_) (fun c => ?_)) fun p hp => y_some hp
    · refine y_eq (modI_s (by decide)) (y_eq (room_s (by show t.length ≤ _; show _ ≤ 1000000; have : t.length ≤ 40 * i + j := g2; omega)) (y_eq (divI_s (by decide) (by decide)) (y_some ⟨?_, ?_, ?_⟩)))
      · show 0 ≤ m / 1000
        have : 0 ≤ m := g1
        omega
      · show (t ++ [_]).length ≤ _
        have : t.length ≤ 40 * i + j := g2
        simp
        omega
      · refine all_app g3 ?_
        show 0 ≤ m % 1000 ∧ m % 1000 < _
        omega
    · exact y_some ⟨g1, by have : t.length ≤ 40 * i + j := g2; show t.length ≤ _; omega, g3⟩
  · refine y_bind (Q := fun (t : List Int) => t.length ≤ 40 * (i + 1) ∧ ∀ x ∈ t, 0 ≤ x ∧ x < (2 : Int) ^ 31) ?_ fun p hp => y_some hp
    refine (y_foldI _ (fun j (t : List Int) => t.length ≤ 40 * i + j ∧ ∀ x ∈ t, 0 ≤ x ∧ x < (2 : Int) ^ 31) ⟨h1, h2⟩ ?_).mono fun p hp => ⟨by have := hp.1; rw [rng_len] at this; simp at this; omega, hp.2⟩
    rintro j y t hy ⟨g2, g3⟩
    have hj := (rng_at hy).2
    have hj : j < 3 := by omega
    refine y_eq (mulI_r (by decide) (by decide)) (y_eq (mulI_r (by decide) (by decide)) (y_eq (modI_s (by decide)) (y_eq (mulI_r (by decide) (by decide)) (y_eq (divI_s (by decide) (by decide)) (y_eq (modI_s (by decide)) (y_eq (room_s (by omega)) (y_some ⟨?_, ?_⟩)))))))
    · rw [List.length_append, List.length_singleton]; omega
    · refine all_app g3 ?_
      omega
theorem draw_ok {t : List Int} {at' many : Int} (ht : TapeOk t) (h0 : 0 ≤ at') (h1 : at' < 2 ^ 62) (hm : 0 < many) : Yes (m_l_draw t at' many) fun r => 0 ≤ r ∧ r < many := by
  unfold m_l_draw
  refine y_if (fun c => ?_) (fun c => ?_)
  · have c := of_decide_eq_true c
    obtain ⟨n, rfl⟩ := Int.eq_ofNat_of_zero_le h0
    have hn : n < t.length := by omega
    refine y_eq (ixL_s (List.getElem?_eq_getElem hn) rfl) (y_eq (modI_s hm) (y_some ⟨Int.emod_nonneg _ (by omega), Int.emod_lt_of_pos _ hm⟩))
  · refine y_bind (Q := fun _ => True) (y_if (fun c => ?_) fun c => y_some trivial) fun n _ => ?_
    · have c := of_decide_eq_true c
      obtain ⟨n, hn⟩ := Int.eq_ofNat_of_zero_le (Int.emod_nonneg at' (show (t.length : Int) ≠ 0 by omega))
      have hl := Int.emod_lt_of_pos at' c
      refine y_eq (modI_s c) (y_eq (ixL_s (n := n) (List.getElem?_eq_getElem (by omega)) hn) (y_some trivial))
    · refine y_eq (mulI_r (by omega) (by omega)) (y_eq (mulI_r (by decide) (by decide)) (y_eq (mulI_r (by decide) (by decide)) (y_eq (modI_s (by decide)) (y_eq (modI_s hm) (y_some ⟨Int.emod_nonneg _ (by omega), Int.emod_lt_of_pos _ hm⟩)))))
/-- the tape and how far it is read -/
def StOk (s : List Int × Int) (n : Int) : Prop := TapeOk s.1 ∧ 0 ≤ s.2 ∧ s.2 ≤ n
theorem take_ok {s : List Int × Int} {n many : Int} (hs : StOk s n) (hn : n < 2 ^ 61) (hm : 0 < many) : Yes (m_l_take s many) fun r => (0 ≤ r.1 ∧ r.1 < many) ∧ StOk r.2 (n + 1) := by
  unfold m_l_take
  obtain ⟨h1, h2, h3⟩ := hs
  refine y_bind (draw_ok h1 (by show 0 ≤ s.2 + 1; omega) (by show s.2 + 1 < _; omega) hm) fun r hr => y_some ⟨hr, h1, by show 0 ≤ s.2 + 1; omega, by show s.2 + 1 ≤ _; omega⟩
/-- == of a kind -/
theorem eqvD_ok {a b : PyData} (ha : SeqAt.shaped a = true) (hb : SeqAt.shaped b = true) : eqvD a b = some (PyData.eqv a b) := if_pos ⟨ha, hb⟩
theorem StOk.le {s : List Int × Int} {a b : Int} (h : StOk s a) (hab : a ≤ b) : StOk s b := ⟨h.1, h.2.1, Int.le_trans h.2.2 hab⟩
end L3

namespace L3
open PySem L2
/-! ### law_equal is equality -/
def okD : Nat → PyData → Prop
  | 0, _ => False
  | _ + 1, .none => True
  | _ + 1, .bool _ => True
  | _ + 1, .int _ => True
  | _ + 1, .str s => SeqAt.shaped (.str s) = true
  | n + 1, .list xs => xs.length < 2 ^ 60 ∧ ∀ x ∈ xs, okD n x
  | n + 1, .tuple xs => xs.length < 2 ^ 60 ∧ ∀ x ∈ xs, okD n x
  | _ + 1, .dict _ => False
def Is (o : Option Bool) (p : Prop) : Prop := ∃ c : Bool, o = some c ∧ (c = true ↔ p)
theorem is_t {p : Prop} (h : p) : Is (some true) p := ⟨true, rfl, fun _ => h, fun _ => rfl⟩
theorem is_f {p : Prop} (h : ¬ p) : Is (some false) p := ⟨false, rfl, fun e => absurd e (by decide), fun e => absurd e h⟩
theorem is_p {p : Prop} {b : Bool} {x y : Option Bool} (h : b = true) (k : Is x p) : Is (if b = true then x else y) p := by rw [if_pos h]; exact k
theorem is_n {p : Prop} {b : Bool} {x y : Option Bool} (h : b = false) (k : Is y p) : Is (if b = true then x else y) p := by rw [if_neg (by rw [h]; exact Bool.false_ne_true)]; exact k
theorem is_bd {α : Type} {p : Prop} {o : Option α} {a : α} {f : α → Option Bool} (h : o = some a) (k : Is (f a) p) : Is (Option.bind o f) p := by rw [h]; exact k
theorem is_bi {p : Prop} {o : Option Bool} (k : Is o p) : Is (Option.bind o fun t => some t) p := by obtain ⟨c, h, g⟩ := k; rw [h]; exact ⟨c, rfl, g⟩
theorem is_b {p : Prop} {c : Bool} (h : c = true ↔ p) : Is (some c) p := ⟨c, rfl, h⟩
theorem eq_seq {f : PyData → PyData → Option Bool} {xs ys : List PyData} {A B : PyData} (hl : xs.length = ys.length) (hb : ys.length < 2 ^ 60) (hA : ∀ i : Int, ixD A i = atI xs i) (hB : ∀ i : Int, ixD B i = atI ys i) (h : ∀ x ∈ xs, ∀ y ∈ ys, Is (f x y) (x = y)) :
    Yes (loopR (S := Unit) (R := Bool) (α := Int) (fun (s48 : Unit) (x49 : Int) => (
                  Option.bind (ixD A x49) fun t68 =>
                  Option.bind (ixD B x49) fun t70 =>
                  Option.bind (f t68 t70) fun t72 =>
                  if (!t72) = true then
                    some (Stp.rt false)
                  else
                    some (Stp.nx (()))
                )) (()) (rng 0 ys.length)) fun o => match o with | .inl _ => xs = ys | .inr b => b = false ∧ xs ≠ ys := by
  refine y_loopR _ (fun i _ => ∀ j < i, xs[j]? = ys[j]?) _ (fun j hj => absurd hj (by omega)) ?_ ?_
  · rintro i x ⟨⟩ hx hI
    obtain ⟨h1, h2⟩ := rng_at hx
    have hi : i < ys.length := by omega
    have hi' : i < xs.length := by omega
    have e1 : x = (i : Int) := by omega
    obtain ⟨v, g1, g2⟩ := h _ (List.getElem_mem hi') _ (List.getElem_mem hi)
    refine y_eq (by rw [hA]; exact ixL_s (List.getElem?_eq_getElem hi') e1) (y_eq (by rw [hB]; exact ixL_s (List.getElem?_eq_getElem hi) e1) (y_eq g1 (y_if (fun c => y_some ⟨rfl, fun e => ?_⟩) fun c => y_some ?_)))
    · subst e
      rw [g2.mpr rfl] at c
      exact absurd c (by decide)
    · intro j hj
      by_cases e : j = i
      · subst e
        rw [List.getElem?_eq_getElem hi, List.getElem?_eq_getElem hi']
        have c : v = true := by revert c; cases v <;> simp
        rw [g2.mp c]
      · exact hI j (by omega)
  · intro s hI
    rw [rng_len] at hI
    refine List.ext_getElem? fun j => ?_
    by_cases e : j < ys.length
    · exact hI j (by omega)
    · rw [List.getElem?_eq_none (by omega), List.getElem?_eq_none (by omega)]
theorem eq_seq2 {n : Nat} (IH : ∀ a b : PyData, okD n a → okD n b → Is (m_l_equal n a b) (a = b)) : ∀ xs ys : List PyData, xs.length < 2 ^ 60 → ys.length < 2 ^ 60 → (∀ x ∈ xs, okD n x) → (∀ x ∈ ys, okD n x) → ∀ A B : PyData, (∀ i : Int, ixD A i = atI xs i) → (∀ i : Int, ixD B i = atI ys i) → lenD A = some (xs.length : Int) → lenD B = some (ys.length : Int) →
        Is (Option.bind (lenD A) fun t37 => Option.bind (lenD B) fun t39 => if (!decide (t37 = t39)) = true then some false else Option.bind (lenD B) fun t44 => Option.bind (small62 t44) fun t46 =>
          Option.bind (loopR (S := Unit) (R := Bool) (α := Int) (fun (s48 : Unit) (x49 : Int) => (
                  Option.bind (ixD A x49) fun t68 =>
                  Option.bind (ixD B x49) fun t70 =>
                  Option.bind (m_l_equal n t68 t70) fun t72 =>
                  if (!t72) = true then
                    some (Stp.rt false)
                  else
                    some (Stp.nx (()))
                )) (()) ((rng 0 t44))) fun o51 => match o51 with | .inl s77 => some true | .inr q9 => some q9) (xs = ys) := by
  intro xs ys l1 l2 h1 h2 A B hA hB lA lB
  refine is_bd lA (is_bd lB ?_)
  by_cases e : xs.length = ys.length
  · refine is_n (by rw [e]; simp) (is_bd lB (is_bd (small62_s (by omega) (by omega)) ?_))
    obtain ⟨o, g1, g2⟩ := eq_seq (f := m_l_equal n) e l2 hA hB fun x hx y hy => IH x y (h1 x hx) (h2 y hy)
    refine is_bd g1 ?_
    match o, g2 with
    | .inl _, g2 => exact is_t g2
    | .inr b, ⟨g2, g3⟩ => subst g2; exact is_f g3
  · refine is_p ?_ (is_f fun h => e (congrArg List.length h))
    rw [Bool.not_eq_true']
    exact decide_eq_false fun h => e (by omega)
theorem eq_ok : ∀ (n : Nat) (a b : PyData), okD n a → okD n b → Is (m_l_equal n a b) (a = b)
  | 0, _, _, h, _ => h.elim
  | n + 1, a, b, ha, hb => by
    show Is (F_m_l_equal _ _ _) _
    unfold F_m_l_equal
    cases b with
    | none =>
      refine is_p rfl ?_
      cases a <;> first | exact is_t rfl | exact is_f (by intro e; cases e)
    | bool y =>
      refine is_n rfl (is_p rfl (is_bi ?_))
      cases a with
      | bool x => exact is_p rfl (is_bi (by rw [eqvD_ok (a := .bool x) (b := .bool y) (by rfl) (by rfl)]; exact is_b (by simp [PyData.eqv])))
      | _ => exact is_n rfl (is_f (by intro e; cases e))
    | int y =>
      refine is_n rfl (is_n rfl (is_p rfl (is_bi ?_)))
      cases a with
      | int x => exact is_p rfl (is_bi (is_p rfl (is_bi (by rw [eqvD_ok (a := .int x) (b := .int y) (by rfl) (by rfl)]; exact is_b (by simp [PyData.eqv])))))
      | bool x => exact is_p rfl (is_bi (is_n rfl (is_f (by intro e; cases e))))
      | _ => exact is_n rfl (is_f (by intro e; cases e))
    | str y =>
      refine is_n rfl (is_n rfl (is_n rfl (is_p rfl (is_bi ?_))))
      cases a with
      | str x => exact is_p rfl (is_bi (by rw [eqvD_ok (a := .str x) (b := .str y) ha hb]; exact is_b (by simp [PyData.eqv])))
      | _ => exact is_n rfl (is_f (by intro e; cases e))
    | list ys =>
      refine is_n rfl (is_n rfl (is_n rfl (is_n rfl (is_n rfl ?_))))
      cases a with
      | list xs =>
        refine is_n rfl ?_
        exact eq_seq2 (eq_ok n) xs ys ha.1 hb.1 ha.2 hb.2 (.list xs) (.list ys) (fun _ => rfl) (fun _ => rfl) rfl rfl |>.imp fun c h => ⟨h.1, h.2.trans (by simp)⟩
      | _ => exact is_p rfl (is_f (by intro e; cases e))
    | tuple ys =>
      refine is_n rfl (is_n rfl (is_n rfl (is_n rfl ?_)))
      cases a with
      | tuple xs =>
        refine is_n rfl (is_n rfl ?_)
        exact eq_seq2 (eq_ok n) xs ys ha.1 hb.1 ha.2 hb.2 (.tuple xs) (.tuple ys) (fun _ => rfl) (fun _ => rfl) rfl rfl |>.imp fun c h => ⟨h.1, h.2.trans (by simp)⟩
      | _ => exact is_p rfl (is_f (by intro e; cases e))
    | dict _ => exact hb.elim
theorem eq_typed {α : Type} [DecidableEq α] {r : Rep α} {f : α → PyData} {m n : Nat} (D : DR r f m) {a b : α} (ha : okD n (f a)) (hb : okD n (f b)) : m_l_equal n (f a) (f b) = some (decide (a = b)) := by
  obtain ⟨c, h1, h2⟩ := eq_ok n _ _ ha hb
  rw [h1]
  congr 1
  rw [Bool.eq_iff_iff, h2, decide_eq_true_iff]
  exact ⟨D.inj a b, fun h => by rw [h]⟩
end L3


namespace L3
open PySem L2
theorem y_p {α : Type} {P : α → Prop} {b : Bool} {x y : Option α} (h : b = true) (k : Yes x P) : Yes (if b = true then x else y) P := by rw [if_pos h]; exact k
theorem y_n {α : Type} {P : α → Prop} {b : Bool} {x y : Option α} (h : b = false) (k : Yes y P) : Yes (if b = true then x else y) P := by rw [if_neg (by rw [h]; exact Bool.false_ne_true)]; exact k
end L3

namespace L3
open PySem L2
theorem ixL_lit {α : Type} {xs : List α} {i : Int} {P : α → Prop} (h0 : 0 ≤ i) (h1 : i < xs.length) (h : ∀ x ∈ xs, P x) : Yes (ixL xs i) P := by
  obtain ⟨n, hn⟩ := Int.eq_ofNat_of_zero_le h0
  have hl : n < xs.length := by omega
  exact ⟨xs[n], ixL_s (List.getElem?_eq_getElem hl) hn, h _ (List.getElem_mem hl)⟩
/-- comprehensions: they answer -/
theorem y_comp {S α β : Type} (f : S → α → Option (Option β × S)) (I : Nat → List β → S → Prop) {xs : List α} {s : S} (h0 : I 0 [] s) (hs : ∀ (i : Nat) x ys s, xs[i]? = some x → I i ys s → Yes (f s x) fun r => I (i + 1) (ys ++ r.1.toList) r.2) : Yes (compM f s xs) fun r => I xs.length r.1 r.2 := by
  have key : ∀ (xs : List α) (k : Nat) (pre : List β) (s : S), I k pre s → (∀ (i : Nat) x ys s, xs[i]? = some x → I (k + i) ys s → Yes (f s x) fun r => I (k + i + 1) (ys ++ r.1.toList) r.2) → Yes (compM f s xs) fun r => I (k + xs.length) (pre ++ r.1) r.2 := by
    intro xs
    induction xs with
    | nil => intro k pre s h _; exact ⟨([], s), rfl, by simpa using h⟩
    | cons x xs ih =>
      intro k pre s h hs
      obtain ⟨⟨o, s'⟩, h1, h2⟩ := hs 0 x pre s rfl h
      obtain ⟨⟨ys, s2⟩, h3, h4⟩ := ih (k + 1) (pre ++ o.toList) s' h2 fun i y zs s hy hI => by
        have := hs (i + 1) y zs s (by simpa using hy) (by rw [show k + (i + 1) = k + 1 + i by omega]; exact hI)
        rw [show k + (i + 1) + 1 = k + 1 + i + 1 by omega] at this
        exact this
      refine ⟨(o.toList ++ ys, s2), ?_, ?_⟩
      · unfold compM
        rw [h1]
        dsimp only
        rw [h3]
      · rw [show k + (x :: xs).length = k + 1 + xs.length by simp; omega]
        show I _ (pre ++ (o.toList ++ ys)) s2
        rw [← List.append_assoc]
        exact h4
  have := key xs 0 [] s h0 fun i x ys s hx hI => by
    rw [Nat.zero_add] at hI ⊢
    exact hs i x ys s hx hI
  simpa using this
end L3

namespace L3
open PySem L2
/-! ### drawn systems -/
abbrev TE' := List (Int × Int)
abbrev TC' := Int × List (Int × Int)
abbrev TS' := List (List (Int × List (Int × Int)))
def VE (many : Nat) (e : List (Int × Int)) : Prop := e ≠ [] ∧ e.length ≤ many ∧ (∀ q ∈ e, 0 ≤ q.1 ∧ q.1 < (many : Int) ∧ 1 ≤ q.2 ∧ q.2 ≤ 1000) ∧ e.Pairwise fun a b => a.1 < b.1
def VC (many : Nat) (c : Int × List (Int × Int)) : Prop := 0 ≤ c.1 ∧ c.1 ≤ 1000 ∧ VE many c.2
def VCS (many most : Nat) (cs : List (Int × List (Int × Int))) : Prop := 1 ≤ cs.length ∧ cs.length ≤ most ∧ ∀ c ∈ cs, VC many c
def VS (most : Nat) (s : List (List (Int × List (Int × Int)))) : Prop := 1 ≤ s.length ∧ ∀ cs ∈ s, VCS s.length most cs
theorem ends_ok {st : List Int × Int} {n many : Int} (hs : StOk st n) (hn : n < 2 ^ 50) (hm : 1 ≤ many) (hm2 : many ≤ 100) : Yes (m_l_ends st many) fun r => VE many.toNat r.1 ∧ StOk r.2 (n + 1 + 2 * many) := by
  unfold m_l_ends
  refine y_bind (take_ok hs (by omega) (by omega)) fun t3 h3 => ?_
  refine y_eq (small62_s (by omega) (by omega)) ?_
  obtain ⟨⟨h31, h32⟩, h33⟩ := h3
  refine y_bind (Q := fun (p : List (Int × Int) × (List Int × Int)) => VE many.toNat p.1 ∧ StOk p.2 (n + 1 + 2 * many)) ?_ fun p hp => y_some hp
  refine (y_foldI _ (fun i (p : List (Int × Int) × (List Int × Int)) => p.1.length ≤ i ∧ (∀ q ∈ p.1, 0 ≤ q.1 ∧ q.1 < (i : Int) ∧ 1 ≤ q.2 ∧ q.2 ≤ 1000) ∧ (p.1.Pairwise fun a b => a.1 < b.1) ∧ (t3.1 < i → p.1 ≠ []) ∧ StOk p.2 (n + 1 + 2 * i))
    ⟨by simp, by simp, .nil, fun h => absurd h (by omega), by simpa using h33⟩ ?_).mono fun p hp => ?_
  · rintro i x ⟨e, st⟩ hx ⟨g1, g2, g3, g4, g5⟩
    obtain ⟨e1, e2⟩ := rng_at hx
    have e1 : x = (i : Int) := by omega
    subst e1
    dsimp only at g1 g2 g3 g4 g5
    refine y_bind (Q := fun (p : Bool × (List Int × Int)) => ((t3.1 = (i : Int)) → p.1 = true) ∧ StOk p.2 (n + 1 + 2 * i + 1)) (y_if (fun c => y_some ⟨fun _ => rfl, ?_⟩) (fun c => ?_)) fun p hp => ?_
    · exact g5.le (by omega)
    · exact y_bind (take_ok g5 (by omega) (by decide)) fun t30 h30 => y_some ⟨fun q => absurd (decide_eq_true q.symm) c, h30.2⟩
    · refine y_bind (Q := fun (q : List (Int × Int) × (List Int × Int)) => q.1.length ≤ i + 1 ∧ (∀ z ∈ q.1, 0 ≤ z.1 ∧ z.1 < ((i + 1 : Nat) : Int) ∧ 1 ≤ z.2 ∧ z.2 ≤ 1000) ∧ (q.1.Pairwise fun a b => a.1 < b.1) ∧ (t3.1 < ((i + 1 : Nat) : Int) → q.1 ≠ []) ∧ StOk q.2 (n + 1 + 2 * ((i + 1 : Nat) : Int))) (y_if (fun c => ?_) fun c => y_some ?_) fun q hq => y_some hq
      · refine y_bind (take_ok hp.2 (by omega) (by decide)) fun t39 h39 => ?_
        refine y_bind (ixL_lit (P := fun z => 1 ≤ z ∧ z ≤ 1000) h39.1.1 h39.1.2 (by decide)) fun t41 h41 => y_eq (room_s (by show e.length ≤ _; omega)) (y_some ⟨?_, ?_, ?_, ?_, ?_⟩)
        · show (e ++ [_]).length ≤ _
          rw [List.length_append, List.length_singleton]; omega
        · intro z hz
          rcases List.mem_append.mp hz with hz | hz
          · have := g2 z hz; omega
          · rw [List.mem_singleton.mp hz]; show 0 ≤ (i : Int) ∧ (i : Int) < _ ∧ 1 ≤ t41 ∧ t41 ≤ 1000; omega
        · show (e ++ [_]).Pairwise _
          refine List.pairwise_append.mpr ⟨g3, List.pairwise_singleton _ _, fun a ha b hb => ?_⟩
          rw [List.mem_singleton.mp hb]
          exact (g2 a ha).2.1
        · intro _ h; exact absurd h (by simp)
        · exact h39.2.le (by omega)
      · refine ⟨Nat.le_succ_of_le g1, fun z hz => by have := g2 z hz; omega, g3, fun h => ?_, ?_⟩
        · by_cases q : t3.1 = (i : Int)
          · exact absurd (hp.1 q) c
          · exact g4 (by omega)
        · exact hp.2.le (by omega)
  · obtain ⟨g1, g2, g3, g4, g5⟩ := hp
    rw [rng_len] at g1 g2 g4 g5
    have em : (((many - 0).toNat : Nat) : Int) = many := by omega
    refine ⟨⟨g4 (by omega), by omega, fun q hq => by have := g2 q hq; omega, g3⟩, ?_⟩
    rw [em] at g5
    exact g5
theorem choices_ok {st : List Int × Int} {n many most : Int} (hs : StOk st n) (hn : n < 2 ^ 49) (hm : 1 ≤ many) (hm2 : many ≤ 100) (h1 : 1 ≤ most) (h2 : most ≤ 100) : Yes (m_l_choices st many most) fun r => VCS many.toNat most.toNat r.1 ∧ StOk r.2 (n + 1 + most * 300) := by
  unfold m_l_choices
  refine y_bind (take_ok hs (by omega) (by omega)) fun t3 h3 => ?_
  obtain ⟨⟨h31, h32⟩, h33⟩ := h3
  refine y_eq (small62_s (by omega) (by omega)) ?_
  refine y_bind (Q := fun (p : List (Int × List (Int × Int)) × (List Int × Int)) => VCS many.toNat most.toNat p.1 ∧ StOk p.2 (n + 1 + most * 300)) ?_ fun p hp => y_some hp
  refine (y_foldI _ (fun i (p : List (Int × List (Int × Int)) × (List Int × Int)) => p.1.length = i ∧ (∀ c ∈ p.1, VC many.toNat c) ∧ StOk p.2 (n + 1 + 300 * i)) ⟨rfl, by simp, by simpa using h33⟩ ?_).mono fun p hp => ?_
  · rintro i x ⟨e, st⟩ hx ⟨g1, g2, g3⟩
    obtain ⟨e1, e2⟩ := rng_at hx
    dsimp only at g1 g2 g3
    refine y_bind (take_ok g3 (by omega) (by decide)) fun t27 h27 => ?_
    refine y_bind (ixL_lit (P := fun z => 0 ≤ z ∧ z ≤ 1000) h27.1.1 h27.1.2 (by decide)) fun t29 h29 => ?_
    refine y_bind (ends_ok h27.2 (by omega) hm hm2) fun t31 h31' => y_eq (room_s (by show e.length ≤ _; omega)) (y_some ⟨?_, ?_, ?_⟩)
    · show (e ++ [_]).length = _
      rw [List.length_append, List.length_singleton, g1]
    · intro z hz
      rcases List.mem_append.mp hz with hz | hz
      · exact g2 z hz
      · rw [List.mem_singleton.mp hz]; exact ⟨h29.1, h29.2, h31'.1⟩
    · exact h31'.2.le (by omega)
  · obtain ⟨g1, g2, g3⟩ := hp
    rw [rng_len] at g1 g3
    refine ⟨⟨by omega, by omega, g2⟩, ?_⟩
    exact g3.le (by omega)
theorem system_ok {st : List Int × Int} {n most : Int} (hs : StOk st n) (hn : n < 2 ^ 48) (h1 : 1 ≤ most) (h2 : most ≤ 99) : Yes (m_l_system st most) fun r => (VS 3 r.1 ∧ (r.1.length : Int) ≤ most) ∧ StOk r.2 (n + 1 + most * 1000) := by
  unfold m_l_system
  refine y_bind (take_ok hs (by omega) (by omega)) fun t1 h => ?_
  obtain ⟨⟨h11, h12⟩, h13⟩ := h
  refine y_eq (small62_s (by omega) (by omega)) (y_eq (room_s (by rw [rng_len]; omega)) ?_)
  refine y_bind (Q := fun (r : List (List (Int × List (Int × Int))) × (List Int × Int)) => (VS 3 r.1 ∧ (r.1.length : Int) ≤ most) ∧ StOk r.2 (n + 1 + most * 1000)) ?_ fun r hr => y_some hr
  refine (y_comp _ (fun i ys s => ys.length = i ∧ (∀ cs ∈ ys, VCS (1 + t1.1).toNat 3 cs) ∧ StOk s (n + 1 + 1000 * i)) ⟨rfl, by simp, by simpa using h13⟩ ?_).mono fun r hr => ?_
  · rintro i x ys s hx ⟨g1, g2, g3⟩
    obtain ⟨e1, e2⟩ := rng_at hx
    refine y_bind (choices_ok g3 (by omega) (by omega) (by omega) (by decide) (by decide)) fun t32 h32 => y_some ⟨?_, ?_, ?_⟩
    · simp [g1]
    · intro cs hc
      rcases List.mem_append.mp hc with hc | hc
      · exact g2 cs hc
      · have hc : cs = t32.1 := by simpa using hc
        rw [hc]; exact h32.1
    · exact h32.2.le (by omega)
  · obtain ⟨g1, g2, g3⟩ := hr
    rw [rng_len] at g1 g3
    have el : (1 + t1.1).toNat = r.1.length := by omega
    refine ⟨⟨⟨by omega, fun cs hc => by rw [← el]; exact g2 cs hc⟩, by omega⟩, ?_⟩
    exact g3.le (by omega)
end L3

namespace L3
open PySem L2
/-! ### general -/
theorem bnd {α β : Type} {o : Option α} {f : α → Option β} {a : α} {r : Option β} (h : o = some a) (k : f a = r) : Option.bind o f = r := by rw [h]; exact k
theorem rgO_s {b : Int} (h0 : 0 ≤ b) (h : b ≤ 1000000) : rgO 0 b = some (rng 0 b) := if_pos ⟨by decide, by decide, by omega, by omega, by omega⟩
theorem repL_s {α : Type} {x : α} {n : Nat} (h : n ≤ 1000000) : repL [x] (n : Int) = some (List.replicate n [x]).flatten := by
  have e : ((n : Int)).toNat = n := by omega
  unfold repL
  rw [if_pos ⟨by omega, by omega, by rw [e, List.length_singleton, Nat.one_mul]; exact Nat.le_of_lt (Nat.lt_of_le_of_lt h (by decide))⟩, e]
theorem rep_flat {α : Type} {x : α} (n : Nat) : (List.replicate n [x]).flatten = List.replicate n x := by simp
theorem ixO_s {n i : Nat} {x : Int} (h : x = (i : Int)) (hi : i < n) : ixO n x = some i := by
  subst h
  unfold ixO ixN
  simp [hi]
theorem mapO_map {α β : Type} {f : α → Option β} {g : α → β} : ∀ {xs : List α}, (∀ x ∈ xs, f x = some (g x)) → mapO f xs = some (xs.map g)
  | [], _ => rfl
  | x :: xs, h => by
    show (match f x, mapO f xs with | some y, some ys => some (y :: ys) | _, _ => none) = _
    rw [h x List.mem_cons_self, mapO_map fun u hu => h u (List.mem_cons_of_mem _ hu)]
    rfl
theorem compM_map {α β : Type} {f : Unit → α → Option (Option β × Unit)} {g : α → β} : ∀ {xs : List α}, (∀ x ∈ xs, f () x = some (some (g x), ())) → compM f () xs = some (xs.map g, ())
  | [], _ => rfl
  | x :: xs, h => by
    unfold compM
    rw [h x List.mem_cons_self]
    dsimp only
    rw [compM_map fun u hu => h u (List.mem_cons_of_mem _ hu)]
    rfl
theorem compM_filter {α : Type} {f : Unit → α → Option (Option α × Unit)} {p : α → Bool} : ∀ {xs : List α}, (∀ x ∈ xs, f () x = if p x = true then some (some x, ()) else some (none, ())) → compM f () xs = some (xs.filter p, ())
  | [], _ => rfl
  | x :: xs, h => by
    have ih := compM_filter (f := f) (p := p) (xs := xs) fun u hu => h u (List.mem_cons_of_mem _ hu)
    unfold compM
    rw [h x List.mem_cons_self]
    cases hp : p x with
    | true => rw [if_pos rfl]; dsimp only; rw [ih, List.filter_cons, hp]; rfl
    | false => rw [if_neg (by decide)]; dsimp only; rw [ih, List.filter_cons, hp]; rfl
theorem foldO_cons {S α : Type} {f : S → α → Option S} {s s' : S} {x : α} {xs : List α} {r : Option S} (h : f s x = some s') (k : foldO f s' xs = r) : foldO f s (x :: xs) = r := by
  unfold foldO
  rw [h]
  exact k
theorem compM_cons {S α β : Type} {f : S → α → Option (Option β × S)} {s s' s2 : S} {x : α} {xs : List α} {o : Option β} {ys : List β} (h : f s x = some (o, s')) (k : compM f s' xs = some (ys, s2)) : compM f s (x :: xs) = some (o.toList ++ ys, s2) := by
  unfold compM
  rw [h]
  dsimp only
  rw [k]
theorem any_some {α : Type} {f : α → Option Bool} {g : α → Bool} : ∀ {xs : List α}, (∀ x ∈ xs, f x = some (g x)) → anyM f xs = some (xs.any g)
  | [], _ => rfl
  | x :: xs, h => by
    unfold anyM
    rw [h x List.mem_cons_self, List.any_cons]
    cases hx : g x with
    | true => rfl
    | false =>
      dsimp only
      rw [any_some fun u hu => h u (List.mem_cons_of_mem _ hu)]
      rfl
theorem all_some {α : Type} {f : α → Option Bool} {g : α → Bool} : ∀ {xs : List α}, (∀ x ∈ xs, f x = some (g x)) → allM f xs = some (xs.all g)
  | [], _ => rfl
  | x :: xs, h => by
    unfold allM
    rw [h x List.mem_cons_self, List.all_cons]
    cases hx : g x with
    | false => rfl
    | true =>
      dsimp only
      rw [all_some fun u hu => h u (List.mem_cons_of_mem _ hu)]
      rfl
/-- a filter with a partial test -/
theorem compM_filterB {α : Type} {f : Unit → α → Option (Option α × Unit)} {p : α → Bool} {g : α → Option Bool} (hf : ∀ x, f () x = Option.bind (g x) fun t => if t = true then some (some x, ()) else some (none, ())) {xs : List α} (h : ∀ x ∈ xs, g x = some (p x)) : compM f () xs = some (xs.filter p, ()) :=
  compM_filter fun x hx => by rw [hf, h x hx]; rfl
theorem nodup_le {many : Nat} {l : List Int} (h : l.Nodup) (hm : ∀ x ∈ l, 0 ≤ x ∧ x < (many : Int)) : l.length ≤ many := by
  have e : (l.map Int.toNat).Nodup := by
    refine List.pairwise_map.mpr ?_
    refine h.imp_of_mem fun {a b} ha hb hab => ?_
    have := hm a ha; have := hm b hb
    omega
  have s : (l.map Int.toNat) ⊆ List.range many := fun x hx => by
    obtain ⟨y, hy, rfl⟩ := List.mem_map.mp hx
    have := hm y hy
    exact List.mem_range.mpr (by omega)
  have := List.Nodup.length_le_of_subset e s
  rwa [List.length_map, List.length_range] at this
end L3

namespace L3
open PySem L2
/-! ### data that law_equal compares -/
theorem okD_tup {n : Nat} (p : List Int) (h : p.length ≤ 1000) : okD (n + 2) (dTup PyData.int p) := by
  refine ⟨by rw [List.length_map]; omega, fun x hx => ?_⟩
  obtain ⟨q, _, rfl⟩ := List.mem_map.mp hx
  trivial
theorem okD_q {n : Nat} (x : Int × Int) : okD (n + 2) (dT2 PyData.int PyData.int x) := by
  refine ⟨by show 2 < _; decide, fun z hz => ?_⟩
  have hz : z ∈ [PyData.int x.1, PyData.int x.2] := hz
  rcases List.mem_cons.mp hz with rfl | hz
  · trivial
  · rw [List.mem_singleton.mp hz]; trivial
theorem okD_lst {α : Type} {n : Nat} {f : α → PyData} {l : List α} (h : l.length ≤ 1000) (hf : ∀ x ∈ l, okD n (f x)) : okD (n + 1) (dLst f l) := by
  refine ⟨by rw [List.length_map]; omega, fun x hx => ?_⟩
  obtain ⟨q, hq, rfl⟩ := List.mem_map.mp hx
  exact hf q hq
theorem okD_T2 {α β : Type} {n : Nat} {f : α → PyData} {g : β → PyData} {x : α × β} (h1 : okD n (f x.1)) (h2 : okD n (g x.2)) : okD (n + 1) (dT2 f g x) := by
  refine ⟨by show 2 < _; decide, fun z hz => ?_⟩
  have hz : z ∈ [f x.1, g x.2] := hz
  rcases List.mem_cons.mp hz with rfl | hz
  · exact h1
  · rw [List.mem_singleton.mp hz]; exact h2
theorem eq_self {d : PyData} (h : okD 8 d) : m_l_equal 8 d d = some true := by
  obtain ⟨v, v1, v2⟩ := eq_ok 8 _ _ h h
  rw [v1, v2.mpr rfl]
end L3

namespace L3
open PySem L2
/-! ### sets of states -/
def restOf (n : Int) (al ta : List Int) : List Int := (rng 0 n).filter fun x => decide (x ∈ al) && !decide (x ∈ ta)
theorem rest_in {n : Int} {al ta : List Int} {r : Int} (h : r ∈ restOf n al ta) : (0 ≤ r ∧ r < n) ∧ r ∈ al ∧ r ∉ ta := by
  obtain ⟨h1, h2⟩ := List.mem_filter.mp h
  simp at h2
  exact ⟨rng_mem h1, h2⟩
theorem rest_len {n : Nat} {al ta : List Int} : (restOf (n : Int) al ta).length ≤ n := by
  refine Nat.le_trans (List.length_filter_le _ _) ?_
  rw [rng_len]; omega
theorem some_ok {st : List Int × Int} {n many share : Int} (hs : StOk st n) (hn : n < 2 ^ 50) (h0 : 0 ≤ many) (h1 : many ≤ 1000) (h2 : 0 < share) : Yes (m_l_some st many share) fun r => ((∀ x ∈ r.1, 0 ≤ x ∧ x < many) ∧ r.1.Nodup) ∧ StOk r.2 (n + many + 1) := by
  unfold m_l_some
  refine y_eq (small62_s (by omega) (by omega)) (y_eq (room_s (by rw [rng_len]; omega)) ?_)
  refine y_bind (Q := fun (r : List Int × (List Int × Int)) => ((∀ x ∈ r.1, 0 ≤ x ∧ x < many) ∧ r.1.Nodup) ∧ StOk r.2 (n + many)) ?_ fun r hr => ?_
  · refine (y_comp _ (fun i ys s => ((∀ x ∈ ys, 0 ≤ x ∧ x < (i : Int)) ∧ ys.Nodup) ∧ StOk s (n + i)) ⟨⟨by simp, by simp⟩, by simpa using hs⟩ ?_).mono fun r hr => ?_
    · rintro i x ys s hx ⟨⟨g1, g2⟩, g3⟩
      obtain ⟨e1, e2⟩ := rng_at hx
      refine y_bind (take_ok g3 (by omega) h2) fun t ht => ?_
      refine y_if (fun c => y_some ⟨⟨fun y hy => ?_, ?_⟩, ht.2.le (by omega)⟩) (fun c => y_some ⟨⟨fun y hy => ?_, ?_⟩, ht.2.le (by omega)⟩)
      · rcases List.mem_append.mp hy with hy | hy
        · have := g1 y hy; omega
        · have : y = x := by simpa using hy
          omega
      · refine List.nodup_append.mpr ⟨g2, by simp, fun a ha b hb => ?_⟩
        have : b = x := by simpa using hb
        have := g1 a ha
        omega
      · have hy : y ∈ ys := by simpa using hy
        have := g1 y hy; omega
      · simpa using g2
    · rw [rng_len] at hr
      obtain ⟨⟨a, b⟩, c⟩ := hr
      have e : (((many - 0).toNat : Nat) : Int) = many := by omega
      rw [e] at a c
      exact ⟨⟨a, b⟩, c⟩
  · refine y_bind (take_ok hr.2 (by omega) (by decide)) fun t ht => ?_
    refine y_bind (Q := fun (r : List Int × (List Int × Int)) => ((∀ x ∈ r.1, 0 ≤ x ∧ x < many) ∧ r.1.Nodup) ∧ StOk r.2 (n + many + 1)) (y_if (fun c => y_some ⟨⟨fun x hx => hr.1.1 x (List.mem_reverse.mp hx), (List.reverse_perm _).nodup_iff.mpr hr.1.2⟩, ht.2⟩) (fun c => y_some ⟨hr.1, ht.2⟩)) fun r hr => y_some hr
end L3

namespace L3
open PySem L2
/-! ### sets of states that grow or shrink -/
abbrev TSy := List (List (Int × List (Int × Int)))
def ixb (ks : List Bool) (x : Int) : Bool := ks.getD x.toNat false
def chs' (sys : TSy) (x : Int) : List (Int × List (Int × Int)) := sys.getD x.toNat []
def OKS (n : Nat) (sys : TSy) : Prop := sys.length = n ∧ n ≤ 1000 ∧ ∀ cs ∈ sys, cs.length ≤ 1000 ∧ ∀ c ∈ cs, c.2.length ≤ 1000 ∧ ∀ q ∈ c.2, 0 ≤ q.1 ∧ q.1 < (n : Int)
def InR (n : Nat) (x : Int) : Prop := 0 ≤ x ∧ x < (n : Int)
theorem ixb_ix {n : Nat} {ks : List Bool} {x : Int} (h : ks.length = n) (hx : InR n x) : ixL ks x = some (ixb ks x) := by
  obtain ⟨h0, h1⟩ := hx
  obtain ⟨k, rfl⟩ := Int.eq_ofNat_of_zero_le h0
  have hk : k < ks.length := by omega
  refine ixL_s (n := k) ?_ rfl
  unfold ixb
  rw [Int.toNat_natCast, List.getD_eq_getElem?_getD, List.getElem?_eq_getElem hk]
  rfl
theorem chs_ix {n : Nat} {sys : TSy} {x : Int} (h : OKS n sys) (hx : InR n x) : ixL sys x = some (chs' sys x) ∧ chs' sys x ∈ sys := by
  obtain ⟨h0, h1⟩ := hx
  obtain ⟨k, rfl⟩ := Int.eq_ofNat_of_zero_le h0
  have hk : k < sys.length := by have := h.1; omega
  have e : chs' sys (k : Int) = sys[k] := by
    unfold chs'
    rw [Int.toNat_natCast, List.getD_eq_getElem?_getD, List.getElem?_eq_getElem hk]
    rfl
  rw [e]
  exact ⟨ixL_s (List.getElem?_eq_getElem hk) rfl, List.getElem_mem hk⟩
theorem ends_r {n : Nat} {sys : TSy} {x : Int} {c : Int × List (Int × Int)} {q : Int × Int} (h : OKS n sys) (hx : InR n x) (hc : c ∈ chs' sys x) (hq : q ∈ c.2) : InR n q.1 := ((h.2.2 _ (chs_ix h hx).2).2 c hc).2 q hq
theorem ixb_set {ks : List Bool} {x y : Int} {b : Bool} (hx : 0 ≤ x) (hy : 0 ≤ y) (hl : x < (ks.length : Int)) : ixb (ks.set x.toNat b) y = if y = x then b else ixb ks y := by
  obtain ⟨i, rfl⟩ := Int.eq_ofNat_of_zero_le hx
  obtain ⟨j, rfl⟩ := Int.eq_ofNat_of_zero_le hy
  unfold ixb
  simp only [Int.toNat_natCast, List.getD_eq_getElem?_getD]
  by_cases h : i = j
  · subst h
    rw [if_pos rfl, List.getElem?_set_self (by omega)]
    rfl
  · rw [if_neg (by omega), List.getElem?_set_ne h]
def endsIn (e : List (Int × Int)) (ks : List Bool) : Bool := e.any fun q => ixb ks q.1
def allIn (e : List (Int × Int)) (ks : List Bool) : Bool := e.all fun q => ixb ks q.1
/-! ### a loop that flips marks while it can -/
def stepG (fl : Bool) (cond : List Bool → Int → Bool) (s : Bool × List Bool) (x : Int) : Bool × List Bool := if (ixb s.2 x == !fl) && cond s.2 x then (true, s.2.set x.toNat fl) else s
theorem cnt_set {ks : List Bool} {x : Int} {b : Bool} (hx : 0 ≤ x) (hl : x < (ks.length : Int)) (h : ixb ks x = !b) : (ks.set x.toNat b).count (!b) < ks.count (!b) := by
  obtain ⟨i, rfl⟩ := Int.eq_ofNat_of_zero_le hx
  have hi : i < ks.length := by omega
  unfold ixb at h
  rw [Int.toNat_natCast, List.getD_eq_getElem?_getD, List.getElem?_eq_getElem hi] at h
  have h : ks[i] = !b := h
  have e1 : ((!b) == (!b)) = true := by cases b <;> rfl
  have e2 : (b == !b) = false := by cases b <;> rfl
  have : 0 < ks.count (!b) := List.count_pos_iff.mpr (h ▸ List.getElem_mem hi)
  rw [Int.toNat_natCast, List.count_set hi, h, e1, e2, if_pos rfl, if_neg (by decide)]
  omega
theorem grow_ok {rest : List Int} {fl : Bool} {cond : List Bool → Int → Bool} {n : Nat} {ks0 : List Bool} (h0 : ks0.length = n) (hr : ∀ x ∈ rest, InR n x)
    (body : (Bool × List Bool) → Int → Option (Bool × List Bool)) (hb : ∀ s x, s.2.length = n → x ∈ rest → body s x = some (stepG fl cond s x))
    (Inv : List Bool → Prop) (hI0 : Inv ks0) (hI : ∀ ks x, ks.length = n → Inv ks → x ∈ rest → ixb ks x = !fl → cond ks x = true → Inv (ks.set x.toNat fl))
    (F : (Bool × List Bool) → Option (Stp (Bool × List Bool) Empty)) (hF : ∀ s, F s = if s.1 = true then Option.bind (foldO body (false, s.2) rest) fun s' => some (Stp.nx (s'.1, s'.2)) else some (Stp.bk (s.1, s.2))) :
    Yes (whileB F (true, ks0)) fun s => s.2.length = n ∧ Inv s.2 ∧ ∀ x ∈ rest, ixb s.2 x = !fl → cond s.2 x = false := by
  refine y_whileB F (fun s => s.2.length = n ∧ Inv s.2 ∧ (s.1 = false → ∀ x ∈ rest, ixb s.2 x = !fl → cond s.2 x = false)) (fun s => 2 * s.2.count (!fl) + if s.1 = true then 1 else 0) _ ⟨h0, hI0, fun h => (by cases h)⟩ ?_
  rintro ⟨g, ks⟩ ⟨h1, h2, h3⟩
  dsimp only at h1 h2 h3
  rw [hF]
  refine y_if (fun c => ?_) (fun c => y_some ⟨h1, h2, h3 (by simpa using c)⟩)
  have c : g = true := c
  subst c
  refine y_bind (y_foldI body (fun i s => s.2.length = n ∧ Inv s.2 ∧ (s.1 = false → s.2 = ks ∧ ∀ (j : Nat) x, j < i → rest[j]? = some x → ixb ks x = !fl → cond ks x = false) ∧ (s.1 = true → s.2.count (!fl) < ks.count (!fl)) ∧ s.2.count (!fl) ≤ ks.count (!fl)) ⟨h1, h2, fun _ => ⟨rfl, fun j x hj => absurd hj (by omega)⟩, fun h => (by cases h), Nat.le_refl _⟩ ?_) fun s' hs' => y_some ?_
  · rintro i x ⟨g', ks'⟩ hx ⟨k1, k2, k3, k4, k5⟩
    dsimp only at k1 k2 k3 k4 k5
    have hm := List.mem_of_getElem? hx
    obtain ⟨x0, x1⟩ := hr x hm
    refine ⟨_, hb _ x k1 hm, ?_⟩
    unfold stepG
    by_cases t : ((ixb ks' x == !fl) && cond ks' x) = true
    · rw [if_pos t]
      simp only [Bool.and_eq_true, beq_iff_eq] at t
      have hc := cnt_set x0 (by omega) t.1
      exact ⟨by simp [k1], hI _ _ k1 k2 hm t.1 t.2, fun h => (by cases h), fun _ => Nat.lt_of_lt_of_le hc k5, Nat.le_trans (Nat.le_of_lt hc) k5⟩
    · rw [if_neg t]
      refine ⟨k1, k2, fun h => ?_, k4, k5⟩
      obtain ⟨e, k6⟩ := k3 h
      have e : ks' = ks := e
      subst e
      refine ⟨rfl, fun j y hj hy hy2 => ?_⟩
      by_cases ej : j = i
      · subst ej
        rw [hx] at hy
        cases hy
        simp only [Bool.and_eq_true, beq_iff_eq, not_and, Bool.not_eq_true] at t
        exact t hy2
      · exact k6 j y (by omega) hy hy2
  · obtain ⟨k1, k2, k3, k4, k5⟩ := hs'
    refine ⟨⟨k1, k2, fun h x hx hx2 => ?_⟩, ?_⟩
    · obtain ⟨e, k6⟩ := k3 h
      obtain ⟨j, hj⟩ := List.getElem?_of_mem hx
      rw [e] at hx2 ⊢
      exact k6 j x (List.getElem?_eq_some_iff.mp hj).1 hj hx2
    · show 2 * s'.2.count (!fl) + (if s'.1 = true then 1 else 0) < 2 * ks.count (!fl) + 1
      by_cases g : s'.1 = true
      · rw [if_pos g]; have := k4 g; omega
      · rw [if_neg g]; omega
/-! ### what is reached -/
inductive Rch (st : Int → Int → Prop) (b : Int → Prop) : Int → Prop
  | base {x : Int} : b x → Rch st b x
  | step {x y : Int} : st x y → Rch st b y → Rch st b x
theorem Rch.mono {st st' : Int → Int → Prop} {b b' : Int → Prop} (h1 : ∀ x y, st x y → st' x y) (h2 : ∀ x, b x → b' x) {x : Int} (h : Rch st b x) : Rch st' b' x := by
  induction h with
  | base h => exact .base (h2 _ h)
  | step s _ ih => exact .step (h1 _ _ s) ih
theorem Rch.sub {st : Int → Int → Prop} {b X : Int → Prop} (h1 : ∀ x y, st x y → X y → X x) (h2 : ∀ x, b x → X x) {x : Int} (h : Rch st b x) : X x := by
  induction h with
  | base h => exact h2 _ h
  | step s _ ih => exact h1 _ _ s ih
/-- some choice of x has y as an end -/
def stS (sys : TSy) (rest : List Int) (x y : Int) : Prop := x ∈ rest ∧ ∃ c ∈ chs' sys x, ∃ q ∈ c.2, q.1 = y
end L3

namespace L3
open PySem L2
/-! ### dicts as lists of rows -/
abbrev DM := List (Int × List Int)
section
variable {α β : Type}
theorem getM_none {D : List (Int × α)} {k : Int} : getM D k = none ↔ k ∉ D.map (·.1) := by
  induction D with
  | nil => simp [getM]
  | cons q D ih =>
    unfold getM
    by_cases h : q.1 = k
    · rw [if_pos h]; simp [h]
    · rw [if_neg h, ih]
      simp [Ne.symm h]
theorem getM_some {D : List (Int × α)} {k : Int} {v : α} (h : getM D k = some v) : (k, v) ∈ D := by
  induction D with
  | nil => cases h
  | cons q D ih =>
    unfold getM at h
    by_cases e : q.1 = k
    · rw [if_pos e] at h
      cases h
      subst e
      exact List.mem_cons_self
    · rw [if_neg e] at h
      exact List.mem_cons_of_mem _ (ih h)
theorem getM_mem {D : List (Int × α)} (nd : (D.map (·.1)).Nodup) {k : Int} {v : α} (h : (k, v) ∈ D) : getM D k = some v := by
  induction D with
  | nil => cases h
  | cons q D ih =>
    rw [List.map_cons, List.nodup_cons] at nd
    unfold getM
    rcases List.mem_cons.mp h with e | e
    · rw [if_pos (by rw [← e]), ← e]
    · have : q.1 ≠ k := fun z => nd.1 (List.mem_map.mpr ⟨_, e, z.symm⟩)
      rw [if_neg this]
      exact ih nd.2 e
theorem getM_key {D : List (Int × α)} {k : Int} (h : k ∈ D.map (·.1)) : ∃ v, getM D k = some v := by
  cases e : getM D k with
  | none => exact absurd h (getM_none.mp e)
  | some v => exact ⟨v, rfl⟩
theorem getM_in {D : List (Int × α)} {k : Int} {v : α} (h : getM D k = some v) : k ∈ D.map (·.1) := List.mem_map.mpr ⟨_, getM_some h, rfl⟩
theorem putM_new {D : List (Int × α)} {k : Int} {v : α} (h : k ∉ D.map (·.1)) : putM D k v = D ++ [(k, v)] := by
  unfold putM
  rw [if_neg]
  intro z
  obtain ⟨q, hq, e⟩ := List.any_eq_true.mp z
  exact h (List.mem_map.mpr ⟨q, hq, of_decide_eq_true e⟩)
theorem dcMM_new {f : α → Option (Int × β)} {g : α → Int × β} : ∀ {xs : List α} {acc : List (Int × β)}, (∀ x ∈ xs, f x = some (g x)) → (acc.map (·.1) ++ xs.map fun x => (g x).1).Nodup → dcMM f acc xs = some (acc ++ xs.map g)
  | [], acc, _, _ => by simp [dcMM]
  | x :: xs, acc, h, nd => by
    unfold dcMM
    rw [h x List.mem_cons_self]
    have hx : (g x).1 ∉ acc.map (·.1) := fun z => (List.nodup_append.mp nd).2.2 _ z _ (by simp) rfl
    show dcMM f (putM acc (g x).1 (g x).2) xs = _
    rw [putM_new hx, dcMM_new (fun y hy => h y (List.mem_cons_of_mem _ hy)) (by simpa using nd)]
    simp
def putO (s : List (Int × β)) (x : Int) : Option β → List (Int × β)
  | some v => putM s x v
  | none => s
theorem fmap_congr {f g : α → Option β} : ∀ {l : List α}, (∀ x ∈ l, f x = g x) → l.filterMap f = l.filterMap g
  | [], _ => rfl
  | x :: l, h => by
    have e := h x List.mem_cons_self
    have ih := fmap_congr fun y hy => h y (List.mem_cons_of_mem x hy)
    cases hx : f x with
    | none => rw [List.filterMap_cons_none hx, List.filterMap_cons_none (by rw [← e]; exact hx), ih]
    | some b => rw [List.filterMap_cons_some hx, List.filterMap_cons_some (by rw [← e]; exact hx), ih]
/-- a loop that puts a row for some keys -/
theorem fold_put {f : List (Int × β) → Int → Option (List (Int × β))} {h : Int → Option β} : ∀ {xs : List Int} {acc : List (Int × β)}, (∀ x ∈ xs, ∀ s : List (Int × β), s.length ≤ 1000 → f s x = some (putO s x (h x))) → (acc.map (·.1) ++ xs).Nodup → acc.length + xs.length ≤ 1000 →
    foldO f acc xs = some (acc ++ xs.filterMap fun x => (h x).map fun v => (x, v))
  | [], acc, _, _, _ => by simp [foldO]
  | x :: xs, acc, hf, nd, hl => by
    rw [List.length_cons] at hl
    have hx : x ∉ acc.map (·.1) := fun z => (List.nodup_append.mp nd).2.2 _ z _ (by simp) rfl
    have e := hf x List.mem_cons_self acc (by omega)
    cases hv : h x with
    | none =>
      rw [hv] at e
      replace e : f acc x = some acc := e
      refine foldO_cons e ?_
      rw [fold_put (fun y hy => hf y (List.mem_cons_of_mem _ hy)) (nd.sublist (by simp)) (by omega), List.filterMap_cons_none (by rw [hv]; rfl)]
    | some v =>
      rw [hv] at e
      replace e : f acc x = some (putM acc x v) := e
      refine foldO_cons e ?_
      rw [putM_new hx, fold_put (fun y hy => hf y (List.mem_cons_of_mem _ hy)) (by simpa using nd) (by simp; omega), List.filterMap_cons_some (by rw [hv]; rfl)]
      simp
theorem sub_le [DecidableEq α] : ∀ {l m : List α}, l.Nodup → (∀ k ∈ l, k ∈ m) → l.length ≤ m.length
  | [], _, _, _ => Nat.zero_le _
  | x :: l, m, h, hs => by
    rw [List.nodup_cons] at h
    have hx := hs x List.mem_cons_self
    have ih := sub_le (m := m.erase x) h.2 fun k hk => (List.mem_erase_of_ne (fun e => h.1 (by rw [← e]; exact hk))).mpr (hs k (List.mem_cons_of_mem _ hk))
    rw [List.length_erase_of_mem hx] at ih
    have : 0 < m.length := List.length_pos_of_mem hx
    rw [List.length_cons]
    omega
theorem sub_full [DecidableEq α] {l m : List α} (h : l.Nodup) (hs : ∀ k ∈ l, k ∈ m) (hl : m.length ≤ l.length) : ∀ k ∈ m, k ∈ l := fun k hk => by
  by_cases hk2 : k ∈ l
  · exact hk2
  · have := sub_le (m := m.erase k) h fun j hj => (List.mem_erase_of_ne (fun e => hk2 (by rw [← e]; exact hj))).mpr (hs j hj)
    rw [List.length_erase_of_mem hk] at this
    have : 0 < m.length := List.length_pos_of_mem hk
    omega
theorem lt_nodup {l : List Int} (h : l.Pairwise (· < ·)) : l.Nodup := h.imp fun {a b} h => Int.ne_of_lt h
/-- rows by ascending keys, with the same rows -/
theorem rows_unique {D E : List (Int × α)} (hD : (D.map (·.1)).Pairwise (· < ·)) (hE : (E.map (·.1)).Pairwise (· < ·)) (h : ∀ q, q ∈ D ↔ q ∈ E) : D = E := by
  have nD : D.Nodup := (List.pairwise_map.mp hD).imp fun {a b} h e => by rw [e] at h; exact absurd h (Int.lt_irrefl _)
  have nE : E.Nodup := (List.pairwise_map.mp hE).imp fun {a b} h e => by rw [e] at h; exact absurd h (Int.lt_irrefl _)
  refine List.Perm.eq_of_pairwise (le := fun a b => a.1 ≤ b.1) (fun a b ha hb h1 h2 => ?_) ((List.pairwise_map.mp hD).imp fun {a b} h => Int.le_of_lt h) ((List.pairwise_map.mp hE).imp fun {a b} h => Int.le_of_lt h) ((List.perm_ext_iff_of_nodup nD nE).mpr h)
  have e : a.1 = b.1 := Int.le_antisymm h1 h2
  have g1 := getM_mem (lt_nodup hE) (k := a.1) (v := a.2) ((h a).mp ha)
  have g2 := getM_mem (lt_nodup hE) (k := b.1) (v := b.2) hb
  rw [e, g2] at g1
  exact Prod.ext e (Option.some.inj g1).symm
theorem eqM_eq [DecidableEq α] {D E : List (Int × α)} (hD : (D.map (·.1)).Pairwise (· < ·)) (hE : (E.map (·.1)).Pairwise (· < ·)) : eqM D E = decide (D = E) := by
  rw [Bool.eq_iff_iff, decide_eq_true_iff]
  unfold eqM
  rw [Bool.and_eq_true, beq_iff_eq]
  constructor
  · rintro ⟨h1, h2⟩
    have nD : D.Nodup := (List.pairwise_map.mp hD).imp fun {a b} h e => by rw [e] at h; exact absurd h (Int.lt_irrefl _)
    have sub : ∀ q ∈ D, q ∈ E := fun q hq => getM_some (of_decide_eq_true (List.all_eq_true.mp h2 q hq))
    exact rows_unique hD hE fun q => ⟨sub q, sub_full nD sub (by omega) q⟩
  · rintro rfl
    exact ⟨rfl, List.all_eq_true.mpr fun q hq => decide_eq_true (getM_mem (lt_nodup hD) hq)⟩
end
/-! ### rows that lose choices -/
def stepD (ok : Int → Int → Bool) (D : DM) : DM := D.filterMap fun q => if (q.2.filter (ok q.1)).isEmpty then none else some (q.1, q.2.filter (ok q.1))
def cnt (D : DM) : Nat := (D.map fun q => 1 + q.2.length).sum
theorem stepD_mem {ok : Int → Int → Bool} {D : DM} {q : Int × List Int} : q ∈ stepD ok D ↔ ∃ l, (q.1, l) ∈ D ∧ q.2 = l.filter (ok q.1) ∧ q.2 ≠ [] := by
  unfold stepD
  rw [List.mem_filterMap]
  constructor
  · rintro ⟨p, hp, e⟩
    by_cases h : (p.2.filter (ok p.1)).isEmpty = true
    · rw [if_pos h] at e; cases e
    · rw [if_neg h] at e
      cases e
      exact ⟨p.2, hp, rfl, fun z => h (by
        have z : p.2.filter (ok p.1) = [] := z
        rw [z]; rfl)⟩
  · rintro ⟨l, h1, h2, h3⟩
    refine ⟨(q.1, l), h1, ?_⟩
    rw [← h2, if_neg (fun z => h3 (List.isEmpty_iff.mp z))]
theorem stepD_keys (ok : Int → Int → Bool) : ∀ D : DM, (stepD ok D).map (·.1) = (D.filter fun q => !(q.2.filter (ok q.1)).isEmpty).map (·.1)
  | [] => rfl
  | q :: D => by
    unfold stepD
    by_cases h : (q.2.filter (ok q.1)).isEmpty = true
    · rw [List.filterMap_cons_none (by rw [if_pos h]), List.filter_cons_of_neg (by simp [h])]
      exact stepD_keys ok D
    · rw [List.filterMap_cons_some (by rw [if_neg h]), List.filter_cons_of_pos (by simpa using h), List.map_cons, List.map_cons]
      exact congrArg (q.1 :: ·) (stepD_keys ok D)
theorem stepD_srt {ok : Int → Int → Bool} {D : DM} (h : (D.map (·.1)).Pairwise (· < ·)) : ((stepD ok D).map (·.1)).Pairwise (· < ·) := by
  rw [stepD_keys]
  exact h.sublist (List.filter_sublist.map _)
theorem stepD_get {ok : Int → Int → Bool} {D : DM} (h : (D.map (·.1)).Pairwise (· < ·)) {x : Int} {l : List Int} : getM (stepD ok D) x = some l ↔ ∃ l0, getM D x = some l0 ∧ l = l0.filter (ok x) ∧ l ≠ [] := by
  constructor
  · intro e
    obtain ⟨l0, h1, h2, h3⟩ := stepD_mem.mp (getM_some e)
    exact ⟨l0, getM_mem (lt_nodup h) h1, h2, h3⟩
  · rintro ⟨l0, h1, h2, h3⟩
    exact getM_mem (lt_nodup (stepD_srt h)) (stepD_mem.mpr ⟨l0, getM_some h1, h2, h3⟩)
theorem cnt_cons (q : Int × List Int) (D : DM) : cnt (q :: D) = 1 + q.2.length + cnt D := by
  unfold cnt
  rw [List.map_cons, List.sum_cons]
theorem stepD_cnt (ok : Int → Int → Bool) : ∀ D : DM, cnt (stepD ok D) ≤ cnt D ∧ (cnt (stepD ok D) = cnt D → stepD ok D = D)
  | [] => ⟨Nat.le_refl _, fun _ => rfl⟩
  | q :: D => by
    obtain ⟨h1, h2⟩ := stepD_cnt ok D
    by_cases h : (q.2.filter (ok q.1)).isEmpty = true
    · have e0 : stepD ok (q :: D) = stepD ok D := by
        unfold stepD
        rw [List.filterMap_cons_none (by rw [if_pos h])]
      rw [e0, cnt_cons]
      exact ⟨by omega, fun z => by omega⟩
    · have e0 : stepD ok (q :: D) = (q.1, q.2.filter (ok q.1)) :: stepD ok D := by
        unfold stepD
        rw [List.filterMap_cons_some (by rw [if_neg h])]
      rw [e0, cnt_cons, cnt_cons]
      have hl := List.length_filter_le (ok q.1) q.2
      refine ⟨by dsimp only; omega, fun z => ?_⟩
      dsimp only at z
      have z1 : (q.2.filter (ok q.1)).length = q.2.length := by omega
      have z2 : q.2.filter (ok q.1) = q.2 := List.filter_eq_self.mpr (List.length_filter_eq_length_iff.mp z1)
      rw [h2 (by omega), z2]
theorem stepD_all {ok : Int → Int → Bool} {D : DM} (h : (D.map (·.1)).Pairwise (· < ·)) (e : stepD ok D = D) : ∀ x l, getM D x = some l → ∀ k ∈ l, ok x k = true := fun x l hx k hk => by
  have := hx
  rw [← e] at this
  obtain ⟨l0, h1, h2, h3⟩ := (stepD_get h).mp this
  rw [hx] at h1
  cases h1
  rw [h2] at hk
  exact (List.mem_filter.mp hk).2
/-! ### what is reached -/
theorem rch_refl {st : Int → Int → Prop} (x : Int) : Rch st (fun y => y = x) x := .base rfl
theorem rch_trans {st : Int → Int → Prop} {x y z : Int} (h1 : Rch st (fun w => w = y) x) (h2 : Rch st (fun w => w = z) y) : Rch st (fun w => w = z) x := by
  induction h1 with
  | base e => rw [e]; exact h2
  | step s _ ih => exact .step s ih
theorem rch_stay {st : Int → Int → Prop} {S : Int → Prop} (hs : ∀ x y, S x → st x y → S y) {x y : Int} (h : Rch st (fun w => w = y) x) (hx : S x) : S y := by
  induction h with
  | base e => rw [← e]; exact hx
  | step s _ ih => exact ih (hs _ _ hx s)
theorem rch_in {st st' : Int → Int → Prop} {S : Int → Prop} (hs : ∀ x y, S x → st x y → S y ∧ st' x y) {x y : Int} (h : Rch st (fun w => w = y) x) (hx : S x) : Rch st' (fun w => w = y) x := by
  induction h with
  | base e => exact .base e
  | step s _ ih => exact .step (hs _ _ hx s).2 (ih (hs _ _ hx s).1)
end L3

namespace L3
open PySem L2
/-! ### closed parts -/
def eoc (sys : TSy) (x k : Int) : List (Int × Int) := ((chs' sys x).getD k.toNat (0, [])).2
theorem eoc_ix {sys : TSy} {x k : Int} (h0 : 0 ≤ k) (h1 : k < ((chs' sys x).length : Int)) : ∃ c, ixL (chs' sys x) k = some c ∧ c.2 = eoc sys x k ∧ c ∈ chs' sys x := by
  obtain ⟨i, rfl⟩ := Int.eq_ofNat_of_zero_le h0
  have hi : i < (chs' sys x).length := by omega
  refine ⟨(chs' sys x)[i], ixL_s (List.getElem?_eq_getElem hi) rfl, ?_, List.getElem_mem hi⟩
  unfold eoc
  rw [Int.toNat_natCast, List.getD_eq_getElem?_getD, List.getElem?_eq_getElem hi]
  rfl
/-- the choices that stay within T -/
def AT (sys : TSy) (T : List Int) (x : Int) : List Int := (rng 0 ((chs' sys x).length : Int)).filter fun k => (eoc sys x k).all fun q => decide (q.1 ∈ T)
theorem AT_mem {sys : TSy} {T : List Int} {x k : Int} : k ∈ AT sys T x ↔ (0 ≤ k ∧ k < ((chs' sys x).length : Int)) ∧ ∀ q ∈ eoc sys x k, q.1 ∈ T := by
  unfold AT
  rw [List.mem_filter, List.all_eq_true]
  refine ⟨fun h => ⟨rng_mem h.1, fun q hq => of_decide_eq_true (h.2 q hq)⟩, fun h => ⟨?_, fun q hq => decide_eq_true (h.2 q hq)⟩⟩
  unfold rng
  refine List.mem_map.mpr ⟨k.toNat, List.mem_range.mpr (by omega), by omega⟩
theorem rng_lt (a b : Int) : (rng a b).Pairwise (· < ·) := by
  unfold rng
  exact List.pairwise_map.mpr (List.pairwise_lt_range.imp fun {i j} h => by omega)
theorem AT_lt (sys : TSy) (T : List Int) (x : Int) : (AT sys T x).Pairwise (· < ·) := (rng_lt _ _).sublist List.filter_sublist
/-- the choices that are left hold those of T -/
def Hd (sys : TSy) (T : List Int) (D : DM) : Prop := ∀ x ∈ T, AT sys T x ≠ [] ∧ ∃ l, getM D x = some l ∧ ∀ k ∈ AT sys T x, k ∈ l
structure VD (n : Nat) (sys : TSy) (D : DM) : Prop where
  srt : (D.map (·.1)).Pairwise (· < ·)
  inr : ∀ q ∈ D, InR n q.1
  ne : ∀ q ∈ D, q.2 ≠ []
  ks : ∀ q ∈ D, ∀ k ∈ q.2, 0 ≤ k ∧ k < ((chs' sys q.1).length : Int)
  asc : ∀ q ∈ D, q.2.Pairwise (· < ·)
theorem hd_step {n : Nat} {sys : TSy} {T : List Int} {D : DM} {ok : Int → Int → Bool} (v : VD n sys D) (h : Hd sys T D) (ho : ∀ x ∈ T, ∀ k ∈ AT sys T x, ok x k = true) : Hd sys T (stepD ok D) := fun x hx => by
  obtain ⟨h1, l, h2, h3⟩ := h x hx
  obtain ⟨k0, hk0⟩ := List.exists_mem_of_ne_nil _ h1
  have hf : ∀ k ∈ AT sys T x, k ∈ l.filter (ok x) := fun k hk => List.mem_filter.mpr ⟨h3 k hk, ho x hx k hk⟩
  refine ⟨h1, l.filter (ok x), (stepD_get v.srt).mpr ⟨l, h2, rfl, List.ne_nil_of_mem (hf k0 hk0)⟩, hf⟩
section
variable {n : Nat} {sys : TSy} {D : DM} {ok : Int → Int → Bool}
theorem VD.step (v : VD n sys D) : VD n sys (stepD ok D) := by
  refine ⟨stepD_srt v.srt, fun q hq => ?_, fun q hq => ?_, fun q hq k hk => ?_, fun q hq => ?_⟩
  · obtain ⟨l, h1, h2, h3⟩ := stepD_mem.mp hq
    exact v.inr (q.1, l) h1
  · obtain ⟨l, h1, h2, h3⟩ := stepD_mem.mp hq
    exact h3
  · obtain ⟨l, h1, h2, h3⟩ := stepD_mem.mp hq
    rw [h2] at hk
    exact v.ks (q.1, l) h1 k (List.mem_filter.mp hk).1
  · obtain ⟨l, h1, h2, h3⟩ := stepD_mem.mp hq
    rw [h2]
    exact (v.asc (q.1, l) h1).sublist List.filter_sublist
theorem VD.len (v : VD n sys D) : D.length ≤ n := by
  have h := nodup_le (many := n) (lt_nodup v.srt) fun x hx => by
    obtain ⟨q, hq, rfl⟩ := List.mem_map.mp hx
    exact v.inr q hq
  rwa [List.length_map] at h
theorem VD.llen (v : VD n sys D) (hs : OKS n sys) {q : Int × List Int} (hq : q ∈ D) : q.2.length ≤ 1000 := by
  have h := nodup_le (many := (chs' sys q.1).length) (lt_nodup (v.asc q hq)) fun x hx => v.ks q hq x hx
  exact Nat.le_trans h (hs.2.2 _ (chs_ix hs (v.inr q hq)).2).1
theorem VD.get (v : VD n sys D) {q : Int × List Int} (hq : q ∈ D) : getM D q.1 = some q.2 := getM_mem (lt_nodup v.srt) hq
def rowH (D : DM) (ok : Int → Int → Bool) (x : Int) : Option (List Int) := if (((getM D x).getD []).filter (ok x)).isEmpty then none else some (((getM D x).getD []).filter (ok x))
theorem rows_step (v : VD n sys D) : ((D.map (·.1)).filterMap fun x => (rowH D ok x).map fun l => (x, l)) = stepD ok D := by
  rw [List.filterMap_map]
  unfold stepD
  refine fmap_congr fun q hq => ?_
  show (rowH D ok q.1).map _ = _
  unfold rowH
  rw [v.get hq]
  show (if (q.2.filter (ok q.1)).isEmpty = true then none else some (q.2.filter (ok q.1))).map _ = _
  by_cases h : (q.2.filter (ok q.1)).isEmpty = true
  · rw [if_pos h, if_pos h]; rfl
  · rw [if_neg h, if_neg h]; rfl
/-- a loop over the rows that keeps some of each row's choices -/
theorem fold_step (hs : OKS n sys) (hn : n ≤ 100) (v : VD n sys D) {f : DM → Int → Option DM} (hf : ∀ q ∈ D, ∀ s : DM, s.length ≤ 1000 → f s q.1 = some (putO s q.1 (rowH D ok q.1))) : foldO f [] (D.map (·.1)) = some (stepD ok D) := by
  rw [fold_put (h := rowH D ok) (fun x hx s hl => ?_) (by simpa using lt_nodup v.srt) (by have := v.len; simp; omega), List.nil_append, rows_step v]
  obtain ⟨q, hq, rfl⟩ := List.mem_map.mp hx
  exact hf q hq s hl
def okW (sys : TSy) (D : DM) (x k : Int) : Bool := (eoc sys x k).all fun q => (getM D q.1).isSome
theorem without_ok (hs : OKS n sys) (hn : n ≤ 100) {D0 : DM} (v0 : VD n sys D0) : Yes (m_without_exits sys D0) fun D => VD n sys D ∧ cnt D ≤ cnt D0 ∧ (cnt D = cnt D0 → D = D0) ∧ stepD (okW sys D) D = D ∧ ∀ T, Hd sys T D0 → Hd sys T D := by
  unfold m_without_exits
  refine y_bind (Q := fun o => ∃ D, o = .inr D ∧ VD n sys D ∧ cnt D ≤ cnt D0 ∧ (cnt D = cnt D0 → D = D0) ∧ stepD (okW sys D) D = D ∧ ∀ T, Hd sys T D0 → Hd sys T D) ?_ fun o ⟨D, e, h⟩ => by
    subst e
    exact y_some h
  refine y_while _ (fun D => VD n sys D ∧ cnt D ≤ cnt D0 ∧ (cnt D = cnt D0 → D = D0) ∧ ∀ T, Hd sys T D0 → Hd sys T D) cnt _ ⟨v0, Nat.le_refl _, fun _ => rfl, fun T h => h⟩ fun D ⟨v, h1, h2, h3⟩ => ?_
  refine y_p rfl (y_eq (a := stepD (okW sys D) D) (fold_step hs hn v fun q hq s hl => ?_) ?_)
  · have hx := v.inr q hq
    have hq1 := v.llen hs hq
    have hrow : rowH D (okW sys D) q.1 = if (q.2.filter (okW sys D q.1)).isEmpty then none else some (q.2.filter (okW sys D q.1)) := by
      unfold rowH
      rw [v.get hq]; rfl
    rw [hrow]
    refine bnd (v.get hq) (bnd (room_s (by omega)) (bnd (a := (q.2.filter (okW sys D q.1), ())) (compM_filter fun k hk => ?_) ?_))
    · obtain ⟨h0, h1⟩ := v.ks q hq k hk
      obtain ⟨c, e1, e2, _⟩ := eoc_ix h0 h1
      refine bnd (chs_ix hs hx).1 (bnd e1 (bnd (a := okW sys D q.1 k) ?_ rfl))
      unfold okW
      rw [← e2]
      exact all_some fun z _ => rfl
    · by_cases hemp : (q.2.filter (okW sys D q.1)).isEmpty = true
      · rw [if_pos hemp]
        refine bnd (a := s) ?_ rfl
        show (if (!(q.2.filter (okW sys D q.1)).isEmpty) = true then _ else _) = _
        rw [hemp]; rfl
      · rw [if_neg hemp]
        refine bnd (a := putM s q.1 (q.2.filter (okW sys D q.1))) ?_ rfl
        show (if (!(q.2.filter (okW sys D q.1)).isEmpty) = true then _ else _) = _
        rw [if_pos (by rw [Bool.not_eq_true] at hemp; rw [hemp]; rfl)]
        exact bnd (room_s (by omega)) rfl
  · obtain ⟨c1, c2⟩ := stepD_cnt (okW sys D) D
    have keep : ∀ T, Hd sys T D → Hd sys T (stepD (okW sys D) D) := fun T h => hd_step v h fun x hx k hk => by
      unfold okW
      refine List.all_eq_true.mpr fun q hq => ?_
      obtain ⟨_, l, e, _⟩ := h q.1 ((AT_mem.mp hk).2 q hq)
      rw [e]; rfl
    refine y_if (fun c => y_some ?_) fun c => y_some ?_
    · rw [eqM_eq v.step.srt v.srt] at c
      have e := of_decide_eq_true c
      rw [e]
      exact ⟨D, rfl, v, h1, h2, e, h3⟩
    · rw [eqM_eq v.step.srt v.srt] at c
      have ne : stepD (okW sys D) D ≠ D := fun e => c (decide_eq_true e)
      have lt : cnt (stepD (okW sys D) D) < cnt D := by
        rcases Nat.lt_or_ge (cnt (stepD (okW sys D) D)) (cnt D) with h | h
        · exact h
        · exact absurd (c2 (by omega)) ne
      exact ⟨⟨v.step, by omega, fun e => absurd e (by omega), fun T h => keep T (h3 T h)⟩, lt⟩
end
end L3

namespace L3
open PySem L2
/-! ### the edges, what is reached, the components -/
theorem fmO_map {α β : Type} {f : α → Option (Option β)} {g : α → β} : ∀ {xs : List α}, (∀ x ∈ xs, f x = some (some (g x))) → fmO f xs = some (xs.map g)
  | [], _ => rfl
  | x :: xs, h => by
    unfold fmO
    rw [h x List.mem_cons_self]
    dsimp only
    rw [fmO_map fun y hy => h y (List.mem_cons_of_mem _ hy)]
    rfl
theorem lc2M_map {α β : Type} {f : α → Option (List β)} {g : α → List β} : ∀ {xs : List α}, (∀ x ∈ xs, f x = some (g x)) → lc2M f xs = some (xs.flatMap g)
  | [], _ => rfl
  | x :: xs, h => by
    unfold lc2M
    rw [h x List.mem_cons_self]
    dsimp only
    rw [lc2M_map fun y hy => h y (List.mem_cons_of_mem _ hy)]
    rw [List.flatMap_cons]
theorem getM_keys {α : Type} {g : Int → α} {y : Int} : ∀ {ks : List Int}, getM (ks.map fun x => (x, g x)) y = if y ∈ ks then some (g y) else none
  | [] => by simp [getM]
  | x :: ks => by
    rw [List.map_cons]
    unfold getM
    by_cases h : x = y
    · subst h
      rw [if_pos rfl, if_pos List.mem_cons_self]
    · rw [if_neg h, getM_keys]
      by_cases h2 : y ∈ ks
      · rw [if_pos h2, if_pos (List.mem_cons_of_mem _ h2)]
      · rw [if_neg h2, if_neg fun z => (List.mem_cons.mp z).elim (fun e => h e.symm) h2]
theorem setZ_len {l : List Int} {n : Nat} (h : ∀ x ∈ l, InR n x) : (setZ l).length ≤ n := nodup_le (lt_nodup (setZ_lt l)) fun x hx => h x (setZ_mem.mp hx)
/-- small: at most 10 choices a state, 20 ends a choice -/
def Sml (n : Nat) (sys : TSy) : Prop := OKS n sys ∧ n ≤ 20 ∧ ∀ cs ∈ sys, cs.length ≤ 10 ∧ ∀ c ∈ cs, c.2.length ≤ 20
def egs (sys : TSy) (D : DM) (x : Int) : List Int := ((getM D x).getD []).flatMap fun k => (eoc sys x k).map (·.1)
/-- the ends of the choices that are left are left -/
def EC (sys : TSy) (D : DM) : Prop := ∀ q ∈ D, ∀ k ∈ q.2, ∀ z ∈ eoc sys q.1 k, ∃ l, getM D z.1 = some l
theorem flat_len {α β : Type} {f : α → List β} {m : Nat} : ∀ {l : List α}, (∀ x ∈ l, (f x).length ≤ m) → (l.flatMap f).length ≤ l.length * m
  | [], _ => by simp
  | x :: l, h => by
    rw [List.flatMap_cons, List.length_append, List.length_cons, Nat.succ_mul]
    have := h x List.mem_cons_self
    have := flat_len fun y hy => h y (List.mem_cons_of_mem x hy)
    omega
section
variable {n : Nat} {sys : TSy} {D : DM}
theorem eoc_c {x k : Int} (h0 : 0 ≤ k) (h1 : k < ((chs' sys x).length : Int)) : ∃ c ∈ chs' sys x, c.2 = eoc sys x k := by
  obtain ⟨c, _, h2, h3⟩ := eoc_ix h0 h1
  exact ⟨c, h3, h2⟩
theorem VD.ten (v : VD n sys D) (hs : Sml n sys) {q : Int × List Int} (hq : q ∈ D) : q.2.length ≤ 10 := by
  have h := nodup_le (many := (chs' sys q.1).length) (lt_nodup (v.asc q hq)) fun x hx => v.ks q hq x hx
  exact Nat.le_trans h (hs.2.2 _ (chs_ix hs.1 (v.inr q hq)).2).1
theorem VD.egs (v : VD n sys D) (hs : Sml n sys) {q : Int × List Int} (hq : q ∈ D) : (egs sys D q.1).length ≤ 200 ∧ ∀ y ∈ egs sys D q.1, InR n y := by
  unfold L3.egs
  rw [v.get hq]
  have hc := chs_ix hs.1 (v.inr q hq)
  refine ⟨Nat.le_trans (flat_len (m := 20) fun k hk => ?_) (by have := v.ten hs hq; show q.2.length * 20 ≤ 200; omega), fun y hy => ?_⟩
  · obtain ⟨c, h1, h2⟩ := eoc_c (v.ks q hq k hk).1 (v.ks q hq k hk).2
    rw [List.length_map, ← h2]
    exact (hs.2.2 _ hc.2).2 c h1
  · obtain ⟨k, hk, hy⟩ := List.mem_flatMap.mp hy
    obtain ⟨z, hz, rfl⟩ := List.mem_map.mp hy
    obtain ⟨c, h1, h2⟩ := eoc_c (v.ks q hq k hk).1 (v.ks q hq k hk).2
    rw [← h2] at hz
    exact ends_r hs.1 (v.inr q hq) h1 hz
theorem edges_ok (hs : Sml n sys) (v : VD n sys D) : m_edges_of sys D = some ((D.map (·.1)).map fun x => (x, setZ (egs sys D x))) := by
  unfold m_edges_of
  have hn := hs.2.1
  refine bnd (a := [] ++ (D.map (·.1)).filterMap fun x => (some (setZ (egs sys D x))).map fun l => (x, l)) (fold_put (h := fun x => some (setZ (egs sys D x))) (fun x hx s hl => ?_) (by simpa using lt_nodup v.srt) (by have := v.len; simp; omega)) ?_
  · obtain ⟨q, hq, rfl⟩ := List.mem_map.mp hx
    obtain ⟨e1, e2⟩ := v.egs hs hq
    have e3 := setZ_len e2
    have hx := chs_ix hs.1 (v.inr q hq)
    refine bnd (v.get hq) (bnd (a := egs sys D q.1) ?_ (bnd (room_s (by omega)) (bnd (if_pos (by omega)) (bnd (if_pos (by omega)) (bnd (room_s (by omega)) rfl)))))
    unfold egs
    rw [v.get hq]
    refine lc2M_map fun k hk => ?_
    obtain ⟨c, h1, h2, _⟩ := eoc_ix (v.ks q hq k hk).1 (v.ks q hq k hk).2
    refine bnd hx.1 (bnd h1 (bnd (a := (eoc sys q.1 k).map (·.1)) ?_ rfl))
    rw [h2]
    exact fmO_map fun z _ => rfl
  · rw [List.nil_append]
    exact congrArg some (by
      rw [show (fun x : Int => (some (setZ (egs sys D x))).map fun l => (x, l)) = fun x => some (x, setZ (egs sys D x)) from rfl]
      exact List.filterMap_eq_map (f := fun x => (x, setZ (egs sys D x))) ▸ rfl)
end
def stE (E : DM) (x y : Int) : Prop := ∃ l, getM E x = some l ∧ y ∈ l
structure VE' (E : DM) : Prop where
  nd : (E.map (·.1)).Nodup
  len : E.length ≤ 100
  lst : ∀ x l, getM E x = some l → l.Nodup ∧ l.length ≤ 100 ∧ ∀ y ∈ l, ∃ l', getM E y = some l'
theorem reached_ok {E : DM} (v : VE' E) {x : Int} (hx : ∃ l, getM E x = some l) : Yes (m_reached_from E x) fun f => f.length ≤ 100 ∧ ∀ y, y ∈ f ↔ Rch (stE E) (fun w => w = y) x := by
  unfold m_reached_from
  refine y_bind (Q := fun s => s.2.length ≤ 100 ∧ ∀ y, y ∈ s.2 ↔ Rch (stE E) (fun w => w = y) x) ?_ fun s hs => y_some hs
  refine y_whileB _ (fun s => 0 ≤ s.1 ∧ s.1 ≤ (s.2.length : Int) ∧ s.2.Nodup ∧ x ∈ s.2 ∧ (∀ y ∈ s.2, Rch (stE E) (fun w => w = y) x ∧ ∃ l, getM E y = some l) ∧ ∀ (i : Nat) y, (i : Int) < s.1 → s.2[i]? = some y → ∀ z, stE E y z → z ∈ s.2) (fun s => E.length - s.1.toNat) _
    ⟨Int.le_refl _, by simp, by simp, by simp, fun y hy => by rw [List.mem_singleton.mp hy]; exact ⟨rch_refl x, hx⟩, fun i y h => by omega⟩ ?_
  rintro ⟨p, f⟩ ⟨h0, h1, h2, h3, h4, h5⟩
  dsimp only at h0 h1 h2 h3 h4 h5
  have hle : f.length ≤ E.length := by
    have := sub_le (m := E.map (·.1)) h2 fun y hy => by obtain ⟨l, hl⟩ := (h4 y hy).2; exact getM_in hl
    rwa [List.length_map] at this
  have hE := v.len
  refine y_if (fun c => ?_) fun c => ?_
  · have c := of_decide_eq_true c
    dsimp only at c
    obtain ⟨i, rfl⟩ := Int.eq_ofNat_of_zero_le h0
    have hi : i < f.length := by omega
    obtain ⟨l, hl⟩ := (h4 f[i] (List.getElem_mem hi)).2
    obtain ⟨g1, g2, g3⟩ := v.lst _ l hl
    refine y_eq (ixL_s (List.getElem?_eq_getElem hi) rfl) (y_eq hl (y_eq (room_s (by omega)) (y_eq (a := (l.filter fun y => !decide (y ∈ f), ())) (compM_filter fun y _ => rfl) ?_)))
    have hfl := List.length_filter_le (fun y => !decide (y ∈ f)) l
    refine y_eq (if_pos (by dsimp only; omega)) (y_some ⟨⟨by dsimp only; omega, by dsimp only; rw [List.length_append]; omega, ?_, List.mem_append_left _ h3, fun y hy => ?_, fun j y hj hy z hz => ?_⟩, by dsimp only; omega⟩)
    · refine List.nodup_append.mpr ⟨h2, g1.sublist List.filter_sublist, fun a ha b hb e => ?_⟩
      have := (List.mem_filter.mp hb).2
      rw [← e] at this
      simp [ha] at this
    · rcases List.mem_append.mp hy with hy | hy
      · exact h4 y hy
      · have hy := (List.mem_filter.mp hy).1
        exact ⟨rch_trans (h4 f[i] (List.getElem_mem hi)).1 (.step ⟨l, hl, hy⟩ (rch_refl y)), g3 y hy⟩
    · dsimp only at hj hy ⊢
      have hj2 : j < f.length := by omega
      rw [List.getElem?_append_left hj2] at hy
      by_cases e : j = i
      · subst e
        rw [List.getElem?_eq_getElem hi] at hy
        cases hy
        obtain ⟨l', e1, e2⟩ := hz
        rw [hl] at e1
        cases e1
        by_cases hzf : z ∈ f
        · exact List.mem_append_left _ hzf
        · exact List.mem_append_right _ (List.mem_filter.mpr ⟨e2, by simp [hzf]⟩)
      · exact List.mem_append_left _ (h5 j y (by omega) hy z hz)
  · have c : ¬ p < (f.length : Int) := fun z => c (decide_eq_true z)
    refine y_some ⟨by dsimp only; omega, fun y => ⟨fun hy => (h4 y hy).1, fun hy => ?_⟩⟩
    refine rch_stay (S := fun w => w ∈ f) (fun a b ha hab => ?_) hy h3
    obtain ⟨j, hj⟩ := List.getElem?_of_mem ha
    exact h5 j a (by have := (List.getElem?_eq_some_iff.mp hj).1; omega) hj b hab
/-- both reach each other -/
def cnE (E : DM) (x y : Int) : Prop := Rch (stE E) (fun w => w = y) x ∧ Rch (stE E) (fun w => w = x) y
theorem minZ_some {l : List Int} (h : l ≠ []) : ∃ m, minZ l = some m ∧ m ∈ l ∧ ∀ y ∈ l, m ≤ y := by
  cases l with
  | nil => exact absurd rfl h
  | cons x l => exact ⟨_, rfl, foldl_min l x⟩
theorem components_ok {E : DM} (v : VE' E) : ∃ nm : Int → Int, m_components E = some ((E.map (·.1)).map fun x => (x, nm x)) ∧ ∀ x ∈ E.map (·.1), cnE E x (nm x) ∧ nm x ∈ E.map (·.1) ∧ ∀ y, cnE E x y → nm x ≤ y := by
  let rf : Int → List Int := fun x => (m_reached_from E x).getD []
  have hE := v.len
  have rfs : ∀ x ∈ E.map (·.1), m_reached_from E x = some (rf x) ∧ (rf x).length ≤ 100 ∧ ∀ y, y ∈ rf x ↔ Rch (stE E) (fun w => w = y) x := fun x hx => by
    obtain ⟨f, h1, h2, h3⟩ := reached_ok v (getM_key hx)
    have e : rf x = f := by show (m_reached_from E x).getD [] = f; rw [h1]; rfl
    rw [e]
    exact ⟨h1, h2, h3⟩
  have stay : ∀ x ∈ E.map (·.1), ∀ y ∈ rf x, y ∈ E.map (·.1) := fun x hx y hy => rch_stay (S := fun w => w ∈ E.map (·.1)) (fun a b ha hab => by
    obtain ⟨l, e1, e2⟩ := hab
    obtain ⟨l', e3⟩ := (v.lst a l e1).2.2 b e2
    exact getM_in e3) (((rfs x hx).2.2 y).mp hy) hx
  let nm : Int → Int := fun x => (minZ ((rf x).filter fun y => decide (x ∈ rf y))).getD 0
  have nms : ∀ x ∈ E.map (·.1), minZ ((rf x).filter fun y => decide (x ∈ rf y)) = some (nm x) ∧ nm x ∈ rf x ∧ x ∈ rf (nm x) ∧ ∀ y ∈ rf x, x ∈ rf y → nm x ≤ y := fun x hx => by
    have hself : x ∈ rf x := ((rfs x hx).2.2 x).mpr (rch_refl x)
    obtain ⟨m, h1, h2, h3⟩ := minZ_some (l := (rf x).filter fun y => decide (x ∈ rf y)) (List.ne_nil_of_mem (List.mem_filter.mpr ⟨hself, decide_eq_true hself⟩))
    have e : nm x = m := by show (minZ _).getD 0 = m; rw [h1]; rfl
    rw [e]
    obtain ⟨g1, g2⟩ := List.mem_filter.mp h2
    exact ⟨h1, g1, of_decide_eq_true g2, fun y hy hy2 => h3 y (List.mem_filter.mpr ⟨hy, decide_eq_true hy2⟩)⟩
  refine ⟨nm, ?_, fun x hx => ?_⟩
  · unfold m_components
    refine bnd (room_s (by rw [List.length_map]; omega)) (bnd (a := [] ++ (E.map (·.1)).map fun x => (x, rf x)) (dcMM_new (g := fun x => (x, rf x)) (fun x hx => bnd (rfs x hx).1 rfl) (by simpa [Function.comp_def] using v.nd)) ?_)
    rw [List.nil_append]
    refine bnd (a := [] ++ (E.map (·.1)).filterMap fun x => (some (nm x)).map fun l => (x, l)) (fold_put (h := fun x => some (nm x)) (fun x hx s hl => ?_) (by simpa using v.nd) (by simp; omega)) ?_
    · have hr := rfs x hx
      refine bnd (a := rf x) (by rw [getM_keys, if_pos hx]) (bnd (room_s (by omega)) (bnd (a := ((rf x).filter fun y => decide (x ∈ rf y), ())) (compM_filter fun y hy => bnd (a := rf y) (by rw [getM_keys, if_pos (stay x hx y hy)]) rfl) (bnd (nms x hx).1 (bnd (room_s (by omega)) rfl))))
    · rw [List.nil_append]
      exact congrArg some (by
        rw [show (fun x : Int => (some (nm x)).map fun l => (x, l)) = fun x => some (x, nm x) from rfl]
        exact List.filterMap_eq_map (f := fun x => (x, nm x)) ▸ rfl)
  · obtain ⟨_, h1, h2, h3⟩ := nms x hx
    have hm := stay x hx _ h1
    refine ⟨⟨((rfs x hx).2.2 _).mp h1, ((rfs _ hm).2.2 _).mp h2⟩, hm, fun y hy => h3 y (((rfs x hx).2.2 y).mpr hy.1) ?_⟩
    exact ((rfs y (stay x hx y (((rfs x hx).2.2 y).mpr hy.1))).2.2 x).mpr hy.2
end L3

namespace L3
open PySem L2
/-! ### parts: the closed sets whose states reach each other, the greatest ones -/
def stT (sys : TSy) (T : List Int) (x y : Int) : Prop := x ∈ T ∧ ∃ k ∈ AT sys T x, ∃ q ∈ eoc sys x k, q.1 = y
def CT (n : Nat) (sys : TSy) (T : List Int) : Prop := (∀ x ∈ T, InR n x) ∧ (∀ x ∈ T, AT sys T x ≠ []) ∧ ∀ x ∈ T, ∀ y ∈ T, Rch (stT sys T) (fun w => w = y) x
structure Mx (n : Nat) (sys : TSy) (T : List Int) : Prop where
  asc : T.Pairwise (· < ·)
  ne : T ≠ []
  ct : CT n sys T
  mx : ∀ T', T'.Pairwise (· < ·) → CT n sys T' → (∀ x ∈ T, x ∈ T') → T'.length ≤ T.length
abbrev PT' := List (Int × List Int)
def hdP (p : PT') : Int := (p.map (·.1)).headD 0
def partOf (sys : TSy) (T : List Int) : PT' := T.map fun x => (x, AT sys T x)
structure IsParts (n : Nat) (sys : TSy) (ps : List PT') : Prop where
  mem : ∀ p, p ∈ ps ↔ ∃ T, Mx n sys T ∧ p = partOf sys T
  srt : ps.Pairwise fun p q => hdP p < hdP q
theorem head_min {l : List Int} {c : Int} (h : l.Pairwise (· < ·)) (hc : c ∈ l) (hm : ∀ y ∈ l, c ≤ y) : l.headD 0 = c := by
  cases l with
  | nil => cases hc
  | cons x l =>
    show x = c
    have h1 := hm x List.mem_cons_self
    rcases List.mem_cons.mp hc with e | e
    · exact e.symm
    · have := (List.pairwise_cons.mp h).1 c e
      omega
structure FinD (n : Nat) (sys : TSy) (D E : DM) (nm : Int → Int) : Prop where
  v : VD n sys D
  kE : ∀ x y, stE E x y ↔ ∃ l, getM D x = some l ∧ ∃ k ∈ l, ∃ q ∈ eoc sys x k, q.1 = y
  hd : ∀ T, CT n sys T → Hd sys T D
  nmS : ∀ x ∈ D.map (·.1), cnE E x (nm x) ∧ nm x ∈ D.map (·.1) ∧ ∀ y, cnE E x y → nm x ≤ y
  ok : ∀ x l, getM D x = some l → ∀ k ∈ l, ∀ q ∈ eoc sys x k, (∃ l', getM D q.1 = some l') ∧ nm q.1 = nm x
theorem cnE_symm {E : DM} {x y : Int} (h : cnE E x y) : cnE E y x := ⟨h.2, h.1⟩
theorem cnE_trans {E : DM} {x y z : Int} (h1 : cnE E x y) (h2 : cnE E y z) : cnE E x z := ⟨rch_trans h1.1 h2.1, rch_trans h2.2 h1.2⟩
def clsD (D : DM) (nm : Int → Int) (c : Int) : List Int := (D.map (·.1)).filter fun x => decide (nm x = c)
theorem clsD_mem {D : DM} {nm : Int → Int} {c x : Int} : x ∈ clsD D nm c ↔ x ∈ D.map (·.1) ∧ nm x = c := by
  unfold clsD
  rw [List.mem_filter, decide_eq_true_iff]
theorem nm_eq {D E : DM} {nm : Int → Int} (h : ∀ x ∈ D.map (·.1), cnE E x (nm x) ∧ nm x ∈ D.map (·.1) ∧ ∀ y, cnE E x y → nm x ≤ y) {x y : Int} (hx : x ∈ D.map (·.1)) (hy : y ∈ D.map (·.1)) (c : cnE E x y) : nm x = nm y :=
  Int.le_antisymm ((h x hx).2.2 _ (cnE_trans c (h y hy).1)) ((h y hy).2.2 _ (cnE_trans (cnE_symm c) (h x hx).1))
/-- what hangs together in a closed set has one name -/
theorem ct_cn {n : Nat} {sys : TSy} {D E : DM} {T : List Int} (kE : ∀ x y, stE E x y ↔ ∃ l, getM D x = some l ∧ ∃ k ∈ l, ∃ q ∈ eoc sys x k, q.1 = y) (hT : CT n sys T) (h : Hd sys T D) {x y : Int} (hx : x ∈ T) (hy : y ∈ T) : cnE E x y := by
  have go : ∀ a b, stT sys T a b → stE E a b := fun a b ⟨ha, k, hk, q, hq, e⟩ => by
    obtain ⟨_, l, h1, h2⟩ := h a ha
    exact (kE a b).mpr ⟨l, h1, k, h2 k hk, q, hq, e⟩
  exact ⟨(hT.2.2 x hx y hy).mono go fun _ h => h, (hT.2.2 y hy x hx).mono go fun _ h => h⟩
section
variable {n : Nat} {sys : TSy} {D E : DM} {nm : Int → Int}
theorem FinD.into (f : FinD n sys D E nm) {T : List Int} (hT : CT n sys T) {x0 : Int} (h0 : x0 ∈ T) : ∀ x ∈ T, x ∈ clsD D nm (nm x0) := fun x hx => by
  have h := f.hd T hT
  have hk : ∀ y ∈ T, y ∈ D.map (·.1) := fun y hy => by
    obtain ⟨_, l, e, _⟩ := h y hy
    exact getM_in e
  exact clsD_mem.mpr ⟨hk x hx, nm_eq f.nmS (hk x hx) (hk x0 h0) (ct_cn f.kE hT h hx h0)⟩
theorem FinD.sub (f : FinD n sys D E nm) {c x : Int} {l : List Int} (hx : x ∈ clsD D nm c) (hl : getM D x = some l) : ∀ k ∈ l, k ∈ AT sys (clsD D nm c) x := fun k hk => by
  refine AT_mem.mpr ⟨f.v.ks _ (getM_some hl) k hk, fun q hq => ?_⟩
  obtain ⟨⟨l', h1⟩, h2⟩ := f.ok x l hl k hk q hq
  exact clsD_mem.mpr ⟨getM_in h1, h2.trans (clsD_mem.mp hx).2⟩
theorem FinD.ct (f : FinD n sys D E nm) (c : Int) : CT n sys (clsD D nm c) := by
  refine ⟨fun x hx => ?_, fun x hx => ?_, fun x hx y hy => ?_⟩
  · obtain ⟨q, hq, rfl⟩ := List.mem_map.mp (clsD_mem.mp hx).1
    exact f.v.inr q hq
  · obtain ⟨l, hl⟩ := getM_key (clsD_mem.mp hx).1
    obtain ⟨k, hk⟩ := List.exists_mem_of_ne_nil _ (f.v.ne _ (getM_some hl))
    exact List.ne_nil_of_mem (f.sub hx hl k hk)
  · have cx := clsD_mem.mp hx
    have cy := clsD_mem.mp hy
    have h1 := (f.nmS x cx.1).1
    have h2 := (f.nmS y cy.1).1
    rw [cx.2] at h1
    rw [cy.2] at h2
    refine rch_in (S := fun w => w ∈ clsD D nm c) (fun a b ha hab => ?_) (cnE_trans h1 (cnE_symm h2)).1 hx
    obtain ⟨l, e1, k, hk, q, hq, e2⟩ := (f.kE a b).mp hab
    have hkA := f.sub ha e1 k hk
    exact ⟨by rw [← e2]; exact (AT_mem.mp hkA).2 q hq, ha, k, hkA, q, hq, e2⟩
theorem FinD.at (f : FinD n sys D E nm) {c x : Int} {l : List Int} (hx : x ∈ clsD D nm c) (hl : getM D x = some l) : l = AT sys (clsD D nm c) x := by
  obtain ⟨_, l', h1, h2⟩ := f.hd _ (f.ct c) x hx
  rw [hl] at h1
  cases h1
  exact lt_unique (f.v.asc _ (getM_some hl)) (AT_lt _ _ _) fun k => ⟨f.sub hx hl k, h2 k⟩
theorem clsD_asc (f : FinD n sys D E nm) (c : Int) : (clsD D nm c).Pairwise (· < ·) := f.v.srt.sublist List.filter_sublist
theorem FinD.mx (f : FinD n sys D E nm) {x0 : Int} (h0 : x0 ∈ D.map (·.1)) : Mx n sys (clsD D nm (nm x0)) :=
  have h : x0 ∈ clsD D nm (nm x0) := clsD_mem.mpr ⟨h0, rfl⟩
  ⟨clsD_asc f _, List.ne_nil_of_mem h, f.ct _, fun T' ha hT' hs => sub_le (lt_nodup ha) (f.into hT' (hs x0 h))⟩
theorem FinD.all (f : FinD n sys D E nm) {T : List Int} (hT : Mx n sys T) : ∃ x0 ∈ D.map (·.1), T = clsD D nm (nm x0) := by
  obtain ⟨x0, h0⟩ := List.exists_mem_of_ne_nil _ hT.ne
  have hs := f.into hT.ct h0
  refine ⟨x0, (clsD_mem.mp (hs x0 h0)).1, lt_unique hT.asc (clsD_asc f _) fun k => ⟨hs k, ?_⟩⟩
  exact sub_full (lt_nodup hT.asc) hs (hT.mx _ (clsD_asc f _) (f.ct _) hs) k
def partD (D : DM) (nm : Int → Int) (c : Int) : PT' := (clsD D nm c).map fun x => (x, (getM D x).getD [])
theorem FinD.part (f : FinD n sys D E nm) (c : Int) : partD D nm c = partOf sys (clsD D nm c) := by
  unfold partD partOf
  refine List.map_congr_left fun x hx => ?_
  obtain ⟨l, hl⟩ := getM_key (clsD_mem.mp hx).1
  rw [hl, ← f.at hx hl]
  rfl
theorem FinD.head (f : FinD n sys D E nm) {c : Int} (hc : c ∈ (D.map (·.1)).map nm) : hdP (partD D nm c) = c := by
  obtain ⟨x, hx, rfl⟩ := List.mem_map.mp hc
  unfold hdP partD
  rw [List.map_map, show ((fun q : Int × List Int => q.1) ∘ fun x => (x, (getM D x).getD [])) = id from rfl, List.map_id]
  obtain ⟨h1, h2, _⟩ := f.nmS x hx
  refine head_min (clsD_asc f _) (clsD_mem.mpr ⟨h2, (nm_eq f.nmS hx h2 h1).symm⟩) fun y hy => ?_
  obtain ⟨g1, g2⟩ := clsD_mem.mp hy
  rw [← g2]
  exact (f.nmS y g1).2.2 y ⟨rch_refl y, rch_refl y⟩
theorem FinD.parts (f : FinD n sys D E nm) : IsParts n sys ((setZ ((D.map (·.1)).map nm)).map (partD D nm)) := by
  refine ⟨fun p => ?_, ?_⟩
  · rw [List.mem_map]
    constructor
    · rintro ⟨c, hc, rfl⟩
      obtain ⟨x, hx, rfl⟩ := List.mem_map.mp (setZ_mem.mp hc)
      exact ⟨_, f.mx hx, f.part _⟩
    · rintro ⟨T, hT, rfl⟩
      obtain ⟨x0, h0, e⟩ := f.all hT
      refine ⟨nm x0, setZ_mem.mpr (List.mem_map.mpr ⟨x0, h0, rfl⟩), ?_⟩
      rw [f.part, e]
  · refine List.pairwise_map.mpr ((setZ_lt _).imp_of_mem fun {a b} ha hb h => ?_)
    rw [f.head (setZ_mem.mp ha), f.head (setZ_mem.mp hb)]
    exact h
end
end L3

namespace L3
open PySem L2
theorem fold_filter {α : Type} {f : List α → α → Option (List α)} {p : α → Bool} : ∀ {xs acc : List α}, (∀ x ∈ xs, ∀ s : List α, s.length ≤ 1000 → f s x = some (if p x = true then s ++ [x] else s)) → acc.length + xs.length ≤ 1000 → foldO f acc xs = some (acc ++ xs.filter p)
  | [], acc, _, _ => by simp [foldO]
  | x :: xs, acc, hf, hl => by
    rw [List.length_cons] at hl
    refine foldO_cons (hf x List.mem_cons_self acc (by omega)) ?_
    by_cases h : p x = true
    · rw [if_pos h, fold_filter (fun y hy => hf y (List.mem_cons_of_mem _ hy)) (by simp; omega), List.filter_cons_of_pos h]
      simp
    · rw [if_neg h, fold_filter (fun y hy => hf y (List.mem_cons_of_mem _ hy)) (by omega), List.filter_cons_of_neg h]
theorem compM_fm {α β : Type} {f : Unit → α → Option (Option β × Unit)} {p : α → Bool} {g : α → β} : ∀ {xs : List α}, (∀ x ∈ xs, f () x = if p x = true then some (some (g x), ()) else some (none, ())) → compM f () xs = some ((xs.filter p).map g, ())
  | [], _ => rfl
  | x :: xs, h => by
    have e := h x List.mem_cons_self
    have ih := compM_fm fun y hy => h y (List.mem_cons_of_mem x hy)
    by_cases hp : p x = true
    · rw [if_pos hp] at e
      rw [compM_cons e ih, List.filter_cons_of_pos hp]
      rfl
    · rw [if_neg hp] at e
      rw [compM_cons e ih, List.filter_cons_of_neg hp]
      rfl
def okP (sys : TSy) (D : DM) (nm : Int → Int) (x k : Int) : Bool := (eoc sys x k).all fun q => (getM D q.1).isSome && decide (nm q.1 = nm x)
section
variable {n : Nat} {sys : TSy} {D : DM} {nm : Int → Int}
theorem pruned_ok (hs : Sml n sys) (v : VD n sys D) : m_pruned sys D ((D.map (·.1)).map fun x => (x, nm x)) = some (stepD (okP sys D nm) D) := by
  unfold m_pruned
  have hn := hs.2.1
  refine bnd (fold_step hs.1 (by omega) v fun q hq s hl => ?_) rfl
  have hx := chs_ix hs.1 (v.inr q hq)
  have hkey : q.1 ∈ D.map (·.1) := List.mem_map.mpr ⟨q, hq, rfl⟩
  have ht := v.ten hs hq
  have hrow : rowH D (okP sys D nm) q.1 = if (q.2.filter (okP sys D nm q.1)).isEmpty then none else some (q.2.filter (okP sys D nm q.1)) := by
    unfold rowH
    rw [v.get hq]; rfl
  rw [hrow]
  refine bnd (v.get hq) (bnd (a := [] ++ q.2.filter (okP sys D nm q.1)) (fold_filter (fun k hk s' hl' => ?_) (by simp; omega)) ?_)
  · obtain ⟨c, h1, h2, h3⟩ := eoc_ix (v.ks q hq k hk).1 (v.ks q hq k hk).2
    have hc := (hs.2.2 _ hx.2).2 c h3
    refine bnd hx.1 (bnd h1 (bnd (room_s (by omega)) (bnd (a := (c.2.map (·.1), ())) (compM_map fun z _ => rfl) (bnd (a := okP sys D nm q.1 k) ?_ ?_))))
    · unfold okP
      rw [← h2]
      show allM _ (c.2.map (·.1)) = _
      rw [show (c.2.all fun z => (getM D z.1).isSome && decide (nm z.1 = nm q.1)) = (c.2.map (·.1)).all fun y => (getM D y).isSome && decide (nm y = nm q.1) by rw [List.all_map]; rfl]
      refine all_some fun y hy => ?_
      refine bnd (a := (getM D y).isSome && decide (nm y = nm q.1)) ?_ rfl
      cases e : getM D y with
      | none => rfl
      | some l =>
        have hy2 := getM_in e
        refine bnd (a := nm q.1) (by rw [getM_keys, if_pos hkey]) ?_
        rw [getM_keys, if_pos hy2]
        rfl
    · by_cases hp : okP sys D nm q.1 k = true
      · rw [if_pos hp, hp]
        exact bnd (bnd (room_s (by omega)) rfl) rfl
      · rw [if_neg hp]
        rw [Bool.not_eq_true] at hp
        rw [hp]
        rfl
  · rw [List.nil_append]
    by_cases hemp : (q.2.filter (okP sys D nm q.1)).isEmpty = true
    · rw [if_pos hemp]
      refine bnd (a := s) ?_ rfl
      rw [hemp]; rfl
    · rw [if_neg hemp]
      refine bnd (a := putM s q.1 (q.2.filter (okP sys D nm q.1))) ?_ rfl
      rw [Bool.not_eq_true] at hemp
      rw [hemp]
      exact bnd (room_s (by omega)) rfl
/-- the edges' dict -/
def edgD (sys : TSy) (D : DM) : DM := (D.map (·.1)).map fun x => (x, setZ (egs sys D x))
theorem edg_keys : (edgD sys D).map (·.1) = D.map (·.1) := by
  unfold edgD
  rw [List.map_map, show ((fun q : Int × List Int => q.1) ∘ fun x => (x, setZ (egs sys D x))) = id from rfl, List.map_id]
theorem edg_get {x : Int} {l : List Int} (h : getM (edgD sys D) x = some l) : (∃ l0, getM D x = some l0) ∧ l = setZ (egs sys D x) := by
  unfold edgD at h
  rw [getM_keys] at h
  split at h
  · rename_i hx
    exact ⟨getM_key hx, (Option.some.inj h).symm⟩
  · cases h
theorem edg_kE (v : VD n sys D) (x y : Int) : stE (edgD sys D) x y ↔ ∃ l, getM D x = some l ∧ ∃ k ∈ l, ∃ q ∈ eoc sys x k, q.1 = y := by
  constructor
  · rintro ⟨l, h1, h2⟩
    obtain ⟨⟨l0, e0⟩, rfl⟩ := edg_get h1
    rw [setZ_mem] at h2
    unfold egs at h2
    rw [e0] at h2
    obtain ⟨k, hk, hy⟩ := List.mem_flatMap.mp h2
    obtain ⟨q, hq, e⟩ := List.mem_map.mp hy
    exact ⟨l0, e0, k, hk, q, hq, e⟩
  · rintro ⟨l, h1, k, hk, q, hq, e⟩
    refine ⟨setZ (egs sys D x), ?_, setZ_mem.mpr ?_⟩
    · unfold edgD
      rw [getM_keys, if_pos (getM_in h1)]
    · unfold egs
      rw [h1]
      exact List.mem_flatMap.mpr ⟨k, hk, List.mem_map.mpr ⟨q, hq, e⟩⟩
theorem edg_ve (hs : Sml n sys) (v : VD n sys D) (ec : EC sys D) : VE' (edgD sys D) := by
  have hn := hs.2.1
  refine ⟨by rw [edg_keys]; exact lt_nodup v.srt, ?_, fun x l h => ?_⟩
  · have := v.len
    unfold edgD
    rw [List.length_map, List.length_map]
    omega
  · obtain ⟨⟨l0, e0⟩, rfl⟩ := edg_get h
    have hq := getM_some e0
    have hl := setZ_len (v.egs hs hq).2
    refine ⟨lt_nodup (setZ_lt _), by dsimp only at hl; omega, fun y hy => ?_⟩
    rw [setZ_mem] at hy
    unfold egs at hy
    rw [e0] at hy
    obtain ⟨k, hk, hy⟩ := List.mem_flatMap.mp hy
    obtain ⟨z, hz, rfl⟩ := List.mem_map.mp hy
    obtain ⟨l', e'⟩ := ec _ hq k hk z hz
    exact ⟨_, by unfold edgD; rw [getM_keys, if_pos (getM_in e')]⟩
end
theorem sortZ_self {l : List Int} (h : l.Pairwise (· < ·)) : sortZ l = l := (sortZ_eq (List.Perm.refl l) (h.imp fun {a b} h => Int.le_of_lt h)).symm
theorem closed_ok {n : Nat} {sys : TSy} (hs : Sml n sys) (hne : ∀ cs ∈ sys, cs ≠ []) : ∃ ps, m_closed_parts sys = some ps ∧ IsParts n sys ps := by
  have hn := hs.2.1
  have hlen : sys.length = n := hs.1.1
  let D0 : DM := (rng 0 (n : Int)).map fun x => (x, rng 0 ((chs' sys x).length : Int))
  have k0 : D0.map (·.1) = rng 0 (n : Int) := by
    show ((rng 0 (n : Int)).map fun x => (x, rng 0 ((chs' sys x).length : Int))).map (·.1) = _
    rw [List.map_map, show ((fun q : Int × List Int => q.1) ∘ fun x => (x, rng 0 ((chs' sys x).length : Int))) = id from rfl, List.map_id]
  have rin : ∀ {m : Nat} {x : Int}, x ∈ rng 0 (m : Int) ↔ 0 ≤ x ∧ x < (m : Int) := fun {m x} => ⟨rng_mem, fun h => by
    unfold rng
    exact List.mem_map.mpr ⟨x.toNat, List.mem_range.mpr (by omega), by omega⟩⟩
  have v0 : VD n sys D0 := by
    refine ⟨by rw [k0]; exact rng_lt _ _, fun q hq => ?_, fun q hq => ?_, fun q hq k hk => ?_, fun q hq => ?_⟩
    all_goals obtain ⟨x, hx, rfl⟩ := List.mem_map.mp hq
    · exact rin.mp hx
    · have h := hne _ (chs_ix hs.1 (rin.mp hx)).2
      have : 0 < (chs' sys x).length := List.length_pos_iff.mpr h
      exact List.ne_nil_of_mem (rin.mpr ⟨Int.le_refl 0, by omega⟩)
    · exact rng_mem hk
    · exact rng_lt _ _
  have g0 : ∀ x, InR n x → getM D0 x = some (rng 0 ((chs' sys x).length : Int)) := fun x hx => by
    show getM ((rng 0 (n : Int)).map fun x => (x, rng 0 ((chs' sys x).length : Int))) x = _
    rw [getM_keys, if_pos (rin.mpr hx)]
  have ec0 : EC sys D0 := fun q hq k hk z hz => by
    obtain ⟨c, h1, h2⟩ := eoc_c (v0.ks q hq k hk).1 (v0.ks q hq k hk).2
    rw [← h2] at hz
    exact ⟨_, g0 _ (ends_r hs.1 (v0.inr q hq) h1 hz)⟩
  have hd0 : ∀ T, CT n sys T → Hd sys T D0 := fun T hT x hx => ⟨hT.2.1 x hx, _, g0 x (hT.1 x hx), fun k hk => rin.mpr (AT_mem.mp hk).1⟩
  unfold m_closed_parts
  suffices h : Yes (m_closed_parts sys) fun ps => IsParts n sys ps by
    obtain ⟨ps, h1, h2⟩ := h
    unfold m_closed_parts at h1
    exact ⟨ps, h1, h2⟩
  unfold m_closed_parts
  rw [hlen]
  refine y_eq (small62_s (by omega) (by omega)) (y_eq (room_s (by rw [rng_len]; omega)) (y_eq (a := D0) ?_ ?_))
  · rw [dcMM_new (g := fun x => (x, rng 0 ((chs' sys x).length : Int))) (fun x hx => ?_) (by simpa [Function.comp_def] using lt_nodup (rng_lt 0 (n : Int)))]
    · rfl
    · have hc := chs_ix hs.1 (rin.mp hx)
      have hl := (hs.2.2 _ hc.2).1
      exact bnd hc.1 (bnd (rgO_s (by omega) (by omega)) rfl)
  refine y_bind (Q := fun s => ∃ nm : Int → Int, s.1 = some ((s.2.map (·.1)).map fun x => (x, nm x)) ∧ FinD n sys s.2 (edgD sys s.2) nm) ?_ ?_
  · refine y_whileB _ (fun s => VD n sys s.2 ∧ EC sys s.2 ∧ ∀ T, CT n sys T → Hd sys T s.2) (fun s => cnt s.2) _ ⟨v0, ec0, hd0⟩ ?_
    rintro ⟨o, D⟩ ⟨v, ec, hd⟩
    dsimp only at v ec hd
    obtain ⟨nm, c1, c2⟩ := components_ok (edg_ve hs v ec)
    rw [edg_keys] at c1 c2
    refine y_p rfl (y_eq (edges_ok hs v) (y_eq c1 (y_eq (pruned_ok hs v) ?_)))
    refine y_bind (without_ok hs.1 (by omega) v.step) fun D' ⟨v', w1, w2, w3, w4⟩ => ?_
    dsimp only at w1 w2
    obtain ⟨p1, p2⟩ := stepD_cnt (okP sys D nm) D
    have kE := edg_kE v
    have hd' : ∀ T, CT n sys T → Hd sys T D' := fun T hT => w4 T (hd_step v (hd T hT) fun x hx k hk => by
      unfold okP
      refine List.all_eq_true.mpr fun q hq => ?_
      have hqT := (AT_mem.mp hk).2 q hq
      obtain ⟨_, l, e1, _⟩ := hd T hT q.1 hqT
      obtain ⟨_, l2, e2, _⟩ := hd T hT x hx
      rw [e1, nm_eq c2 (getM_in e1) (getM_in e2) (ct_cn kE hT (hd T hT) hqT hx), decide_eq_true rfl]
      rfl)
    have ec' : EC sys D' := fun q hq k hk z hz => by
      have h := stepD_all v'.srt w3 q.1 q.2 (v'.get hq) k hk
      unfold okW at h
      have := List.all_eq_true.mp h z hz
      cases e : getM D' z.1 with
      | none => rw [e] at this; cases this
      | some l => exact ⟨l, rfl⟩
    refine y_if (fun c => y_some ⟨nm, rfl, ?_⟩) fun c => y_some ⟨⟨v', ec', hd'⟩, ?_⟩
    · rw [eqM_eq v'.srt v.srt] at c
      have e := of_decide_eq_true c
      subst e
      have eP := p2 (by omega)
      refine ⟨v, kE, hd, c2, fun x l hl k hk q hq => ?_⟩
      have h := stepD_all v.srt eP x l hl k hk
      unfold okP at h
      have := List.all_eq_true.mp h q hq
      rw [Bool.and_eq_true] at this
      cases e : getM D' q.1 with
      | none => rw [e] at this; cases this.1
      | some l' => exact ⟨⟨l', rfl⟩, of_decide_eq_true this.2⟩
    · rw [eqM_eq v'.srt v.srt] at c
      dsimp only
      rcases Nat.lt_or_ge (cnt D') (cnt D) with h | h
      · exact h
      · have e1 := p2 (by omega)
        have e2 := w2 (by omega)
        exact absurd (decide_eq_true (e2.trans e1)) c
  · rintro ⟨o, D⟩ ⟨nm, e, f⟩
    dsimp only at e f
    subst e
    have hDl := f.v.len
    refine y_eq rfl ?_
    have kk : ((D.map (·.1)).map fun x => (x, nm x)).map (·.1) = D.map (·.1) := by
      rw [List.map_map, show ((fun q : Int × Int => q.1) ∘ fun x => (x, nm x)) = id from rfl, List.map_id]
    rw [kk]
    have hnl : (setZ ((D.map (·.1)).map nm)).length ≤ n := setZ_len fun x hx => by
      obtain ⟨y, hy, rfl⟩ := List.mem_map.mp hx
      obtain ⟨q, hq, e⟩ := List.mem_map.mp (f.nmS y hy).2.1
      rw [← e]
      exact f.v.inr q hq
    refine y_eq (room_s (by simp; omega)) (y_eq (a := ((D.map (·.1)).map nm, ())) (compM_map fun x hx => bnd (a := nm x) (by rw [getM_keys, if_pos hx]) rfl) (y_eq (if_pos (by simp; omega)) (y_eq (if_pos (by dsimp only; omega)) ?_)))
    refine y_eq (a := (setZ ((D.map (·.1)).map nm)).map (partD D nm)) ?_ (y_some f.parts)
    have go : ∀ (cs : List Int) (acc : List PT'), acc.length + cs.length ≤ 1000 → foldO (S := List PT') (fun s c => Option.bind (few D.length) fun _ => Option.bind (room (sortZ (D.map (·.1))).length) fun _ => Option.bind (compM (S := Unit) (β := Int × List Int) (fun _ x => Option.bind (getM ((D.map (·.1)).map fun x => (x, nm x)) x) fun t => if decide (t = c) = true then Option.bind (getM D x) fun l => some (some (x, l), ()) else some (none, ())) () (sortZ (D.map (·.1)))) fun t => Option.bind (room s.length) fun _ => some (s ++ [t.1])) acc cs = some (acc ++ cs.map (partD D nm)) := by
      intro cs
      induction cs with
      | nil => intro acc _; simp [foldO]
      | cons c cs ih =>
        intro acc hl
        rw [List.length_cons] at hl
        have hss : sortZ (D.map (·.1)) = D.map (·.1) := sortZ_self f.v.srt
        refine foldO_cons (s' := acc ++ [partD D nm c]) ?_ ?_
        · rw [hss]
          refine bnd (if_pos (by omega)) (bnd (room_s (by simp; omega)) (bnd (a := (partD D nm c, ())) ?_ (bnd (room_s (by omega)) rfl)))
          refine compM_fm (p := fun x => decide (nm x = c)) (g := fun x => (x, (getM D x).getD [])) fun x hx => ?_
          refine bnd (a := nm x) (by rw [getM_keys, if_pos hx]) ?_
          obtain ⟨l, hl2⟩ := getM_key hx
          by_cases h : decide (nm x = c) = true
          · rw [if_pos h, if_pos h]
            refine bnd hl2 ?_
            rw [hl2]; rfl
          · rw [if_neg h, if_neg h]
        · rw [ih _ (by simp; omega)]
          simp
    exact go _ [] (by rw [List.length_nil]; dsimp only; omega)
end L3

namespace L3
open PySem L2
/-! ### the law's own parts -/
theorem catE {α : Type} {xs ys : List α} (h : xs.length + ys.length ≤ 1000000) : catT xs ys = some (xs ++ ys) := if_pos h
/-- each end once -/
def Onc (sys : TSy) : Prop := ∀ cs ∈ sys, ∀ c ∈ cs, (c.2.map (·.1)).Nodup
section
variable {n : Nat} {sys : TSy} {T : List Int}
theorem AT_get {x k : Int} (h : k ∈ AT sys T x) : ∃ c ∈ chs' sys x, ixL (chs' sys x) k = some c ∧ c.2 = eoc sys x k := by
  obtain ⟨⟨h0, h1⟩, _⟩ := AT_mem.mp h
  obtain ⟨c, e1, e2, e3⟩ := eoc_ix h0 h1
  exact ⟨c, e3, e1, e2⟩
theorem conn_ok (hs : Sml n sys) (ho : Onc sys) (ha : T.Pairwise (· < ·)) (hT : ∀ x ∈ T, InR n x) : ∃ b, m_l_connected sys (partOf sys T) = some b ∧ (b = true ↔ ∀ x ∈ T, ∀ y ∈ T, Rch (stT sys T) (fun w => w = y) x) := by
  have hn := hs.2.1
  have hTl : T.length ≤ 20 := Nat.le_trans (nodup_le (lt_nodup ha) hT) hn
  have hpl : (partOf sys T).length = T.length := by unfold partOf; rw [List.length_map]
  have hp : ∀ {i : Nat} {p : Int × List Int}, (partOf sys T)[i]? = some p → ∃ x, T[i]? = some x ∧ p = (x, AT sys T x) := fun {i p} h => by
    unfold partOf at h
    rw [List.getElem?_map] at h
    cases e : T[i]? with
    | none => rw [e] at h; cases h
    | some x => rw [e] at h; exact ⟨x, rfl, (Option.some.inj h).symm⟩
  suffices h : Yes (m_l_connected sys (partOf sys T)) fun b => (b = true ↔ ∀ x ∈ T, ∀ y ∈ T, Rch (stT sys T) (fun w => w = y) x) by
    obtain ⟨b, h1, h2⟩ := h
    exact ⟨b, h1, h2⟩
  unfold m_l_connected
  refine y_bind (Q := fun o => match o with | .inl _ => ∀ x ∈ T, ∀ y ∈ T, Rch (stT sys T) (fun w => w = y) x | .inr r => r = false ∧ ¬ ∀ x ∈ T, ∀ y ∈ T, Rch (stT sys T) (fun w => w = y) x) ?_ fun o ho => ?_
  rotate_left
  · cases o with
    | inl s => exact y_some ⟨fun _ => ho, fun _ => rfl⟩
    | inr r =>
      obtain ⟨h1, h2⟩ := ho
      subst h1
      exact y_some ⟨(fun z => by cases z), fun z => absurd z h2⟩
  refine y_loopR _ (fun i _ => ∀ (m : Nat) x, m < i → T[m]? = some x → ∀ y ∈ T, Rch (stT sys T) (fun w => w = y) x) _ (fun m x h => absurd h (Nat.not_lt_zero _)) ?_ fun s h x hx y hy => ?_
  rotate_left
  · obtain ⟨m, hm⟩ := List.getElem?_of_mem hx
    exact h m x (by rw [hpl]; exact (List.getElem?_eq_some_iff.mp hm).1) hm y hy
  rintro i p ⟨⟩ hi hI
  obtain ⟨x, hx, rfl⟩ := hp hi
  have hxT := List.mem_of_getElem? hx
  dsimp only
  rw [hpl]
  refine y_eq (small62_s (by omega) (by omega)) ?_
  refine y_bind (Q := fun s => s.Nodup ∧ x ∈ s ∧ (∀ y ∈ s, y ∈ T ∧ Rch (stT sys T) (fun w => w = y) x) ∧ ∀ a ∈ s, ∀ b, stT sys T a b → b ∈ s) ?_ fun s ⟨s1, s2, s3, s4⟩ => ?_
  · refine (y_foldI _ (fun i s => s.Nodup ∧ x ∈ s ∧ (∀ y ∈ s, y ∈ T ∧ Rch (stT sys T) (fun w => w = y) x) ∧ ((∀ a ∈ s, ∀ b, stT sys T a b → b ∈ s) ∨ i + 1 ≤ s.length)) ⟨by simp, by simp, fun y hy => by rw [List.mem_singleton.mp hy]; exact ⟨hxT, rch_refl x⟩, .inr (by simp)⟩ ?_).mono fun s ⟨s1, s2, s3, s4⟩ => ?_
    · rintro r k s hk ⟨s1, s2, s3, s4⟩
      have hsl : s.length ≤ 20 := Nat.le_trans (sub_le s1 fun y hy => (s3 y hy).1) hTl
      refine y_bind (y_foldI _ (fun j s' => s'.Nodup ∧ (∀ y ∈ s, y ∈ s') ∧ (∀ y ∈ s', y ∈ T ∧ Rch (stT sys T) (fun w => w = y) x) ∧ ∀ (m : Nat) a, m < j → T[m]? = some a → a ∈ s → ∀ b, stT sys T a b → b ∈ s') ⟨s1, fun y hy => hy, s3, fun m a h => absurd h (Nat.not_lt_zero _)⟩ ?_) fun s' hs' => ?_
      · rintro j p' s' hj ⟨t1, t2, t3, t4⟩
        obtain ⟨a, haj, rfl⟩ := hp hj
        have haT := List.mem_of_getElem? haj
        refine y_bind (Q := fun s'' => s''.Nodup ∧ (∀ y ∈ s', y ∈ s'') ∧ (∀ y ∈ s'', y ∈ T ∧ Rch (stT sys T) (fun w => w = y) x) ∧ (a ∈ s' → ∀ b, stT sys T a b → b ∈ s'')) ?_ fun s'' ⟨u1, u2, u3, u4⟩ => y_some ⟨u1, fun y hy => u2 y (t2 y hy), u3, fun m a' hm hma has b hab => ?_⟩
        · refine y_if (fun c => ?_) fun c => y_some ⟨t1, fun y hy => hy, t3, fun h => absurd (decide_eq_true h) c⟩
          have c := of_decide_eq_true c
          dsimp only at c ⊢
          refine y_bind (y_foldI _ (fun q s'' => s''.Nodup ∧ (∀ y ∈ s', y ∈ s'') ∧ (∀ y ∈ s'', y ∈ T ∧ Rch (stT sys T) (fun w => w = y) x) ∧ ∀ (m : Nat) k, m < q → (AT sys T a)[m]? = some k → ∀ z ∈ eoc sys a k, z.1 ∈ s'') ⟨t1, fun y hy => hy, t3, fun m k h => absurd h (Nat.not_lt_zero _)⟩ ?_) fun s'' ⟨u1, u2, u3, u4⟩ => y_some ⟨u1, u2, u3, fun _ b hab => ?_⟩
          · rintro q k s'' hq ⟨u1, u2, u3, u4⟩
            have hkA := List.mem_of_getElem? hq
            obtain ⟨e, e1, e2, e3⟩ := AT_get hkA
            have hcs := chs_ix hs.1 (hT a haT)
            have hel := (hs.2.2 _ hcs.2).2 e e1
            have hend := (AT_mem.mp hkA).2
            have hsl2 : s''.length ≤ 20 := Nat.le_trans (sub_le u1 fun y hy => (u3 y hy).1) hTl
            refine y_eq hcs.1 (y_eq e2 (y_eq (room_s (by omega)) (y_eq (a := ((e.2.filter fun z => !decide (z.1 ∈ s'')).map (·.1), ())) (compM_fm fun z _ => rfl) ?_)))
            have hfl := List.length_filter_le (fun z : Int × Int => !decide (z.1 ∈ s'')) e.2
            refine y_eq (catE (by simp; omega)) (y_some ⟨?_, fun y hy => List.mem_append_left _ (u2 y hy), fun y hy => ?_, fun m k' hm hmk z hz => ?_⟩)
            · refine List.nodup_append.mpr ⟨u1, (ho _ hcs.2 e e1).sublist (List.filter_sublist.map _), fun w hw z hz ee => ?_⟩
              obtain ⟨z', hz', e9⟩ := List.mem_map.mp hz
              have := (List.mem_filter.mp hz').2
              rw [e9, ← ee] at this
              simp [hw] at this
            · rcases List.mem_append.mp hy with hy | hy
              · exact u3 y hy
              · obtain ⟨z', hz', e9⟩ := List.mem_map.mp hy
                have hz2 := (List.mem_filter.mp hz').1
                rw [e3] at hz2
                rw [← e9]
                exact ⟨hend z' hz2, rch_trans (t3 a c).2 (.step ⟨haT, k, hkA, z', hz2, rfl⟩ (rch_refl _))⟩
            · by_cases em : m = q
              · subst em
                rw [hq] at hmk
                cases hmk
                by_cases hzs : z.1 ∈ s''
                · exact List.mem_append_left _ hzs
                · exact List.mem_append_right _ (List.mem_map.mpr ⟨z, List.mem_filter.mpr ⟨by rw [e3]; exact hz, by simp [hzs]⟩, rfl⟩)
              · exact List.mem_append_left _ (u4 m k' (by omega) hmk z hz)
          · obtain ⟨_, k, hk2, z, hz, e9⟩ := hab
            obtain ⟨m, hm⟩ := List.getElem?_of_mem hk2
            rw [← e9]
            exact u4 m k (List.getElem?_eq_some_iff.mp hm).1 hm z hz
        · by_cases em : m = j
          · subst em
            rw [haj] at hma
            cases hma
            exact u4 (t2 _ has) b hab
          · exact u2 b (t4 m a' (by omega) hma has b hab)
      · obtain ⟨t1, t2, t3, t4⟩ := hs'
        rw [hpl] at t4
        have cl : ∀ a ∈ s, ∀ b, stT sys T a b → b ∈ s' := fun a has b hab => by
          obtain ⟨m, hm⟩ := List.getElem?_of_mem (s3 a has).1
          exact t4 m a (List.getElem?_eq_some_iff.mp hm).1 hm has b hab
        refine y_some ⟨t1, t2 x s2, t3, ?_⟩
        have hle := sub_le s1 t2
        rcases s4 with s4 | s4
        · refine .inl fun a has' b hab => t2 b (s4 a ?_ b hab)
          exact rch_stay (S := fun w => w ∈ s) (fun u w hu huw => s4 u hu w huw) (t3 a has').2 s2
        · rcases Nat.lt_or_ge s.length s'.length with h | h
          · exact .inr (by omega)
          · have hb := sub_full s1 t2 h
            exact .inl fun a has' b hab => cl a (hb a has') b hab
    · rw [rng_len] at s4
      refine ⟨s1, s2, s3, ?_⟩
      rcases s4 with s4 | s4
      · exact s4
      · have := sub_le s1 fun y hy => (s3 y hy).1
        exact absurd s4 (by omega)
  · have full : (∀ y ∈ T, Rch (stT sys T) (fun w => w = y) x) ↔ T.length ≤ s.length := by
      constructor
      · intro h
        exact sub_le (lt_nodup ha) fun y hy => rch_stay (S := fun w => w ∈ s) (fun u w hu huw => s4 u hu w huw) (h y hy) s2
      · intro h y hy
        exact (s3 y (sub_full s1 (fun z hz => (s3 z hz).1) h y hy)).2
    refine y_if (fun c => y_some ?_) fun c => y_some ?_
    · have c := of_decide_eq_true c
      refine ⟨rfl, fun z => ?_⟩
      have := full.mp (z x hxT)
      omega
    · have c : ¬ (s.length : Int) < (T.length : Int) := fun z => c (decide_eq_true z)
      intro m y hm hmy
      by_cases em : m = i
      · subst em
        rw [hx] at hmy
        cases hmy
        exact full.mpr (by omega)
      · exact hI m y (by omega) hmy
theorem part_ok (hs : Sml n sys) (hT : ∀ x ∈ T, InR n x) (hTl : T.length ≤ 20) : m_l_part sys T = some (if (∀ x ∈ T, AT sys T x ≠ []) then some (partOf sys T) else none) := by
  have hn := hs.2.1
  suffices h : Yes (m_l_part sys T) fun o => (∀ x ∈ T, AT sys T x ≠ []) ∧ o = some (partOf sys T) ∨ (¬ (∀ x ∈ T, AT sys T x ≠ [])) ∧ o = none by
    obtain ⟨o, h1, h2⟩ := h
    rw [h1]
    rcases h2 with ⟨a, b⟩ | ⟨a, b⟩
    · rw [if_pos a, b]
    · rw [if_neg a, b]
  unfold m_l_part
  refine y_bind (Q := fun o => match o with | .inl s => (∀ x ∈ T, AT sys T x ≠ []) ∧ s = partOf sys T | .inr r => (¬ ∀ x ∈ T, AT sys T x ≠ []) ∧ r = none) ?_ fun o ho => ?_
  rotate_left
  · cases o with
    | inl s =>
      obtain ⟨h1, h2⟩ := ho
      subst h2
      exact y_some (.inl ⟨h1, rfl⟩)
    | inr r => exact y_some (.inr ho)
  refine y_loopR _ (fun i s => (∀ (m : Nat) x, m < i → T[m]? = some x → AT sys T x ≠ []) ∧ s = (T.take i).map fun x => (x, AT sys T x)) _ ⟨fun m x h => absurd h (Nat.not_lt_zero _), by simp⟩ ?_ ?_
  · rintro i x s hx ⟨h1, h2⟩
    have hxT := List.mem_of_getElem? hx
    have hcs := chs_ix hs.1 (hT x hxT)
    have hc10 := (hs.2.2 _ hcs.2).1
    refine y_eq hcs.1 (y_eq (small62_s (by omega) (by omega)) (y_eq (a := [] ++ (rng 0 ((chs' sys x).length : Int)).filter fun k => decide (((((eoc sys x k).filter fun z => !decide (z.1 ∈ T)).length : Nat) : Int) = 0)) (fold_filter (fun k hk s' hl => ?_) (by rw [rng_len]; simp; omega)) ?_))
    · have hk := rng_mem hk
      obtain ⟨c, e1, e2, e3⟩ := eoc_ix hk.1 hk.2
      have hel := (hs.2.2 _ hcs.2).2 c e3
      refine bnd hcs.1 (bnd e1 (bnd (room_s (by omega)) (bnd (a := (c.2.filter fun z => !decide (z.1 ∈ T), ())) (compM_filter fun z _ => rfl) ?_)))
      have key : ∀ b : Bool, Option.bind (if b = true then Option.bind (room s'.length) fun _ => some (s' ++ [k]) else some s') (fun s => some s) = some (if b = true then s' ++ [k] else s') := fun b => by
        cases b
        · rfl
        · exact bnd (bnd (room_s (by omega)) rfl) rfl
      rw [← e2]
      exact key _
    · have eA : ([] ++ (rng 0 ((chs' sys x).length : Int)).filter fun k => decide (((((eoc sys x k).filter fun z => !decide (z.1 ∈ T)).length : Nat) : Int) = 0)) = AT sys T x := by
        rw [List.nil_append]
        unfold AT
        refine List.filter_congr fun k _ => ?_
        rw [Bool.eq_iff_iff, decide_eq_true_iff, List.all_eq_true]
        constructor
        · intro h z hz
          have h0 : ((eoc sys x k).filter fun z => !decide (z.1 ∈ T)) = [] := List.eq_nil_of_length_eq_zero (by omega)
          have := List.filter_eq_nil_iff.mp h0 z hz
          simpa using this
        · intro h
          have h0 : ((eoc sys x k).filter fun z => !decide (z.1 ∈ T)) = [] := List.filter_eq_nil_iff.mpr fun z hz => by
            have := h z hz
            simpa using this
          rw [h0]; rfl
      rw [eA]
      refine y_if (fun c => y_some ⟨fun z => ?_, rfl⟩) fun c => ?_
      · have c := of_decide_eq_true c
        exact z x hxT (List.eq_nil_of_length_eq_zero (by omega))
      · have hne : AT sys T x ≠ [] := fun z => c (decide_eq_true (by rw [z]; rfl))
        have hsl : s.length ≤ 20 := by rw [h2, List.length_map]; exact Nat.le_trans (List.length_take_le _ _) (by have := (List.getElem?_eq_some_iff.mp hx).1; omega)
        refine y_eq (room_s (by omega)) (y_some ⟨fun m y hm hy => ?_, ?_⟩)
        · by_cases em : m = i
          · subst em
            rw [hx] at hy
            cases hy
            exact hne
          · exact h1 m y (by omega) hy
        · rw [h2, List.take_add_one, hx]
          simp
  · rintro s ⟨h1, h2⟩
    refine ⟨fun x hx => ?_, ?_⟩
    · obtain ⟨m, hm⟩ := List.getElem?_of_mem hx
      exact h1 m x (List.getElem?_eq_some_iff.mp hm).1 hm
    · rw [h2, List.take_of_length_le (Nat.le_refl _)]
      rfl
end
end L3

namespace L3
open PySem L2
/-! ### the law's list of parts -/
theorem fold_fm {α β : Type} {f : List β → α → Option (List β)} {p : α → Bool} {g : α → β} : ∀ {xs : List α} {acc : List β}, (∀ x ∈ xs, ∀ s : List β, s.length ≤ 1000 → f s x = some (if p x = true then s ++ [g x] else s)) → acc.length + xs.length ≤ 1000 → foldO f acc xs = some (acc ++ (xs.filter p).map g)
  | [], acc, _, _ => by simp [foldO]
  | x :: xs, acc, hf, hl => by
    rw [List.length_cons] at hl
    refine foldO_cons (hf x List.mem_cons_self acc (by omega)) ?_
    by_cases h : p x = true
    · rw [if_pos h, fold_fm (fun y hy => hf y (List.mem_cons_of_mem _ hy)) (by simp; omega), List.filter_cons_of_pos h]
      simp
    · rw [if_neg h, fold_fm (fun y hy => hf y (List.mem_cons_of_mem _ hy)) (by omega), List.filter_cons_of_neg h]
/-- by their first states -/
theorem dat_lt {a b : PT'} (ha : a ≠ []) (hb : b ≠ []) (h : hdP a ≠ hdP b) : PySem.W.dataLt (dLst (dT2 PyData.int (dTup PyData.int)) a) (dLst (dT2 PyData.int (dTup PyData.int)) b) = decide (hdP a < hdP b) := by
  cases a with
  | nil => exact absurd rfl ha
  | cons p a =>
    cases b with
    | nil => exact absurd rfl hb
    | cons q b =>
      have h : p.1 ≠ q.1 := h
      have e1 : PyData.eqv (PyData.int p.1) (PyData.int q.1) = false := by
        rw [Bool.eq_false_iff]
        exact fun z => h ((dr_int.eqv p.1 q.1).mp z)
      have e2 : PyData.eqv (dT2 PyData.int (dTup PyData.int) p) (dT2 PyData.int (dTup PyData.int) q) = false := by
        rw [Bool.eq_false_iff]
        exact fun z => h (congrArg Prod.fst (((dr_T2 dr_int (dr_tup dr_int)).eqv p q).mp z))
      have a1 := (da_T2 da_int (da_tup da_int)).al p q
      show PySem.W.dataLt (.list (dT2 PyData.int (dTup PyData.int) p :: a.map _)) (.list (dT2 PyData.int (dTup PyData.int) q :: b.map _)) = decide (p.1 < q.1)
      rw [PySem.W.dataLt_list, PySem.W.dataLt_all_no a1 e2]
      show PySem.W.dataLt (.tuple [.int p.1, dTup PyData.int p.2]) (.tuple [.int q.1, dTup PyData.int q.2]) = _
      rw [PySem.W.dataLt_tuple, PySem.W.dataLt_all_no rfl e1, PySem.W.dataLt_int]
theorem parts_ne {n : Nat} {sys : TSy} {ps : List PT'} (h : IsParts n sys ps) : ∀ p ∈ ps, p ≠ [] := fun p hp => by
  obtain ⟨T, hT, rfl⟩ := (h.mem p).mp hp
  unfold partOf
  exact fun z => hT.ne (List.map_eq_nil_iff.mp z)
theorem sort_parts {n : Nat} {sys : TSy} {ps F : List PT'} (h : IsParts n sys ps) (hF : F.Nodup) (hm : ∀ p, p ∈ F ↔ p ∈ ps) : sortBy (dLst (dT2 PyData.int (dTup PyData.int))) F = ps := by
  have nd : ps.Nodup := h.srt.imp fun {a b} hab e => by rw [e] at hab; exact absurd hab (Int.lt_irrefl _)
  have hp : F.Perm ps := (List.perm_ext_iff_of_nodup hF nd).mpr hm
  have tot : PySem.W.TotalLe (fun a b : PT' => !PySem.W.dataLt (dLst (dT2 PyData.int (dTup PyData.int)) b) (dLst (dT2 PyData.int (dTup PyData.int)) a)) := PySem.W.sortLe_total (PyProof.Rows.listOrd PyProof.Rows.itemOrd) false fun a : PT' => PySem.W.keyToks (dLst (dT2 PyData.int (dTup PyData.int)) a)
  have sep : ∀ a ∈ ps, ∀ b ∈ ps, a ≠ b → hdP a ≠ hdP b := fun a ha b hb hab e => by
    obtain ⟨i, hi⟩ := List.getElem?_of_mem ha
    obtain ⟨j, hj⟩ := List.getElem?_of_mem hb
    obtain ⟨hi1, hi2⟩ := List.getElem?_eq_some_iff.mp hi
    obtain ⟨hj1, hj2⟩ := List.getElem?_eq_some_iff.mp hj
    have pw := List.pairwise_iff_getElem.mp h.srt
    rcases Nat.lt_trichotomy i j with c | c | c
    · have := pw i j hi1 hj1 c
      rw [hi2, hj2] at this
      omega
    · subst c
      exact hab (hi2.symm.trans hj2)
    · have := pw j i hj1 hi1 c
      rw [hi2, hj2] at this
      omega
  refine List.Perm.eq_of_pairwise (le := fun a b => (!PySem.W.dataLt (dLst (dT2 PyData.int (dTup PyData.int)) b) (dLst (dT2 PyData.int (dTup PyData.int)) a)) = true) (fun a b ha hb h1 h2 => ?_) (PySem.W.sort_pairwise tot F) (h.srt.imp_of_mem fun {a b} ha hb hab => ?_) ((List.mergeSort_perm _ _).trans hp)
  · by_cases e : a = b
    · exact e
    · have ha' : a ∈ ps := hp.mem_iff.mp ((List.mergeSort_perm _ _).mem_iff.mp ha)
      have s := sep a ha' b hb e
      rw [dat_lt (parts_ne h _ hb) (parts_ne h _ ha') (Ne.symm s), Bool.not_eq_true', decide_eq_false_iff_not] at h1
      rw [dat_lt (parts_ne h _ ha') (parts_ne h _ hb) s, Bool.not_eq_true', decide_eq_false_iff_not] at h2
      exact absurd (Int.le_antisymm (by omega) (by omega)) s
  · rw [dat_lt (parts_ne h _ hb) (parts_ne h _ ha) (by omega), Bool.not_eq_true', decide_eq_false_iff_not]
    omega
theorem asc_last {l : List Int} {i : Int} (h : l.Pairwise (· < ·)) (hb : ∀ x ∈ l, x < i + 1) (hi : i ∈ l) : ∃ l', l = l' ++ [i] ∧ l'.Pairwise (· < ·) ∧ ∀ x ∈ l', x < i := by
  rcases List.eq_nil_or_concat l with e | ⟨l', a, e⟩
  · rw [e] at hi; cases hi
  · rw [List.concat_eq_append] at e
    subst e
    obtain ⟨h1, h2, h3⟩ := List.pairwise_append.mp h
    have ha : a < i + 1 := hb a (by simp)
    have e : a = i := by
      rcases List.mem_append.mp hi with hi | hi
      · have := h3 i hi a (by simp); omega
      · exact (List.mem_singleton.mp hi).symm
    subst e
    exact ⟨l', rfl, h1, fun x hx => h3 x hx a (by simp)⟩
open Classical in
noncomputable def clB (n : Nat) (sys : TSy) (T : List Int) : Bool := decide (CT n sys T)
open Classical in
noncomputable def mxB (P : List (List Int × PT')) (q : List Int × PT') : Bool := decide (∀ o ∈ P, ¬ (q.1.length < o.1.length ∧ ∀ x ∈ q.1, x ∈ o.1))
open Classical in
theorem clB_iff {n : Nat} {sys : TSy} {T : List Int} : clB n sys T = true ↔ CT n sys T := by
  unfold clB
  exact decide_eq_true_iff
open Classical in
theorem mxB_iff {P : List (List Int × PT')} {q : List Int × PT'} : mxB P q = true ↔ ∀ o ∈ P, ¬ (q.1.length < o.1.length ∧ ∀ x ∈ q.1, x ∈ o.1) := by
  unfold mxB
  exact decide_eq_true_iff
theorem due_ok {n : Nat} {sys : TSy} {ps : List PT'} (hs : Sml n sys) (ho : Onc sys) (h5 : n ≤ 5) (h : IsParts n sys ps) : m_l_due sys = some ps := by
  have hlen : sys.length = n := hs.1.1
  suffices h : Yes (m_l_due sys) fun r => r = ps by
    obtain ⟨r, h1, h2⟩ := h
    rw [h1, h2]
  unfold m_l_due
  rw [hlen]
  refine y_eq (small62_s (by omega) (by omega)) ?_
  refine y_bind (Q := fun S => ∃ R, S = [] :: R ∧ S.length ≤ 32 ∧ S.Nodup ∧ ∀ l, l ∈ S ↔ l.Pairwise (· < ·) ∧ ∀ x ∈ l, InR n x) ?_ fun S ⟨R, e, hSl, hSn, hSm⟩ => ?_
  · refine (y_foldI _ (fun i S => ∃ R : List (List Int), S = [] :: R ∧ S.length = 2 ^ i ∧ S.Nodup ∧ ∀ l, l ∈ S ↔ l.Pairwise (· < ·) ∧ ∀ x ∈ l, 0 ≤ x ∧ x < (i : Int)) ⟨[], rfl, rfl, by simp, fun l => ?_⟩ ?_).mono fun S hS => ?_
    · constructor
      · intro hl
        rw [List.mem_singleton.mp hl]
        exact ⟨.nil, fun x hx => by cases hx⟩
      · rintro ⟨_, h2⟩
        cases l with
        | nil => simp
        | cons x l =>
          have := h2 x List.mem_cons_self
          omega
    · rintro i x S hx ⟨R, e, h1, h2, h3⟩
      obtain ⟨d1, d2⟩ := rng_at hx
      have d1 : x = (i : Int) := by omega
      subst d1
      have hi : i < 5 := by omega
      have hp : 2 ^ i ≤ 16 := Nat.le_trans (Nat.pow_le_pow_right (by decide) (by omega : i ≤ 4)) (by decide)
      have hll : ∀ l ∈ S, l.length ≤ 5 := fun l hl => Nat.le_trans (nodup_le (lt_nodup ((h3 l).mp hl).1) ((h3 l).mp hl).2) (by omega)
      refine y_eq (room_s (by omega)) (y_eq (a := (S.map fun l => l ++ [(i : Int)], ())) (compM_map fun l hl => bnd (catE (by have := hll l hl; simp; omega)) rfl) (y_eq (catE (by simp; omega)) (y_some ⟨R ++ S.map fun l => l ++ [(i : Int)], by rw [e]; rfl, ?_, ?_, fun l => ?_⟩)))
      · rw [List.length_append, List.length_map, h1, Nat.pow_succ]; omega
      · refine List.nodup_append.mpr ⟨h2, List.pairwise_map.mpr (h2.imp fun {a b} hab e => hab (List.append_cancel_right e)), fun a ha b hb e => ?_⟩
        obtain ⟨l', hl', rfl⟩ := List.mem_map.mp hb
        have := ((h3 a).mp ha).2 (i : Int) (by rw [e]; simp)
        omega
      · rw [List.mem_append]
        constructor
        · rintro (hl | hl)
          · exact ⟨((h3 l).mp hl).1, fun x hx => by have := ((h3 l).mp hl).2 x hx; omega⟩
          · obtain ⟨l', hl', rfl⟩ := List.mem_map.mp hl
            obtain ⟨g1, g2⟩ := (h3 l').mp hl'
            refine ⟨List.pairwise_append.mpr ⟨g1, by simp, fun a ha b hb => ?_⟩, fun x hx => ?_⟩
            · rw [List.mem_singleton.mp hb]; exact (g2 a ha).2
            · rcases List.mem_append.mp hx with hx | hx
              · have := g2 x hx; omega
              · rw [List.mem_singleton.mp hx]; omega
        · rintro ⟨g1, g2⟩
          by_cases hin : (i : Int) ∈ l
          · obtain ⟨l', e1, e2, e3⟩ := asc_last g1 (fun x hx => by have := g2 x hx; omega) hin
            subst e1
            exact .inr (List.mem_map.mpr ⟨l', (h3 l').mpr ⟨e2, fun x hx => ⟨(g2 x (List.mem_append_left _ hx)).1, e3 x hx⟩⟩, rfl⟩)
          · refine .inl ((h3 l).mpr ⟨g1, fun x hx => ?_⟩)
            have := g2 x hx
            have ne : x ≠ (i : Int) := fun e => hin (by rw [← e]; exact hx)
            omega
    · obtain ⟨R, e, h1, h2, h3⟩ := hS
      rw [rng_len] at h1 h3
      have hn : ((n : Int) - 0).toNat = n := by omega
      rw [hn] at h1 h3
      refine ⟨R, e, ?_, h2, h3⟩
      rw [h1]
      exact Nat.le_trans (Nat.pow_le_pow_right (by decide) h5) (by decide)
  · subst e
    have hcut : cutL ([] :: R) (some (1 : Int)) none = R := by
      unfold cutL
      have e1 : HT.sIx (([] : List Int) :: R).length 0 (some 1) = 1 := by
        show (if (1 : Int) < 0 then ((1 : Int) + ((([] : List Int) :: R).length : Int)).toNat else min (1 : Int).toNat (([] : List Int) :: R).length) = 1
        rw [if_neg (by decide), List.length_cons]
        show min 1 (R.length + 1) = 1
        omega
      rw [e1, HT.sIx_none, List.length_cons]
      show (R.take (R.length + 1 - 1)) = R
      rw [Nat.add_sub_cancel, List.take_length]
    rw [List.length_cons] at hSl
    have hRm : ∀ l, l ∈ R ↔ l ≠ [] ∧ l.Pairwise (· < ·) ∧ ∀ x ∈ l, InR n x := fun l => by
      rw [← hSm l]
      constructor
      · intro hl
        exact ⟨fun e => by rw [e] at hl; exact (List.nodup_cons.mp hSn).1 hl, List.mem_cons_of_mem _ hl⟩
      · rintro ⟨h1, h2⟩
        exact (List.mem_cons.mp h2).resolve_left h1
    have hRn := (List.nodup_cons.mp hSn).2
    rw [hcut]
    refine y_eq (a := [] ++ (R.filter (clB n sys)).map fun l => (l, partOf sys l)) (fold_fm (fun l hl s hsl => ?_) (by rw [List.length_nil]; omega)) ?_
    · obtain ⟨g0, g1, g2⟩ := (hRm l).mp hl
      have hll : l.length ≤ 20 := Nat.le_trans (nodup_le (lt_nodup g1) g2) hs.2.1
      obtain ⟨b, c1, c2⟩ := conn_ok hs ho g1 g2
      have hcl : clB n sys l = true ↔ (∀ x ∈ l, AT sys l x ≠ []) ∧ b = true := by
        rw [clB_iff, c2]
        exact ⟨fun z => z.2, fun z => ⟨g2, z⟩⟩
      rw [part_ok hs g2 hll]
      by_cases hA : ∀ x ∈ l, AT sys l x ≠ []
      · rw [if_pos hA]
        cases b with
        | true =>
          rw [if_pos (hcl.mpr ⟨hA, rfl⟩)]
          exact bnd rfl (bnd (a := true) (by rw [if_pos (show (some (partOf sys l)).isSome = true from rfl)]; exact bnd rfl (bnd c1 rfl)) (bnd (a := s ++ [(l, partOf sys l)]) (by rw [if_pos rfl]; exact bnd rfl (bnd (room_s (by omega)) rfl)) rfl))
        | false =>
          rw [if_neg (fun z => by cases (hcl.mp z).2)]
          exact bnd rfl (bnd (a := false) (by rw [if_pos (show (some (partOf sys l)).isSome = true from rfl)]; exact bnd rfl (bnd c1 rfl)) rfl)
      · rw [if_neg hA, if_neg (fun z => hA (hcl.mp z).1)]
        exact bnd rfl rfl
    · rw [List.nil_append]
      have hPl : ((R.filter (clB n sys)).map fun l => (l, partOf sys l)).length ≤ 32 := by
        rw [List.length_map]
        have := List.length_filter_le (clB n sys) R
        omega
      refine y_eq (a := [] ++ (((R.filter (clB n sys)).map fun l => (l, partOf sys l)).filter (mxB ((R.filter (clB n sys)).map fun l => (l, partOf sys l)))).map (·.2)) (fold_fm (fun q hq s hsl => ?_) (by rw [List.length_nil]; omega)) ?_
      · obtain ⟨lq, hlq, rfl⟩ := List.mem_map.mp hq
        obtain ⟨k0, k1, k2⟩ := (hRm lq).mp (List.mem_filter.mp hlq).1
        have hll : lq.length ≤ 20 := Nat.le_trans (nodup_le (lt_nodup k1) k2) hs.2.1
        have inner : Yes (foldO (S := Int) (α := List Int × PT') (fun s173 x174 => Option.bind (if (decide ((x174.1.length : Int) > (lq.length : Int))) = true then (Option.bind (room lq.length) fun t229 => Option.bind (compM (S := Unit) (β := Int) (fun (s200 : Unit) (x207 : Int) => ( if (!decide (x207 ∈ x174.1)) = true then ( some (some x207, ())) else some (none, ()))) (()) lq) fun t231 => some ((decide ((t231.1.length : Int) = (0 : Int))))) else (some (false))) fun t233 => Option.bind (if t233 = true then some ((s173 + (1 : Int))) else some s173) fun s237 => some s237) 0 ((R.filter (clB n sys)).map fun l => (l, partOf sys l))) fun t : Int => decide (t = 0) = mxB ((R.filter (clB n sys)).map fun l => (l, partOf sys l)) (lq, partOf sys lq) := by
          refine (y_foldI _ (fun i t => 0 ≤ t ∧ (t = 0 ↔ ∀ (m : Nat) o, m < i → ((R.filter (clB n sys)).map fun l => (l, partOf sys l))[m]? = some o → ¬ (lq.length < o.1.length ∧ ∀ x ∈ lq, x ∈ o.1))) ⟨Int.le_refl 0, fun _ m o hm => absurd hm (Nat.not_lt_zero _), fun _ => rfl⟩ ?_).mono fun t t2 => ?_
          · rintro i o s ho' ⟨i1, i2⟩
            have tail : ∀ w : Bool, (w = true ↔ lq.length < o.1.length ∧ ∀ x ∈ lq, x ∈ o.1) → Yes (Option.bind (if w = true then some (s + (1 : Int)) else some s) fun s237 => some s237) fun t => 0 ≤ t ∧ (t = 0 ↔ ∀ (m : Nat) o', m < i + 1 → ((R.filter (clB n sys)).map fun l => (l, partOf sys l))[m]? = some o' → ¬ (lq.length < o'.1.length ∧ ∀ x ∈ lq, x ∈ o'.1)) := fun w hw => by
              cases w with
              | true =>
                refine ⟨s + 1, rfl, by omega, fun z => by omega, fun z => absurd (hw.mp rfl) (z i o (Nat.lt_succ_self _) ho')⟩
              | false =>
                refine ⟨s, rfl, i1, fun z m o' hm hmo => ?_, fun z => i2.mpr fun m o' hm hmo => z m o' (Nat.lt_succ_of_lt hm) hmo⟩
                by_cases em : m = i
                · subst em
                  rw [ho'] at hmo
                  cases hmo
                  exact fun y => Bool.false_ne_true (hw.mpr y)
                · exact i2.mp z m o' (by omega) hmo
            by_cases hgt : decide ((o.1.length : Int) > (lq.length : Int)) = true
            · rw [if_pos hgt]
              have hgt' : lq.length < o.1.length := by have := of_decide_eq_true hgt; omega
              refine y_eq (bnd (room_s (by omega)) (bnd (a := (lq.filter fun x => !decide (x ∈ o.1), ())) (compM_filter fun x _ => rfl) rfl)) (tail _ ?_)
              rw [decide_eq_true_iff]
              constructor
              · intro z
                refine ⟨hgt', fun x hx => ?_⟩
                have h0 : (lq.filter fun x => !decide (x ∈ o.1)) = [] := List.eq_nil_of_length_eq_zero (by dsimp only at z; omega)
                have := List.filter_eq_nil_iff.mp h0 x hx
                simpa using this
              · rintro ⟨_, z⟩
                have h0 : (lq.filter fun x => !decide (x ∈ o.1)) = [] := List.filter_eq_nil_iff.mpr fun x hx => by
                  have := z x hx
                  simpa using this
                dsimp only
                rw [h0]; rfl
            · rw [if_neg hgt]
              refine y_eq rfl (tail false ⟨fun z => (by cases z), fun z => absurd (decide_eq_true (by have := z.1; omega)) hgt⟩)
          · rw [Bool.eq_iff_iff, decide_eq_true_iff, mxB_iff, t2.2]
            constructor
            · intro z o hoP
              obtain ⟨m, hm⟩ := List.getElem?_of_mem hoP
              exact z m o (List.getElem?_eq_some_iff.mp hm).1 hm
            · intro z m o hm hmo
              exact z o (List.mem_of_getElem? hmo)
        obtain ⟨t, t1, t2⟩ := inner
        refine bnd t1 ?_
        rw [← t2]
        have key : ∀ b : Bool, Option.bind (if b = true then Option.bind (room s.length) fun _ => some (s ++ [partOf sys lq]) else some s) (fun s => some s) = some (if b = true then s ++ [partOf sys lq] else s) := fun b => by
          cases b
          · rfl
          · exact bnd (bnd (room_s (by omega)) rfl) rfl
        exact key _
      · rw [List.nil_append]
        refine y_some (sort_parts h ?_ fun p => ?_)
        · have hf : ∀ q ∈ ((R.filter (clB n sys)).map fun l => (l, partOf sys l)), q.2.map (·.1) = q.1 := fun q hq => by
            obtain ⟨l, _, rfl⟩ := List.mem_map.mp hq
            unfold partOf
            rw [List.map_map]
            exact List.map_id l
          refine List.pairwise_map.mpr ?_
          have nd : ((R.filter (clB n sys)).map fun l => (l, partOf sys l)).Nodup := List.pairwise_map.mpr ((hRn.sublist List.filter_sublist).imp fun {a b} hab e => hab (congrArg Prod.fst e))
          refine (nd.sublist List.filter_sublist).imp_of_mem fun {a b} ha hb hab e => hab ?_
          have e1 := hf a (List.mem_filter.mp ha).1
          have e2 := hf b (List.mem_filter.mp hb).1
          rw [e] at e1
          exact Prod.ext (e1.symm.trans e2) e
        · rw [h.mem, List.mem_map]
          constructor
          · rintro ⟨q, hq, rfl⟩
            obtain ⟨hq1, hq2⟩ := List.mem_filter.mp hq
            obtain ⟨T, hT, rfl⟩ := List.mem_map.mp hq1
            obtain ⟨hTR, hTc⟩ := List.mem_filter.mp hT
            obtain ⟨k0, k1, k2⟩ := (hRm T).mp hTR
            refine ⟨T, ⟨k1, k0, clB_iff.mp hTc, fun T' a1 a2 a3 => ?_⟩, rfl⟩
            have hT'R : T' ∈ R := (hRm T').mpr ⟨(fun e => by
              obtain ⟨x, hx⟩ := List.exists_mem_of_ne_nil _ k0
              have := a3 x hx
              rw [e] at this
              cases this), a1, a2.1⟩
            have := mxB_iff.mp hq2 (T', partOf sys T') (List.mem_map.mpr ⟨T', List.mem_filter.mpr ⟨hT'R, clB_iff.mpr a2⟩, rfl⟩)
            rcases Nat.lt_or_ge T.length T'.length with c | c
            · exact absurd ⟨c, a3⟩ this
            · exact c
          · rintro ⟨T, hT, rfl⟩
            refine ⟨(T, partOf sys T), List.mem_filter.mpr ⟨List.mem_map.mpr ⟨T, List.mem_filter.mpr ⟨(hRm T).mpr ⟨hT.ne, hT.asc, hT.ct.1⟩, clB_iff.mpr hT.ct⟩, rfl⟩, ?_⟩, rfl⟩
            refine mxB_iff.mpr fun o hoP z => ?_
            obtain ⟨T', hT', rfl⟩ := List.mem_map.mp hoP
            obtain ⟨g1, g2⟩ := List.mem_filter.mp hT'
            have := hT.mx T' ((hRm T').mp g1).2.1 (clB_iff.mp g2) z.2
            have := z.1
            dsimp only at this
            omega
end L3

namespace L3
open PySem L2
/-! ### systems side by side -/
def shC (d : Int) (cs : List (Int × List (Int × Int))) : List (Int × List (Int × Int)) := cs.map fun c => (c.1, c.2.map fun e => (e.1 + d, e.2))
def shP (d : Int) (p : PT') : PT' := p.map fun x => (x.1 + d, x.2)
def sbs (A B : TSy) : TSy := A ++ B.map (shC (A.length : Int))
theorem rch_map {st st' : Int → Int → Prop} {f : Int → Int} (h : ∀ x y, st x y → st' (f x) (f y)) {x y : Int} (r : Rch st (fun w => w = y) x) : Rch st' (fun w => w = f y) (f x) := by
  induction r with
  | base e => rw [e]; exact rch_refl _
  | step s _ ih => exact .step (h _ _ s) ih
section
variable {A B : TSy} {nA nB : Nat}
theorem chs_a (hA : A.length = nA) {x : Int} (hx : InR nA x) : chs' (sbs A B) x = chs' A x := by
  obtain ⟨k, rfl⟩ := Int.eq_ofNat_of_zero_le hx.1
  have := hx.2
  unfold chs' sbs
  rw [Int.toNat_natCast, List.getD_eq_getElem?_getD, List.getD_eq_getElem?_getD, List.getElem?_append_left (by omega)]
theorem chs_b (hA : A.length = nA) (hB : B.length = nB) {x : Int} (hx : InR nB x) : chs' (sbs A B) (x + (nA : Int)) = shC (nA : Int) (chs' B x) := by
  obtain ⟨k, rfl⟩ := Int.eq_ofNat_of_zero_le hx.1
  have := hx.2
  unfold chs' sbs
  have e : ((k : Int) + (nA : Int)).toNat = nA + k := by omega
  rw [e, Int.toNat_natCast, List.getD_eq_getElem?_getD, List.getD_eq_getElem?_getD, List.getElem?_append_right (by omega), hA, Nat.add_sub_cancel_left, List.getElem?_map, List.getElem?_eq_getElem (by omega)]
  rfl
theorem eoc_a (hA : A.length = nA) {x k : Int} (hx : InR nA x) : eoc (sbs A B) x k = eoc A x k := by
  unfold eoc
  rw [chs_a hA hx]
theorem eoc_b (hA : A.length = nA) (hB : B.length = nB) {x k : Int} (hx : InR nB x) : eoc (sbs A B) (x + (nA : Int)) k = (eoc B x k).map fun e => (e.1 + (nA : Int), e.2) := by
  unfold eoc
  rw [chs_b hA hB hx]
  unfold shC
  rw [List.getD_eq_getElem?_getD, List.getD_eq_getElem?_getD, List.getElem?_map]
  cases (chs' B x)[k.toNat]? <;> rfl
theorem AT_a (hA : A.length = nA) {x : Int} (hx : InR nA x) (T : List Int) : AT (sbs A B) T x = AT A T x := by
  unfold AT
  rw [chs_a hA hx]
  refine List.filter_congr fun k _ => ?_
  rw [eoc_a hA hx]
def up (d : Int) (T : List Int) : List Int := T.map fun x => x + d
theorem up_mem {d x : Int} {T : List Int} : x + d ∈ up d T ↔ x ∈ T := by
  unfold up
  rw [List.mem_map]
  exact ⟨fun ⟨y, hy, e⟩ => by rw [show x = y by omega]; exact hy, fun h => ⟨x, h, rfl⟩⟩
theorem AT_b (hA : A.length = nA) (hB : B.length = nB) {x : Int} (hx : InR nB x) (T : List Int) : AT (sbs A B) (up (nA : Int) T) (x + (nA : Int)) = AT B T x := by
  unfold AT
  rw [chs_b hA hB hx]
  have e : (shC (nA : Int) (chs' B x)).length = (chs' B x).length := by unfold shC; rw [List.length_map]
  rw [e]
  refine List.filter_congr fun k _ => ?_
  rw [eoc_b hA hB hx, List.all_map]
  exact congrArg (eoc B x k).all (funext fun q => decide_eq_decide.mpr up_mem)
theorem up_down (d : Int) (T : List Int) : up d (up (-d) T) = T := by
  unfold up
  rw [List.map_map]
  have : ((fun x : Int => x + d) ∘ fun x => x + -d) = id := funext fun x => by show x + -d + d = x; omega
  rw [this, List.map_id]
theorem up_len {d : Int} {T : List Int} : (up d T).length = T.length := List.length_map _
theorem up_asc {d : Int} {T : List Int} (h : T.Pairwise (· < ·)) : (up d T).Pairwise (· < ·) := List.pairwise_map.mpr (h.imp fun {a b} h => by omega)
theorem ct_a (hA : A.length = nA) {T : List Int} (hT : ∀ x ∈ T, InR nA x) (n : Nat) (hn : nA ≤ n) : CT n (sbs A B) T ↔ CT nA A T := by
  have st : ∀ x y, stT (sbs A B) T x y ↔ stT A T x y := fun x y => by
    unfold stT
    constructor
    · rintro ⟨hx, k, hk, q, hq, e⟩
      rw [AT_a hA (hT x hx)] at hk
      rw [eoc_a hA (hT x hx)] at hq
      exact ⟨hx, k, hk, q, hq, e⟩
    · rintro ⟨hx, k, hk, q, hq, e⟩
      exact ⟨hx, k, by rw [AT_a hA (hT x hx)]; exact hk, q, by rw [eoc_a hA (hT x hx)]; exact hq, e⟩
  constructor
  · rintro ⟨_, h2, h3⟩
    exact ⟨hT, fun x hx => by rw [← AT_a hA (hT x hx) (B := B)]; exact h2 x hx, fun x hx y hy => (h3 x hx y hy).mono (fun a b => (st a b).mp) fun _ h => h⟩
  · rintro ⟨_, h2, h3⟩
    exact ⟨fun x hx => by have := hT x hx; unfold InR at *; omega, fun x hx => by rw [AT_a hA (hT x hx)]; exact h2 x hx, fun x hx y hy => (h3 x hx y hy).mono (fun a b => (st a b).mpr) fun _ h => h⟩
theorem ct_b (hA : A.length = nA) (hB : B.length = nB) {T : List Int} (hT : ∀ x ∈ T, InR nB x) : CT (nA + nB) (sbs A B) (up (nA : Int) T) ↔ CT nB B T := by
  have st : ∀ x y, stT (sbs A B) (up (nA : Int) T) (x + (nA : Int)) (y + (nA : Int)) ↔ stT B T x y := fun x y => by
    unfold stT
    constructor
    · rintro ⟨hx, k, hk, q, hq, e⟩
      have hx := up_mem.mp hx
      rw [AT_b hA hB (hT x hx)] at hk
      rw [eoc_b hA hB (hT x hx)] at hq
      obtain ⟨z, hz, rfl⟩ := List.mem_map.mp hq
      exact ⟨hx, k, hk, z, hz, by dsimp only at e; omega⟩
    · rintro ⟨hx, k, hk, q, hq, e⟩
      exact ⟨up_mem.mpr hx, k, by rw [AT_b hA hB (hT x hx)]; exact hk, (q.1 + (nA : Int), q.2), by rw [eoc_b hA hB (hT x hx)]; exact List.mem_map.mpr ⟨q, hq, rfl⟩, by dsimp only; rw [e]⟩
  constructor
  · rintro ⟨_, h2, h3⟩
    refine ⟨hT, fun x hx => by rw [← AT_b hA hB (hT x hx)]; exact h2 _ (up_mem.mpr hx), fun x hx y hy => ?_⟩
    have r := rch_map (f := fun w => w + -(nA : Int)) (st' := stT B T) (fun a b hab => (st _ _).mp (by
      rw [show a + -(nA : Int) + (nA : Int) = a by omega, show b + -(nA : Int) + (nA : Int) = b by omega]
      exact hab)) (h3 _ (up_mem.mpr hx) _ (up_mem.mpr hy))
    rwa [show x + (nA : Int) + -(nA : Int) = x by omega, show y + (nA : Int) + -(nA : Int) = y by omega] at r
  · rintro ⟨_, h2, h3⟩
    refine ⟨fun x hx => ?_, fun x hx => ?_, fun x hx y hy => ?_⟩
    · obtain ⟨z, hz, rfl⟩ := List.mem_map.mp hx
      have := hT z hz
      unfold InR at *
      omega
    · obtain ⟨z, hz, rfl⟩ := List.mem_map.mp hx
      rw [AT_b hA hB (hT z hz)]
      exact h2 z hz
    · obtain ⟨u, hu, rfl⟩ := List.mem_map.mp hx
      obtain ⟨z, hz, rfl⟩ := List.mem_map.mp hy
      exact rch_map (f := fun w => w + (nA : Int)) (fun a b hab => (st a b).mpr hab) (h3 u hu z hz)
theorem ct_split (sA : OKS nA A) (sB : OKS nB B) {T : List Int} (h : CT (nA + nB) (sbs A B) T) {x0 : Int} (h0 : x0 ∈ T) : (InR nA x0 → ∀ y ∈ T, InR nA y) ∧ (¬ InR nA x0 → ∀ y ∈ T, (nA : Int) ≤ y ∧ y < ((nA + nB : Nat) : Int)) := by
  refine ⟨fun hx y hy => ?_, fun hx y hy => ?_⟩
  · refine rch_stay (S := InR nA) (fun a b ha hab => ?_) (h.2.2 x0 h0 y hy) hx
    obtain ⟨haT, k, hk, q, hq, e⟩ := hab
    rw [AT_a sA.1 ha] at hk
    rw [eoc_a sA.1 ha] at hq
    obtain ⟨c, c1, _, c2⟩ := AT_get hk
    rw [← e]
    exact ends_r sA ha c1 (by rw [c2]; exact hq)
  · have hx0 := h.1 x0 h0
    refine rch_stay (S := fun w => (nA : Int) ≤ w ∧ w < ((nA + nB : Nat) : Int)) (fun a b ha hab => ?_) (h.2.2 x0 h0 y hy) (by unfold InR at *; omega)
    obtain ⟨haT, k, hk, q, hq, e⟩ := hab
    have hin : InR nB (a - (nA : Int)) := by unfold InR; omega
    have ea : a = (a - (nA : Int)) + (nA : Int) := by omega
    rw [ea, eoc_b sA.1 sB.1 hin] at hq
    obtain ⟨z, hz, e2⟩ := List.mem_map.mp hq
    obtain ⟨⟨k0, k1⟩, _⟩ := AT_mem.mp hk
    rw [ea, chs_b sA.1 sB.1 hin] at k1
    have k1 : k < ((chs' B (a - (nA : Int))).length : Int) := by unfold shC at k1; rwa [List.length_map] at k1
    obtain ⟨c, c1, c2⟩ := eoc_c k0 k1
    have r := ends_r sB hin c1 (q := z) (by rw [c2]; exact hz)
    have r1 := r.1
    have r2 := r.2
    rw [← e, ← e2]
    dsimp only
    omega
theorem mx_iff (sA : OKS nA A) (sB : OKS nB B) (T : List Int) : Mx (nA + nB) (sbs A B) T ↔ Mx nA A T ∨ ∃ S, Mx nB B S ∧ T = up (nA : Int) S := by
  have lowd : ∀ S : List Int, (∀ y ∈ S, (nA : Int) ≤ y ∧ y < ((nA + nB : Nat) : Int)) → ∀ y ∈ up (-(nA : Int)) S, InR nB y := fun S hS y hy => by
    obtain ⟨z, hz, rfl⟩ := List.mem_map.mp hy
    have := hS z hz
    unfold InR
    omega
  constructor
  · intro h
    obtain ⟨x0, h0⟩ := List.exists_mem_of_ne_nil _ h.ne
    obtain ⟨s1, s2⟩ := ct_split sA sB h.ct h0
    by_cases hx : InR nA x0
    · have hT := s1 hx
      refine .inl ⟨h.asc, h.ne, (ct_a sA.1 hT _ (Nat.le_add_right _ _)).mp h.ct, fun T' a1 a2 a3 => h.mx T' a1 ((ct_a sA.1 a2.1 _ (Nat.le_add_right _ _)).mpr a2) a3⟩
    · have hT := lowd T (s2 hx)
      have e : T = up (nA : Int) (up (-(nA : Int)) T) := (up_down _ _).symm
      refine .inr ⟨up (-(nA : Int)) T, ⟨up_asc h.asc, fun z => h.ne (List.map_eq_nil_iff.mp z), (ct_b sA.1 sB.1 hT).mp (by rw [← e]; exact h.ct), fun T' a1 a2 a3 => ?_⟩, e⟩
      have := h.mx (up (nA : Int) T') (up_asc a1) ((ct_b sA.1 sB.1 a2.1).mpr a2) fun x hx => by
        have := a3 (x + -(nA : Int)) (up_mem.mpr hx)
        have := up_mem (d := (nA : Int)).mpr this
        rwa [show x + -(nA : Int) + (nA : Int) = x by omega] at this
      rw [up_len] at this
      rw [up_len]
      exact this
  · rintro (h | ⟨S, h, rfl⟩)
    · refine ⟨h.asc, h.ne, (ct_a sA.1 h.ct.1 _ (Nat.le_add_right _ _)).mpr h.ct, fun T' a1 a2 a3 => ?_⟩
      obtain ⟨x0, h0⟩ := List.exists_mem_of_ne_nil _ h.ne
      have hT' := (ct_split sA sB a2 (a3 x0 h0)).1 (h.ct.1 x0 h0)
      exact h.mx T' a1 ((ct_a sA.1 hT' _ (Nat.le_add_right _ _)).mp a2) a3
    · refine ⟨up_asc h.asc, fun z => h.ne (List.map_eq_nil_iff.mp z), (ct_b sA.1 sB.1 h.ct.1).mpr h.ct, fun T' a1 a2 a3 => ?_⟩
      obtain ⟨x0, h0⟩ := List.exists_mem_of_ne_nil _ h.ne
      have h0' := h.ct.1 x0 h0
      have hT' := lowd T' ((ct_split sA sB a2 (a3 _ (up_mem.mpr h0))).2 (by unfold InR at *; omega))
      have e : T' = up (nA : Int) (up (-(nA : Int)) T') := (up_down _ _).symm
      have := h.mx (up (-(nA : Int)) T') (up_asc a1) ((ct_b sA.1 sB.1 hT').mp (by rw [← e]; exact a2)) fun x hx => by
        have := a3 _ (up_mem (d := (nA : Int)).mpr hx)
        have := up_mem (d := -(nA : Int)).mpr this
        rwa [show x + (nA : Int) + -(nA : Int) = x by omega] at this
      rw [up_len] at this
      rw [up_len]
      exact this
theorem part_a (hA : A.length = nA) {T : List Int} (hT : ∀ x ∈ T, InR nA x) : partOf (sbs A B) T = partOf A T := by
  unfold partOf
  exact List.map_congr_left fun x hx => by rw [AT_a hA (hT x hx)]
theorem part_b (hA : A.length = nA) (hB : B.length = nB) {T : List Int} (hT : ∀ x ∈ T, InR nB x) : partOf (sbs A B) (up (nA : Int) T) = shP (nA : Int) (partOf B T) := by
  unfold partOf shP
  show (T.map fun x => x + (nA : Int)).map _ = (T.map _).map _
  rw [List.map_map, List.map_map]
  refine List.map_congr_left fun x hx => ?_
  show (x + (nA : Int), AT (sbs A B) (up (nA : Int) T) (x + (nA : Int))) = (x + (nA : Int), AT B T x)
  rw [AT_b hA hB (hT x hx)]
theorem hd_part {sys : TSy} {T : List Int} (h : T ≠ []) : hdP (partOf sys T) ∈ T := by
  cases T with
  | nil => exact absurd rfl h
  | cons x T => exact List.mem_cons_self
theorem hd_sh {d : Int} {p : PT'} (h : p ≠ []) : hdP (shP d p) = hdP p + d := by
  cases p with
  | nil => exact absurd rfl h
  | cons x p => rfl
theorem parts_app (sA : OKS nA A) (sB : OKS nB B) {ps qs : List PT'} (h : IsParts nA A ps) (k : IsParts nB B qs) : IsParts (nA + nB) (sbs A B) (ps ++ qs.map (shP (nA : Int))) := by
  refine ⟨fun p => ?_, List.pairwise_append.mpr ⟨h.srt, List.pairwise_map.mpr (k.srt.imp_of_mem fun {a b} ha hb hab => ?_), fun a ha b hb => ?_⟩⟩
  · rw [List.mem_append, List.mem_map]
    constructor
    · rintro (hp | ⟨q, hq, rfl⟩)
      · obtain ⟨T, hT, rfl⟩ := (h.mem p).mp hp
        exact ⟨T, (mx_iff sA sB T).mpr (.inl hT), (part_a sA.1 hT.ct.1).symm⟩
      · obtain ⟨T, hT, rfl⟩ := (k.mem q).mp hq
        exact ⟨_, (mx_iff sA sB _).mpr (.inr ⟨T, hT, rfl⟩), (part_b sA.1 sB.1 hT.ct.1).symm⟩
    · rintro ⟨T, hT, rfl⟩
      rcases (mx_iff sA sB T).mp hT with g | ⟨S, g, rfl⟩
      · exact .inl ((h.mem _).mpr ⟨T, g, part_a sA.1 g.ct.1⟩)
      · exact .inr ⟨partOf B S, (k.mem _).mpr ⟨S, g, rfl⟩, (part_b sA.1 sB.1 g.ct.1).symm⟩
  · rw [hd_sh (parts_ne k a ha), hd_sh (parts_ne k b hb)]
    omega
  · obtain ⟨q, hq, rfl⟩ := List.mem_map.mp hb
    rw [hd_sh (parts_ne k q hq)]
    obtain ⟨T, hT, rfl⟩ := (h.mem a).mp ha
    obtain ⟨S, hS, rfl⟩ := (k.mem q).mp hq
    have h1 := (hT.ct.1 _ (hd_part (sys := A) hT.ne)).2
    have h2 := (hS.ct.1 _ (hd_part (sys := B) hS.ne)).1
    omega
end
theorem parts_nil : IsParts 0 [] [] := ⟨fun p => ⟨(fun h => by cases h), fun ⟨T, hT, _⟩ => by
  obtain ⟨x, hx⟩ := List.exists_mem_of_ne_nil _ hT.ne
  have := hT.ct.1 x hx
  unfold InR at this
  omega⟩, .nil⟩
end L3

namespace L3
open PySem L2
/-! ### the law -/
structure GS (n : Nat) (sys : TSy) : Prop where
  sml : Sml n sys
  onc : Onc sys
  ne : ∀ cs ∈ sys, cs ≠ []
theorem gs_vs {n : Nat} {sys : TSy} (h : VS 3 sys) (hl : sys.length = n) (hn : n ≤ 20) : GS n sys := by
  have hc : ∀ cs ∈ sys, VCS n 3 cs := fun cs hcs => by have := h.2 cs hcs; rwa [hl] at this
  refine ⟨⟨⟨hl, by omega, fun cs hcs => ⟨by have := (hc cs hcs).2.1; omega, fun c hc' => ?_⟩⟩, hn, fun cs hcs => ⟨by have := (hc cs hcs).2.1; omega, fun c hc' => ?_⟩⟩, fun cs hcs c hc' => ?_, fun cs hcs e => ?_⟩
  · obtain ⟨_, _, e1, e2, e3, e4⟩ := (hc cs hcs).2.2 c hc'
    exact ⟨by omega, fun q hq => ⟨(e3 q hq).1, (e3 q hq).2.1⟩⟩
  · obtain ⟨_, _, e1, e2, e3, e4⟩ := (hc cs hcs).2.2 c hc'
    omega
  · obtain ⟨_, _, e1, e2, e3, e4⟩ := (hc cs hcs).2.2 c hc'
    exact List.pairwise_map.mpr (e4.imp fun {a b} h => Int.ne_of_lt h)
  · have := (hc cs hcs).1
    rw [e] at this
    exact absurd this (by simp)
/-- one state gets one choice more, to itself -/
theorem gs_more {n : Nat} {sys : TSy} (g : GS n sys) (h3 : ∀ cs ∈ sys, cs.length ≤ 3) {i : Nat} (hi : i < n) {cs0 : List (Int × List (Int × Int))} (h0 : sys[i]? = some cs0) : GS n (sys.take i ++ [cs0 ++ [((1 : Int), [((i : Int), (1 : Int))])]] ++ sys.drop (i + 1)) := by
  have hl := g.sml.1.1
  have hm := List.mem_of_getElem? h0
  have sub : ∀ cs, cs ∈ sys.take i ++ [cs0 ++ [((1 : Int), [((i : Int), (1 : Int))])]] ++ sys.drop (i + 1) → cs ∈ sys ∨ cs = cs0 ++ [((1 : Int), [((i : Int), (1 : Int))])] := fun cs hcs => by
    rcases List.mem_append.mp hcs with hcs | hcs
    · rcases List.mem_append.mp hcs with hcs | hcs
      · exact .inl (List.mem_of_mem_take hcs)
      · exact .inr (List.mem_singleton.mp hcs)
    · exact .inl (List.mem_of_mem_drop hcs)
  have s := g.sml
  refine ⟨⟨⟨by simp; omega, s.1.2.1, fun cs hcs => ?_⟩, s.2.1, fun cs hcs => ?_⟩, fun cs hcs c hc => ?_, fun cs hcs e => ?_⟩
  · rcases sub cs hcs with h | rfl
    · exact s.1.2.2 cs h
    · refine ⟨by have := h3 cs0 hm; simp; omega, fun c hc => ?_⟩
      rcases List.mem_append.mp hc with hc | hc
      · exact (s.1.2.2 cs0 hm).2 c hc
      · rw [List.mem_singleton.mp hc]
        refine ⟨by simp, fun q hq => ?_⟩
        rw [List.mem_singleton.mp hq]
        dsimp only
        omega
  · rcases sub cs hcs with h | rfl
    · exact s.2.2 cs h
    · refine ⟨by have := h3 cs0 hm; simp; omega, fun c hc => ?_⟩
      rcases List.mem_append.mp hc with hc | hc
      · exact (s.2.2 cs0 hm).2 c hc
      · rw [List.mem_singleton.mp hc]; simp
  · rcases sub cs hcs with h | rfl
    · exact g.onc cs h c hc
    · rcases List.mem_append.mp hc with hc | hc
      · exact g.onc cs0 hm c hc
      · rw [List.mem_singleton.mp hc]; simp
  · rcases sub cs hcs with h | h
    · exact g.ne cs h e
    · rw [e] at h
      have := congrArg List.length h
      simp at this
theorem gs_nil : GS 0 [] := ⟨⟨⟨rfl, by decide, fun cs h => by cases h⟩, by decide, fun cs h => by cases h⟩, (fun cs h => by cases h), fun cs h => by cases h⟩
theorem gs_app {a b : Nat} {A B : TSy} (g : GS a A) (k : GS b B) (h : a + b ≤ 20) : GS (a + b) (sbs A B) := by
  have hA := g.sml.1.1
  have hB := k.sml.1.1
  have sub : ∀ cs, cs ∈ sbs A B → cs ∈ A ∨ ∃ ds ∈ B, cs = shC (A.length : Int) ds := fun cs hcs => by
    rcases List.mem_append.mp hcs with h | h
    · exact .inl h
    · obtain ⟨ds, h1, h2⟩ := List.mem_map.mp h
      exact .inr ⟨ds, h1, h2.symm⟩
  refine ⟨⟨⟨by unfold sbs; rw [List.length_append, List.length_map, hA, hB], by omega, fun cs hcs => ?_⟩, h, fun cs hcs => ?_⟩, fun cs hcs c hc => ?_, fun cs hcs e => ?_⟩
  · rcases sub cs hcs with h' | ⟨ds, h', rfl⟩
    · obtain ⟨h1, h2⟩ := g.sml.1.2.2 cs h'
      exact ⟨h1, fun c hc => ⟨(h2 c hc).1, fun q hq => by have := (h2 c hc).2 q hq; omega⟩⟩
    · obtain ⟨h1, h2⟩ := k.sml.1.2.2 ds h'
      unfold shC
      refine ⟨by rw [List.length_map]; exact h1, fun c hc => ?_⟩
      obtain ⟨d, hd, rfl⟩ := List.mem_map.mp hc
      refine ⟨by dsimp only; rw [List.length_map]; exact (h2 d hd).1, fun q hq => ?_⟩
      obtain ⟨z, hz, rfl⟩ := List.mem_map.mp hq
      have := (h2 d hd).2 z hz
      dsimp only
      omega
  · rcases sub cs hcs with h' | ⟨ds, h', rfl⟩
    · exact g.sml.2.2 cs h'
    · obtain ⟨h1, h2⟩ := k.sml.2.2 ds h'
      unfold shC
      refine ⟨by rw [List.length_map]; exact h1, fun c hc => ?_⟩
      obtain ⟨d, hd, rfl⟩ := List.mem_map.mp hc
      dsimp only
      rw [List.length_map]
      exact h2 d hd
  · rcases sub cs hcs with h' | ⟨ds, h', rfl⟩
    · exact g.onc cs h' c hc
    · unfold shC at hc
      obtain ⟨d, hd, rfl⟩ := List.mem_map.mp hc
      dsimp only
      rw [List.map_map]
      have := k.onc ds h' d hd
      have e : (d.2.map ((fun q : Int × Int => q.1) ∘ fun e => (e.1 + (A.length : Int), e.2))) = (d.2.map (·.1)).map fun x => x + (A.length : Int) := by rw [List.map_map]; rfl
      rw [e]
      exact List.pairwise_map.mpr (this.imp fun {x y} hxy e => hxy (by omega))
  · rcases sub cs hcs with h' | ⟨ds, h', h2⟩
    · exact g.ne cs h' e
    · rw [e] at h2
      exact k.ne ds h' (List.map_eq_nil_iff.mp h2.symm)
theorem parts_len {n : Nat} {sys : TSy} {ps : List PT'} (hs : Sml n sys) (h : IsParts n sys ps) : ps.length ≤ 20 ∧ ∀ p ∈ ps, p.length ≤ 20 ∧ ∀ x ∈ p, x.2.length ≤ 10 := by
  refine ⟨?_, fun p hp => ?_⟩
  · have := nodup_le (many := n) (l := ps.map hdP) (lt_nodup (List.pairwise_map.mpr h.srt)) fun x hx => by
      obtain ⟨p, hp, rfl⟩ := List.mem_map.mp hx
      obtain ⟨T, hT, rfl⟩ := (h.mem p).mp hp
      exact hT.ct.1 _ (hd_part hT.ne)
    rw [List.length_map] at this
    exact Nat.le_trans this hs.2.1
  · obtain ⟨T, hT, rfl⟩ := (h.mem p).mp hp
    unfold partOf
    refine ⟨by rw [List.length_map]; exact Nat.le_trans (nodup_le (lt_nodup hT.asc) hT.ct.1) hs.2.1, fun x hx => ?_⟩
    obtain ⟨y, hy, rfl⟩ := List.mem_map.mp hx
    have h1 := nodup_le (many := (chs' sys y).length) (lt_nodup (AT_lt sys T y)) fun k hk => (AT_mem.mp hk).1
    exact Nat.le_trans h1 (hs.2.2 _ (chs_ix hs.1 (hT.ct.1 y hy)).2).1
theorem parts_eq {n : Nat} {sys : TSy} {ps : List PT'} (hs : Sml n sys) (h : IsParts n sys ps) : m_l_equal 8 (dLst (dLst (dT2 PyData.int (dTup PyData.int))) ps) (dLst (dLst (dT2 PyData.int (dTup PyData.int))) ps) = some true := by
  obtain ⟨h1, h2⟩ := parts_len hs h
  exact eq_self (okD_lst (n := 7) (by omega) fun p hp => okD_lst (n := 6) (by have := (h2 p hp).1; omega) fun x hx => okD_T2 (n := 5) trivial (okD_tup (n := 3) _ (by have := (h2 p hp).2 x hx; omega)))
theorem parts_unique {n : Nat} {sys : TSy} {ps qs : List PT'} (h : IsParts n sys ps) (k : IsParts n sys qs) : ps = qs := by
  have np : ps.Nodup := h.srt.imp fun {a b} hab e => by rw [e] at hab; exact absurd hab (Int.lt_irrefl _)
  exact (sort_parts h np fun p => Iff.rfl).symm.trans (sort_parts k np fun p => (h.mem p).trans (k.mem p).symm)
theorem cut_to {α : Type} {xs : List α} {k : Nat} : cutL xs none (some (k : Int)) = xs.take k := by
  unfold cutL
  rw [HT.sIx_none, HT.sIx_nat, List.drop_zero, Nat.sub_zero]
  rcases Nat.le_total k xs.length with h | h
  · rw [Nat.min_eq_left h]
  · rw [Nat.min_eq_right h, List.take_of_length_le (Nat.le_refl _), List.take_of_length_le h]
theorem cut_from {α : Type} {xs : List α} {k : Nat} : cutL xs (some (k : Int)) none = xs.drop k := by
  unfold cutL
  rw [HT.sIx_none, HT.sIx_nat]
  rcases Nat.le_total k xs.length with h | h
  · rw [Nat.min_eq_left h, List.take_of_length_le (by rw [List.length_drop]; exact Nat.le_refl _)]
  · rw [Nat.min_eq_right h, Nat.sub_self, List.take_zero, List.drop_eq_nil_of_le h]
theorem both_ok {n : Nat} {sys : TSy} (g : GS n sys) (h5 : n ≤ 5) : ∃ ps, m_closed_parts sys = some ps ∧ m_l_due sys = some ps ∧ IsParts n sys ps := by
  obtain ⟨ps, h1, h2⟩ := closed_ok g.sml g.ne
  exact ⟨ps, h1, due_ok g.sml g.onc h5 h2, h2⟩
theorem law_true (ns : List Int) (h : ns.length ≤ 63) : m_law ns = some true := by
  suffices hh : Yes (m_law ns) fun r => r = true by
    obtain ⟨r, h1, h2⟩ := hh
    rw [h1, h2]
  unfold m_law
  refine y_bind (tape_ok h) fun tp htp => ?_
  refine y_bind (Q := fun o => ∃ s : Option TSy × (List Int × Int), o = .inl s ∧ s.1.isSome = true ∧ StOk s.2 1000000) ?_ fun o ⟨s, e, hsome, hst⟩ => ?_
  · refine y_loopR _ (fun i s => (0 < i → s.1.isSome = true) ∧ StOk s.2 (10000 * i)) _ ⟨fun h => absurd h (Nat.lt_irrefl _), htp, Int.le_refl _, by simp⟩ ?_ fun s hs => ⟨s, rfl, hs.1 (by rw [rng_len]; decide), hs.2.le (by rw [rng_len]; decide)⟩
    rintro i x ⟨so, st⟩ hx ⟨_, hst⟩
    obtain ⟨d1, d2⟩ := rng_at hx
    dsimp only at hst ⊢
    refine y_bind (system_ok hst (by omega) (by decide) (by decide)) fun t37 ⟨⟨hv, hl⟩, hst1⟩ => ?_
    have hlen : t37.1.length ≤ 5 := by omega
    have hl1 := hv.1
    refine y_bind (take_ok hst1 (by omega) (by decide)) fun t42 ⟨_, hst2⟩ => ?_
    have g0 := gs_vs hv rfl (by omega : t37.1.length ≤ 20)
    refine y_bind (Q := fun s45 => GS t37.1.length s45.1 ∧ StOk s45.2 (10000 * (i : Int) + 9000)) ?_ fun s45 ⟨g, hst3⟩ => ?_
    · refine y_if (fun c => ?_) fun c => y_some ⟨g0, hst2.le (by omega)⟩
      refine y_bind (take_ok hst2 (by omega) (by omega)) fun t48 ⟨⟨h0, h1⟩, hst4⟩ => ?_
      obtain ⟨k, hk⟩ := Int.eq_ofNat_of_zero_le h0
      have hk1 : k < t37.1.length := by omega
      have hc3 := (hv.2 _ (List.getElem_mem hk1)).2.1
      refine y_eq (ixL_s (List.getElem?_eq_getElem hk1) hk) (y_eq (catE (by simp; omega)) (y_eq (catE ?_) (y_eq (catE ?_) (y_some ⟨?_, hst4.le (by omega)⟩))))
      · rw [hk, cut_to]
        have := List.length_take_le k t37.1
        simp
        omega
      · rw [hk, cut_to, show ((k : Int) + 1) = ((k + 1 : Nat) : Int) from rfl, cut_from]
        simp
        omega
      · dsimp only
        rw [hk, cut_to, show ((k : Int) + 1) = ((k + 1 : Nat) : Int) from rfl, cut_from]
        exact gs_more g0 (fun cs hcs => (hv.2 cs hcs).2.1) hk1 (List.getElem?_eq_getElem hk1)
    · obtain ⟨ps, p1, p2, p3⟩ := both_ok g hlen
      refine y_eq p1 (y_eq p2 (y_eq (parts_eq g.sml p3) (y_n rfl (y_some ⟨fun _ => rfl, hst3.le (by omega)⟩))))
  · subst e
    dsimp only
    obtain ⟨so, st⟩ := s
    cases so with
    | none => cases hsome
    | some a89 =>
      refine y_eq rfl ?_
      dsimp only at hst
      refine y_bind (take_ok hst (by decide) (by decide)) fun t93 ⟨_, hst1⟩ => ?_
      refine y_if (fun c => y_some rfl) fun c => ?_
      refine y_bind (Q := fun s => ∃ n, GS n s.2.1 ∧ IsParts n s.2.1 s.1) ?_ fun s ⟨n, g, hp⟩ => ?_
      · refine (y_foldI _ (fun i s => ∃ n, n ≤ 4 * i ∧ GS n s.2.1 ∧ IsParts n s.2.1 s.1 ∧ StOk s.2.2 (2000000 + 10000 * i)) ⟨0, by omega, gs_nil, parts_nil, hst1.le (by omega)⟩ ?_).mono fun s ⟨n, _, h2, h3, _⟩ => ⟨n, h2, h3⟩
        rintro i x ⟨due, sys, st⟩ hx ⟨n, hn, g, hp, hst⟩
        obtain ⟨d1, d2⟩ := rng_at hx
        dsimp only at g hp hst ⊢
        have hi : i < 5 := by omega
        have hsl := g.sml.1.1
        refine y_bind (system_ok hst (by omega) (by decide) (by decide)) fun t134 ⟨⟨hv, hl⟩, hst1⟩ => ?_
        have hlen : t134.1.length ≤ 4 := by omega
        have gB := gs_vs hv rfl (by omega : t134.1.length ≤ 20)
        obtain ⟨qs, _, q2, q3⟩ := both_ok gB (by omega)
        obtain ⟨ql1, ql2⟩ := parts_len gB.sml q3
        obtain ⟨pl1, _⟩ := parts_len g.sml hp
        refine y_eq q2 (y_eq (room_s (by omega)) (y_eq (a := (qs.map (shP (n : Int)), ())) (compM_map fun p hp' => ?_) (y_eq (catE (by simp; omega)) ?_)))
        · rw [hsl]
          exact bnd (room_s (by have := (ql2 p hp').1; omega)) (bnd (compM_map fun x _ => rfl) rfl)
        · have hsB := gB.sml
          refine y_eq (a := sbs sys t134.1) ?_ (y_some ⟨n + t134.1.length, by omega, gs_app g gB (by omega), ?_, hst1.le (by omega)⟩)
          · unfold sbs
            have ft : t134.1.filter (fun _ => true) = t134.1 := List.filter_eq_self.mpr fun _ _ => rfl
            have := fold_fm (p := fun _ => true) (g := shC (sys.length : Int)) (xs := t134.1) (acc := sys) (f := fun s209 x210 => Option.bind (foldO (S := List (Int × List (Int × Int))) (α := Int × List (Int × Int)) (fun s236 x237 => Option.bind (room x237.2.length) fun _ => Option.bind (compM (S := Unit) (β := Int × Int) (fun _ x268 => some (some (x268.1 + (sys.length : Int), x268.2), ())) () x237.2) fun t287 => Option.bind (room s236.length) fun _ => some (s236 ++ [(x237.1, t287.1)])) [] x210) fun s292 => Option.bind (catT s209 [s292]) fun t300 => some t300) (fun cs hcs s hs' => ?_) (by omega)
            · rw [ft] at this
              exact this
            · have hcs' := hsB.2.2 cs hcs
              rw [if_pos rfl]
              refine bnd (a := shC (sys.length : Int) cs) ?_ (bnd (catE (by simp; omega)) rfl)
              have fc : cs.filter (fun _ => true) = cs := List.filter_eq_self.mpr fun _ _ => rfl
              have := fold_fm (p := fun _ => true) (g := fun c : Int × List (Int × Int) => (c.1, c.2.map fun e => (e.1 + (sys.length : Int), e.2))) (xs := cs) (acc := []) (f := fun s236 x237 => Option.bind (room x237.2.length) fun _ => Option.bind (compM (S := Unit) (β := Int × Int) (fun _ x268 => some (some (x268.1 + (sys.length : Int), x268.2), ())) () x237.2) fun t287 => Option.bind (room s236.length) fun _ => some (s236 ++ [(x237.1, t287.1)])) (fun c hc s2 hs2 => ?_) (by rw [List.length_nil]; omega)
              · rw [fc, List.nil_append] at this
                exact this
              · rw [if_pos rfl]
                exact bnd (room_s (by have := hcs'.2 c hc; omega)) (bnd (compM_map fun e _ => rfl) (bnd (room_s (by omega)) rfl))
          · have := parts_app g.sml.1 gB.sml.1 hp q3
            exact this
      · obtain ⟨ps, p1, p2⟩ := closed_ok g.sml g.ne
        have e := parts_unique p2 hp
        subst e
        exact y_eq p1 (y_eq (parts_eq g.sml p2) (y_some rfl))
end L3

namespace L3
open PySem PySem.Spec PyProof.Rows L2
/-! ### the end -/
namespace End
theorem facts {w : World} {K : PySem.W.Frag} {h : Heap} {mg : Str → Option Value} {f : Addr} (X : K.In h) (G : h.Ns mainGlobals mg) (hfa : mg ("law" : Str) = some (.ref f)) (c : He.SaysX fa fn ts tfa ex w h K) (hm : ∀ ns : List Int, ns.length ≤ 63 → m_law ns = some true) :
    LamX.LawAtS PySem.Challenge.rw_bestodds_k09_closed_parts w K CX0 9 63 "_law_script" mg f h := by
  obtain ⟨fd0, D0⟩ := c.t.d.def_ 0 (d := d_reached_from) rfl
  have n0 : mg "reached_from" = some (.ref (He.fAd K ("reached_from", none))) := He.glo_ok X G (c.t.d.fact 0 (f := .glo "reached_from") rfl)
  have F0 : FunC K "reached_from" s_reached_from (He.fAd K ("reached_from", none)) fd0 (He.codeOf K ("reached_from", none)) := funC_of D0
  obtain ⟨fd1, D1⟩ := c.t.d.def_ 1 (d := d_edges_of) rfl
  have n1 : mg "edges_of" = some (.ref (He.fAd K ("edges_of", none))) := He.glo_ok X G (c.t.d.fact 1 (f := .glo "edges_of") rfl)
  have F1 : FunC K "edges_of" s_edges_of (He.fAd K ("edges_of", none)) fd1 (He.codeOf K ("edges_of", none)) := funC_of D1
  obtain ⟨fd2, D2⟩ := c.t.d.def_ 2 (d := d__law_tape) rfl
  have n2 : mg "_law_tape" = some (.ref (He.fAd K ("_law_tape", none))) := He.glo_ok X G (c.t.d.fact 2 (f := .glo "_law_tape") rfl)
  have F2 : FunC K "_law_tape" s__law_tape (He.fAd K ("_law_tape", none)) fd2 (He.codeOf K ("_law_tape", none)) := funC_of D2
  obtain ⟨fd3, D3⟩ := c.t.d.def_ 3 (d := d__law_draw) rfl
  have n3 : mg "_law_draw" = some (.ref (He.fAd K ("_law_draw", none))) := He.glo_ok X G (c.t.d.fact 3 (f := .glo "_law_draw") rfl)
  have F3 : FunC K "_law_draw" s__law_draw (He.fAd K ("_law_draw", none)) fd3 (He.codeOf K ("_law_draw", none)) := funC_of D3
  obtain ⟨fd4, D4⟩ := c.t.d.def_ 4 (d := d__law_part) rfl
  have n4 : mg "_law_part" = some (.ref (He.fAd K ("_law_part", none))) := He.glo_ok X G (c.t.d.fact 4 (f := .glo "_law_part") rfl)
  have F4 : FunC K "_law_part" s__law_part (He.fAd K ("_law_part", none)) fd4 (He.codeOf K ("_law_part", none)) := funC_of D4
  obtain ⟨fd5, D5⟩ := c.t.d.def_ 5 (d := d__law_connected) rfl
  have n5 : mg "_law_connected" = some (.ref (He.fAd K ("_law_connected", none))) := He.glo_ok X G (c.t.d.fact 5 (f := .glo "_law_connected") rfl)
  have F5 : FunC K "_law_connected" s__law_connected (He.fAd K ("_law_connected", none)) fd5 (He.codeOf K ("_law_connected", none)) := funC_of D5
  obtain ⟨fd6, D6⟩ := c.t.d.def_ 6 (d := d_components) rfl
  have n6 : mg "components" = some (.ref (He.fAd K ("components", none))) := He.glo_ok X G (c.t.d.fact 6 (f := .glo "components") rfl)
  have F6 : FunC K "components" s_components (He.fAd K ("components", none)) fd6 (He.codeOf K ("components", none)) := funC_of D6
  obtain ⟨fd7, D7⟩ := c.t.d.def_ 7 (d := d_pruned) rfl
  have n7 : mg "pruned" = some (.ref (He.fAd K ("pruned", none))) := He.glo_ok X G (c.t.d.fact 7 (f := .glo "pruned") rfl)
  have F7 : FunC K "pruned" s_pruned (He.fAd K ("pruned", none)) fd7 (He.codeOf K ("pruned", none)) := funC_of D7
  obtain ⟨fd8, D8⟩ := c.t.d.def_ 8 (d := d_without_exits) rfl
  have n8 : mg "without_exits" = some (.ref (He.fAd K ("without_exits", none))) := He.glo_ok X G (c.t.d.fact 8 (f := .glo "without_exits") rfl)
  have F8 : FunC K "without_exits" s_without_exits (He.fAd K ("without_exits", none)) fd8 (He.codeOf K ("without_exits", none)) := funC_of D8
  obtain ⟨fd9, D9⟩ := c.t.d.def_ 9 (d := d__law_take) rfl
  have n9 : mg "_law_take" = some (.ref (He.fAd K ("_law_take", none))) := He.glo_ok X G (c.t.d.fact 9 (f := .glo "_law_take") rfl)
  have F9 : FunC K "_law_take" s__law_take (He.fAd K ("_law_take", none)) fd9 (He.codeOf K ("_law_take", none)) := funC_of D9
  obtain ⟨fd10, D10⟩ := c.t.d.def_ 10 (d := d__law_due) rfl
  have n10 : mg "_law_due" = some (.ref (He.fAd K ("_law_due", none))) := He.glo_ok X G (c.t.d.fact 10 (f := .glo "_law_due") rfl)
  have F10 : FunC K "_law_due" s__law_due (He.fAd K ("_law_due", none)) fd10 (He.codeOf K ("_law_due", none)) := funC_of D10
  obtain ⟨fd11, D11⟩ := c.t.d.def_ 11 (d := d_closed_parts) rfl
  have n11 : mg "closed_parts" = some (.ref (He.fAd K ("closed_parts", none))) := He.glo_ok X G (c.t.d.fact 11 (f := .glo "closed_parts") rfl)
  have F11 : FunC K "closed_parts" s_closed_parts (He.fAd K ("closed_parts", none)) fd11 (He.codeOf K ("closed_parts", none)) := funC_of D11
  obtain ⟨fd12, D12⟩ := c.t.d.def_ 12 (d := d__law_ends) rfl
  have n12 : mg "_law_ends" = some (.ref (He.fAd K ("_law_ends", none))) := He.glo_ok X G (c.t.d.fact 12 (f := .glo "_law_ends") rfl)
  have F12 : FunC K "_law_ends" s__law_ends (He.fAd K ("_law_ends", none)) fd12 (He.codeOf K ("_law_ends", none)) := funC_of D12
  obtain ⟨fd13, D13⟩ := c.t.d.def_ 13 (d := d__law_some) rfl
  have n13 : mg "_law_some" = some (.ref (He.fAd K ("_law_some", none))) := He.glo_ok X G (c.t.d.fact 13 (f := .glo "_law_some") rfl)
  have F13 : FunC K "_law_some" s__law_some (He.fAd K ("_law_some", none)) fd13 (He.codeOf K ("_law_some", none)) := funC_of D13
  obtain ⟨fd14, D14⟩ := c.t.d.def_ 14 (d := d__law_choices) rfl
  have n14 : mg "_law_choices" = some (.ref (He.fAd K ("_law_choices", none))) := He.glo_ok X G (c.t.d.fact 14 (f := .glo "_law_choices") rfl)
  have F14 : FunC K "_law_choices" s__law_choices (He.fAd K ("_law_choices", none)) fd14 (He.codeOf K ("_law_choices", none)) := funC_of D14
  obtain ⟨fd15, D15⟩ := c.t.d.def_ 15 (d := d__law_system) rfl
  have n15 : mg "_law_system" = some (.ref (He.fAd K ("_law_system", none))) := He.glo_ok X G (c.t.d.fact 15 (f := .glo "_law_system") rfl)
  have F15 : FunC K "_law_system" s__law_system (He.fAd K ("_law_system", none)) fd15 (He.codeOf K ("_law_system", none)) := funC_of D15
  obtain ⟨fd16, D16⟩ := c.t.d.def_ 16 (d := d__law_equal) rfl
  have n16 : mg "_law_equal" = some (.ref (He.fAd K ("_law_equal", none))) := He.glo_ok X G (c.t.d.fact 16 (f := .glo "_law_equal") rfl)
  have F16 : FunC K "_law_equal" s__law_equal (He.fAd K ("_law_equal", none)) fd16 (He.codeOf K ("_law_equal", none)) := funC_of D16
  obtain ⟨fd17, D17⟩ := c.t.d.def_ 17 (d := d_law) rfl
  have n17 : mg "law" = some (.ref (He.fAd K ("law", none))) := He.glo_ok X G (c.t.d.fact 17 (f := .glo "law") rfl)
  have F17 : FunC K "law" s_law (He.fAd K ("law", none)) fd17 (He.codeOf K ("law", none)) := funC_of D17
  have y_len : mg "len" = none := He.free_ok X G (c.t.d.fact 18 (f := .free "len") rfl)
  have y_sorted : mg "sorted" = none := He.free_ok X G (c.t.d.fact 19 (f := .free "sorted") rfl)
  have y_set : mg "set" = none := He.free_ok X G (c.t.d.fact 20 (f := .free "set") rfl)
  have y_int : mg "int" = none := He.free_ok X G (c.t.d.fact 21 (f := .free "int") rfl)
  have y_range : mg "range" = none := He.free_ok X G (c.t.d.fact 22 (f := .free "range") rfl)
  have y_tuple : mg "tuple" = none := He.free_ok X G (c.t.d.fact 23 (f := .free "tuple") rfl)
  have y_min : mg "min" = none := He.free_ok X G (c.t.d.fact 24 (f := .free "min") rfl)
  have y_all : mg "all" = none := He.free_ok X G (c.t.d.fact 25 (f := .free "all") rfl)
  have y_list : mg "list" = none := He.free_ok X G (c.t.d.fact 26 (f := .free "list") rfl)
  have y_isinstance : mg "isinstance" = none := He.free_ok X G (c.t.d.fact 27 (f := .free "isinstance") rfl)
  have y_bool : mg "bool" = none := He.free_ok X G (c.t.d.fact 28 (f := .free "bool") rfl)
  have y_str : mg "str" = none := He.free_ok X G (c.t.d.fact 29 (f := .free "str") rfl)
  have e := hfa.symm.trans n17
  cases e
  have mem : ∀ p ∈ tfa.map (He.cT K), ∃ q ∈ tfa, He.cT K q = p := fun p hp => List.mem_map.mp hp
  refine ⟨fd17, tfa.map (He.cT K), spV K ((tf.map (He.cT K)).map (·.2)) C_law, fun p hp => ?_, fun p hp => ?_, fun p hp => ?_, fun s v => ?_, fun H a ns hl _ hH hS => ?_, fun base KB GB hTB => ?_⟩
  · obtain ⟨q, hq, rfl⟩ := mem p hp; exact c.empty q hq
  · obtain ⟨q, hq, rfl⟩ := mem p hp; exact c.out q hq
  · obtain ⟨q, hq, rfl⟩ := mem p hp; exact PySem.W.codeHd_of_K X (c.hd q hq)
  · exact F17.bindsA (ps := ["_law_script"]) (fun _ _ _ _ _ _ us hl => match us, hl with | [_], _ => rfl) s [v] rfl
  · have hT : ∀ P ∈ (tf.map (He.cT K)).map (·.2), GxR.TabG H P := fun P hP => by
      obtain ⟨p, hp, rfl⟩ := List.mem_map.mp hP
      obtain ⟨q, hq, rfl⟩ := List.mem_map.mp hp
      exact ⟨#[], hH _ (List.mem_map.mpr ⟨q, hq, rfl⟩), trivial⟩
    exact ⟨noT H _, ⟨fun _ => none, _⟩, [], [⟨rScr rInt, ns⟩], ⟨rBool, true⟩, [], rfl, Own.start K H _ hT, ⟨⟨a, _, rfl, sq_noT hT hS, paired_ints ns⟩, trivial⟩, ⟨ns, true, rfl, rfl, hm ns hl, rfl, rfl⟩, fun v _ _ _ _ h => h⟩
  · have tbs : ∀ q ∈ tf, ∃ P0, GxR.TabB base mg (He.codeOf K q) P0 ∧ P0 ∈ (tf.map (He.cT K)).map (·.2) := fun q hq => by
      have t := hTB (He.cT K q) (List.mem_map.mpr ⟨q, hq, rfl⟩)
      exact ⟨(He.cT K q).2, ⟨t.code, t.bm, t.gP⟩, List.mem_map.mpr ⟨_, List.mem_map.mpr ⟨q, hq, rfl⟩, rfl⟩⟩
    have b0 := F0.binds (ps := ["edges", "start"]) fun _ _ _ _ _ _ us hl => match us, hl with | [_, _], _ => rfl
    have C_0 : Cl PySem.Challenge.rw_bestodds_k09_closed_parts.prog w K mg base 1 "reached_from" (spV K ((tf.map (He.cT K)).map (·.2)) C_reached_from) [] := ⟨_, _, ["edges", "start"], [], ok_reached_from F0 y_len, n0, F0.kp, b0, .nil⟩
    have b1 := F1.binds (ps := ["system", "choices"]) fun _ _ _ _ _ _ us hl => match us, hl with | [_, _], _ => rfl
    have C_1 : Cl PySem.Challenge.rw_bestodds_k09_closed_parts.prog w K mg base 1 "edges_of" (spV K ((tf.map (He.cT K)).map (·.2)) C_edges_of) [] := ⟨_, _, ["system", "choices"], [], ok_edges_of F1 y_sorted y_set, n1, F1.kp, b1, .nil⟩
    have b2 := F2.binds (ps := ["_law_script"]) fun _ _ _ _ _ _ us hl => match us, hl with | [_], _ => rfl
    have C_2 : Cl PySem.Challenge.rw_bestodds_k09_closed_parts.prog w K mg base 1 "_law_tape" (spV K ((tf.map (He.cT K)).map (·.2)) C__law_tape) [] := ⟨_, _, ["_law_script"], [], ok__law_tape F2 y_int y_range, n2, F2.kp, b2, .nil⟩
    have b3 := F3.binds (ps := ["_law_tape_here", "_law_at", "_law_many"]) fun _ _ _ _ _ _ us hl => match us, hl with | [_, _, _], _ => rfl
    have C_3 : Cl PySem.Challenge.rw_bestodds_k09_closed_parts.prog w K mg base 1 "_law_draw" (spV K ((tf.map (He.cT K)).map (·.2)) C__law_draw) [] := ⟨_, _, ["_law_tape_here", "_law_at", "_law_many"], [], ok__law_draw F3 y_len y_int, n3, F3.kp, b3, .nil⟩
    have b4 := F4.binds (ps := ["_law_system_here", "_law_states"]) fun _ _ _ _ _ _ us hl => match us, hl with | [_, _], _ => rfl
    have C_4 : Cl PySem.Challenge.rw_bestodds_k09_closed_parts.prog w K mg base 1 "_law_part" (spV K ((tf.map (He.cT K)).map (·.2)) C__law_part) [] := ⟨_, _, ["_law_system_here", "_law_states"], [], ok__law_part F4 y_range y_len y_tuple, n4, F4.kp, b4, .nil⟩
    have b5 := F5.binds (ps := ["_law_system_here", "_law_part_here"]) fun _ _ _ _ _ _ us hl => match us, hl with | [_, _], _ => rfl
    have C_5 : Cl PySem.Challenge.rw_bestodds_k09_closed_parts.prog w K mg base 1 "_law_connected" (spV K ((tf.map (He.cT K)).map (·.2)) C__law_connected) [] := ⟨_, _, ["_law_system_here", "_law_part_here"], [], ok__law_connected F5 y_range y_len, n5, F5.kp, b5, .nil⟩
    have b6 := F6.binds (ps := ["edges"]) fun _ _ _ _ _ _ us hl => match us, hl with | [_], _ => rfl
    have C_6 : Cl PySem.Challenge.rw_bestodds_k09_closed_parts.prog w K mg base 2 "components" (spV K ((tf.map (He.cT K)).map (·.2)) C_components) [] := ⟨_, _, ["edges"], [], ok_components F6 C_0 y_min, n6, F6.kp, b6, .nil⟩
    have b7 := F7.binds (ps := ["system", "choices", "names"]) fun _ _ _ _ _ _ us hl => match us, hl with | [_, _, _], _ => rfl
    have C_7 : Cl PySem.Challenge.rw_bestodds_k09_closed_parts.prog w K mg base 2 "pruned" (spV K ((tf.map (He.cT K)).map (·.2)) C_pruned) [] := ⟨_, _, ["system", "choices", "names"], [], ok_pruned F7 y_all (tbs ("pruned", none) (by unfold tf; simp)), n7, F7.kp, b7, .nil⟩
    have b8 := F8.binds (ps := ["system", "choices"]) fun _ _ _ _ _ _ us hl => match us, hl with | [_, _], _ => rfl
    have C_8 : Cl PySem.Challenge.rw_bestodds_k09_closed_parts.prog w K mg base 2 "without_exits" (spV K ((tf.map (He.cT K)).map (·.2)) C_without_exits) [] := ⟨_, _, ["system", "choices"], [], ok_without_exits F8 y_all (tbs ("without_exits", none) (by unfold tf; simp)), n8, F8.kp, b8, .nil⟩
    have b9 := F9.binds (ps := ["_law_state", "_law_many"]) fun _ _ _ _ _ _ us hl => match us, hl with | [_, _], _ => rfl
    have C_9 : Cl PySem.Challenge.rw_bestodds_k09_closed_parts.prog w K mg base 2 "_law_take" (spV K ((tf.map (He.cT K)).map (·.2)) C__law_take) [] := ⟨_, _, ["_law_state", "_law_many"], [], ok__law_take F9 C_3, n9, F9.kp, b9, .nil⟩
    have b10 := F10.binds (ps := ["_law_system_here"]) fun _ _ _ _ _ _ us hl => match us, hl with | [_], _ => rfl
    have C_10 : Cl PySem.Challenge.rw_bestodds_k09_closed_parts.prog w K mg base 2 "_law_due" (spV K ((tf.map (He.cT K)).map (·.2)) C__law_due) [] := ⟨_, _, ["_law_system_here"], [], ok__law_due F10 C_4 C_5 y_range y_len y_sorted, n10, F10.kp, b10, .nil⟩
    have b11 := F11.binds (ps := ["system"]) fun _ _ _ _ _ _ us hl => match us, hl with | [_], _ => rfl
    have C_11 : Cl PySem.Challenge.rw_bestodds_k09_closed_parts.prog w K mg base 3 "closed_parts" (spV K ((tf.map (He.cT K)).map (·.2)) C_closed_parts) [] := ⟨_, _, ["system"], [], ok_closed_parts F11 C_6 C_1 C_8 C_7 y_range y_len y_list y_sorted y_set y_tuple, n11, F11.kp, b11, .nil⟩
    have b12 := F12.binds (ps := ["_law_state", "_law_many"]) fun _ _ _ _ _ _ us hl => match us, hl with | [_, _], _ => rfl
    have C_12 : Cl PySem.Challenge.rw_bestodds_k09_closed_parts.prog w K mg base 3 "_law_ends" (spV K ((tf.map (He.cT K)).map (·.2)) C__law_ends) [] := ⟨_, _, ["_law_state", "_law_many"], [], ok__law_ends F12 C_9 y_range y_tuple, n12, F12.kp, b12, .nil⟩
    have b13 := F13.binds (ps := ["_law_state", "_law_many", "_law_share"]) fun _ _ _ _ _ _ us hl => match us, hl with | [_, _, _], _ => rfl
    have C_13 : Cl PySem.Challenge.rw_bestodds_k09_closed_parts.prog w K mg base 3 "_law_some" (spV K ((tf.map (He.cT K)).map (·.2)) C__law_some) [] := ⟨_, _, ["_law_state", "_law_many", "_law_share"], [], ok__law_some F13 C_9 y_range, n13, F13.kp, b13, .nil⟩
    have b14 := F14.binds (ps := ["_law_state", "_law_many", "_law_most"]) fun _ _ _ _ _ _ us hl => match us, hl with | [_, _, _], _ => rfl
    have C_14 : Cl PySem.Challenge.rw_bestodds_k09_closed_parts.prog w K mg base 4 "_law_choices" (spV K ((tf.map (He.cT K)).map (·.2)) C__law_choices) [] := ⟨_, _, ["_law_state", "_law_many", "_law_most"], [], ok__law_choices F14 C_9 C_12 y_range y_tuple, n14, F14.kp, b14, .nil⟩
    have b15 := F15.binds (ps := ["_law_state", "_law_most"]) fun _ _ _ _ _ _ us hl => match us, hl with | [_, _], _ => rfl
    have C_15 : Cl PySem.Challenge.rw_bestodds_k09_closed_parts.prog w K mg base 5 "_law_system" (spV K ((tf.map (He.cT K)).map (·.2)) C__law_system) [] := ⟨_, _, ["_law_state", "_law_most"], [], ok__law_system F15 C_9 C_14 y_range y_tuple, n15, F15.kp, b15, .nil⟩
    have b16 := F16.binds (ps := ["_law_actual", "_law_due_here"]) fun _ _ _ _ _ _ us hl => match us, hl with | [_, _], _ => rfl
    have C_16 : Cl PySem.Challenge.rw_bestodds_k09_closed_parts.prog w K mg base 8 "_law_equal" (spV K ((tf.map (He.cT K)).map (·.2)) (C__law_equal 8)) [] := ⟨_, _, ["_law_actual", "_law_due_here"], [], all__law_equal F16 y_isinstance y_bool y_int y_str y_tuple y_list y_len y_range n16 F16.kp b16 8, n16, F16.kp, b16, .nil⟩
    exact ok_law F17 C_2 C_15 C_9 C_16 C_11 C_10 y_range y_len y_tuple
end End
end L3
open PySem PySem.W PySem.Calls PyProof.Rows
set_option maxHeartbeats 0 in
theorem PySem.Challenge.cw_bestodds_k09_closed_parts_holds : PySem.Challenge.rw_bestodds_k09_closed_parts.Holds := by
  w_on; o_law
  refine HandSHeadRun.head_any (r := OpenLaw.row PySem.Challenge.rw_bestodds_k09_closed_parts) (q := view (OpenLaw.row PySem.Challenge.rw_bestodds_k09_closed_parts).prog [19]) (H := L3.End.hk) (ob := L3.End.ob) (M := 4000) (loose := L3.End.loose) (d := HandSHeadRun.topDef (OpenLaw.row PySem.Challenge.rw_bestodds_k09_closed_parts).prog 19) (kwd := []) L3.End.ob_eq
    (by kernel_rfl) (fun s => by kernel_rfl) L3.End.run (by kernel_rfl) (by kernel_rfl) (by kernel_rfl) (by rfl) (by first | assumption | decide +kernel) (by decide +kernel) ⟨rfl, rfl, rfl, rfl, rfl, by decide +kernel⟩ ?hw ?hc
  case hw => w_witness2
  case hc =>
    refine LamX.walk_ofTsE (l := PySem.Challenge.rw_bestodds_k09_closed_parts) (n := 63) (k := 9) (x := "_law_script") (CX := fun _ => L2.CX0) rfl (by decide) (by kernel_rfl) ⟨rfl, by decide, by decide⟩ ?F (fun _ _ _ _ _ z => z)
    intro w mg fa h Y G hmg0
    obtain ⟨K, KX, c⟩ := Y
    have hmg : mg ("law" : PySem.Str) = some (.ref fa) := by
      have e : (HandSHeadRun.topDef (OpenLaw.row PySem.Challenge.rw_bestodds_k09_closed_parts).prog 19).name = ("law" : PySem.Str) := by kernel_rfl
      rw [← e]
      exact hmg0
    exact ⟨K, KX, L3.End.facts KX G hmg c L3.law_true⟩
#print axioms PySem.Challenge.cw_bestodds_k09_closed_parts_holds

