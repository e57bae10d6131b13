import PyProof.Rows.All
import Wide.All
import OpenK.AllK
import Wide.FinOn
import HandS.ForMost
import HandS.Evl
import HandS.Gcd
import HandS.Wide
import HandS.Conv
import HandS.IsInst
import HandS.Codes
import PySem.Challenge.RW_bestodds_k34_valid_sentences
import HandS.AnyAll
import HandS.Comp
import HandS.GenOver
import HandS.GenList
import HandS.HeadHook4
import HandS.HeadWalk
import HandS.Head0
import HandS.Head1
import HandS.Head2
import KE.GoesMore
import HandS.Iter
import HandS.TupAny
import HandS.TupMul
import HandS.Style
import HandS.ListItems
import HandS.SortRule
import HandS.CallLocal
import HandS.SortInts
import HandS.NoneIn
import HandS.HeadHook3
import HandS.DictComp
import HandS.Head3
import HandS.HeadEnd
import HandS.HeadHook1
import HandS.HeadHook2
set_option Elab.async false
set_option linter.all false
set_option maxRecDepth 100000
set_option maxHeartbeats 4000000
namespace L3
open PySem L2
open Evl (Ex ex_rd ex_l ex_t sq_of st_of fresh_back)

abbrev Fg := PySem.W.Frag

/-! ### how data stands in the heap -/
structure Rep (α : Type) where
  is : Fg → Hp → V → α → Prop
  mono : ∀ {K : Fg} {B B' : Hp} {v : V} {a : α}, Ex B B' → is K B v a → is K B' v a
structure CRep (α : Type) where
  is : Fg → Hp → HO → α → Prop
  mono : ∀ {K : Fg} {B B' : Hp} {o : HO} {a : α}, Ex B B' → is K B o a → is K B' o a

theorem paired_mono {α : Type} {r : Rep α} {K : Fg} {B B' : Hp} (e : Ex B B') : ∀ {xs : List V} {as : List α}, Paired (r.is K B) xs as → Paired (r.is K B') xs as
  | _, _, .nil => .nil
  | _, _, .cons h t => .cons (r.mono e h) (paired_mono e t)
theorem paired_len {α β : Type} {F : α → β → Prop} : ∀ {xs : List α} {as : List β}, Paired F xs as → xs.length = as.length
  | _, _, .nil => rfl
  | _, _, .cons _ t => congrArg (· + 1) (paired_len t)
theorem paired_get {α β : Type} {F : α → β → Prop} : ∀ {xs : List α} {as : List β} {i : Nat} {a : β}, Paired F xs as → as[i]? = some a → ∃ x, xs[i]? = some x ∧ F x a
  | _, _, _, _, .nil, e => by simp at e
  | _, _, 0, _, .cons r _, e => by simp at e; subst e; exact ⟨_, rfl, r⟩
  | _, _, i + 1, a, .cons _ t, e => by
    obtain ⟨u, h1, h2⟩ := paired_get (i := i) (a := a) t (by simpa using e)
    exact ⟨u, by simpa using h1, h2⟩
theorem paired_app {α β : Type} {F : α → β → Prop} : ∀ {xs ys : List α} {as bs : List β}, Paired F xs as → Paired F ys bs → Paired F (xs ++ ys) (as ++ bs)
  | _, _, _, _, .nil, s => s
  | _, _, _, _, .cons r t, s => .cons r (paired_app t s)
theorem paired_set {α β : Type} {F : α → β → Prop} {x : α} {a : β} (r : F x a) : ∀ {xs : List α} {as : List β} (i : Nat), Paired F xs as → Paired F (xs.set i x) (as.set i a)
  | _, _, _, .nil => .nil
  | _, _, 0, .cons _ t => .cons r t
  | _, _, i + 1, .cons q t => .cons q (paired_set r i t)
theorem paired_drop {α β : Type} {F : α → β → Prop} : ∀ {xs : List α} {as : List β} (n : Nat), Paired F xs as → Paired F (xs.drop n) (as.drop n)
  | _, _, 0, r => r
  | _, _, _ + 1, .nil => .nil
  | _, _, n + 1, .cons _ t => paired_drop n t
theorem paired_take {α β : Type} {F : α → β → Prop} : ∀ {xs : List α} {as : List β} (n : Nat), Paired F xs as → Paired F (xs.take n) (as.take n)
  | _, _, 0, _ => .nil
  | _, _, _ + 1, .nil => .nil
  | _, _, n + 1, .cons r t => .cons r (paired_take n t)
theorem paired_rev {α β : Type} {F : α → β → Prop} : ∀ {xs : List α} {as : List β}, Paired F xs as → Paired F xs.reverse as.reverse
  | _, _, .nil => .nil
  | _, _, .cons r t => by
    rw [List.reverse_cons, List.reverse_cons]
    exact paired_app (paired_rev t) (.cons r .nil)
theorem paired_map {α β γ : Type} {F : γ → β → Prop} {f : α → γ} {g : α → β} (h : ∀ a, F (f a) (g a)) : ∀ (l : List α), Paired F (l.map f) (l.map g)
  | [] => .nil
  | a :: l => .cons (h a) (paired_map h l)
theorem paired_imp {α β : Type} {F G : α → β → Prop} (h : ∀ a b, F a b → G a b) : ∀ {xs : List α} {as : List β}, Paired F xs as → Paired G xs as
  | _, _, .nil => .nil
  | _, _, .cons r t => .cons (h _ _ r) (paired_imp h t)

def rInt : Rep Int := ⟨fun _ _ v a => v = .int a, fun _ h => h⟩
def rBool : Rep Bool := ⟨fun _ _ v a => v = .bl a, fun _ h => h⟩
def rStr : Rep Str := ⟨fun _ _ v a => v = .str a, fun _ h => h⟩
def rNon : Rep Unit := ⟨fun _ _ v _ => v = .non, fun _ h => h⟩
def rRef : Rep Addr := ⟨fun _ _ v a => v = .ref a, fun _ h => h⟩
def rVal : Rep V := ⟨fun _ _ v a => v = a, fun _ h => h⟩
def rOpt {α : Type} (r : Rep α) : Rep (Option α) := ⟨fun K B v a => match a with | none => v = .non | some x => r.is K B v x, fun {K B B' v a} e h => by
  cases a with
  | none => exact h
  | some x => exact r.mono e h⟩
def rTup {α : Type} (r : Rep α) : Rep (List α) := ⟨fun K B v as => ∃ p xs, v = .ref p ∧ SqT K B p xs ∧ Paired (r.is K B) xs as, fun e ⟨p, xs, h1, h2, h3⟩ => ⟨p, xs, h1, ex_t e h2, paired_mono e h3⟩⟩
/-- the script -/
def rScr {α : Type} (r : Rep α) : Rep (List α) := ⟨fun K B v as => ∃ p xs, v = .ref p ∧ SqL K B p xs ∧ Paired (r.is K B) xs as, fun e ⟨p, xs, h1, h2, h3⟩ => ⟨p, xs, h1, ex_l e h2, paired_mono e h3⟩⟩
def rLst {α : Type} (r : Rep α) : Rep (List α) := ⟨fun K B v as => ∃ p xs, v = .ref p ∧ B p = some (.lst xs) ∧ Paired (r.is K B) xs as, fun e ⟨p, xs, h1, h2, h3⟩ => ⟨p, xs, h1, e _ _ h2, paired_mono e h3⟩⟩
def rSeq {α : Type} (r : Rep α) : Rep (List α) := ⟨fun K B v as => ∃ p xs, v = .ref p ∧ (SqL K B p xs ∨ SqT K B p xs) ∧ Paired (r.is K B) xs as, fun e ⟨p, xs, h1, h2, h3⟩ => ⟨p, xs, h1, h2.imp (ex_l e) (ex_t e), paired_mono e h3⟩⟩
def rT2 {α β : Type} (r : Rep α) (s : Rep β) : Rep (α × β) := ⟨fun K B v a => ∃ p x y, v = .ref p ∧ SqT K B p [x, y] ∧ r.is K B x a.1 ∧ s.is K B y a.2,
  fun e ⟨p, x, y, h1, h2, h3, h4⟩ => ⟨p, x, y, h1, ex_t e h2, r.mono e h3, s.mono e h4⟩⟩
def rT3 {α β γ : Type} (r : Rep α) (s : Rep β) (t : Rep γ) : Rep (α × β × γ) := ⟨fun K B v a => ∃ p x y z, v = .ref p ∧ SqT K B p [x, y, z] ∧ r.is K B x a.1 ∧ s.is K B y a.2.1 ∧ t.is K B z a.2.2,
  fun e ⟨p, x, y, z, h1, h2, h3, h4, h5⟩ => ⟨p, x, y, z, h1, ex_t e h2, r.mono e h3, s.mono e h4, t.mono e h5⟩⟩
def cLst {α : Type} (r : Rep α) : CRep (List α) := ⟨fun K B o as => ∃ xs, o = .lst xs ∧ Paired (r.is K B) xs as, fun e ⟨xs, h1, h2⟩ => ⟨xs, h1, paired_mono e h2⟩⟩
/-- a list [u, v] of two kinds -/
def cL2 {α β : Type} (r : Rep α) (s : Rep β) : CRep (α × β) := ⟨fun K B o a => ∃ x y, o = .lst [x, y] ∧ r.is K B x a.1 ∧ s.is K B y a.2, fun e ⟨x, y, h1, h2, h3⟩ => ⟨x, y, h1, r.mono e h2, s.mono e h3⟩⟩
theorem rTup_seq {α : Type} {r : Rep α} {K : Fg} {B : Hp} {v : V} {as : List α} (h : (rTup r).is K B v as) : (rSeq r).is K B v as := by
  obtain ⟨p, xs, h1, h2, h3⟩ := h
  exact ⟨p, xs, h1, .inr h2, h3⟩
theorem rLst_seq {α : Type} {r : Rep α} {K : Fg} {B : Hp} {v : V} {as : List α} (h : (rLst r).is K B v as) : (rSeq r).is K B v as := by
  obtain ⟨p, xs, h1, h2, h3⟩ := h
  exact ⟨p, xs, h1, .inl (sq_of h2), h3⟩
theorem rl_sc {α : Type} {r : Rep α} {K : Fg} {B : Hp} {v : V} {as : List α} (h : (rLst r).is K B v as) : (rScr r).is K B v as := by
  obtain ⟨p, xs, h1, h2, h3⟩ := h
  exact ⟨p, xs, h1, sq_of h2, h3⟩
theorem rScr_seq {α : Type} {r : Rep α} {K : Fg} {B : Hp} {v : V} {as : List α} (h : (rScr r).is K B v as) : (rSeq r).is K B v as := by
  obtain ⟨p, xs, h1, h2, h3⟩ := h
  exact ⟨p, xs, h1, .inl h2, h3⟩

/-! ### the heap in three: B stays, M is not ours, L may change -/
structure Cell : Type 1 where
  {α : Type}
  p : Addr
  c : CRep α
  a : α
def Cell.ok (K : Fg) (B H : Hp) (x : Cell) : Prop := ∃ o, H x.p = some o ∧ x.c.is K B o x.a
/-- what is not ours; the code objects' tables that may grow -/
structure Fr where
  h : Hp
  T : List Addr
instance : CoeFun Fr fun _ => Addr → Option HO := ⟨Fr.h⟩
instance : CoeOut Fr Hp := ⟨Fr.h⟩
structure Own (K : Fg) (B : Hp) (M : Fr) (L : List Cell) (H : Hp) : Prop where
  b : Ex B H
  m : Ex M.h H
  bm : ∀ a, B a = none ∨ M a = none
  l : ∀ x ∈ L, x.ok K B H ∧ B x.p = none ∧ M x.p = none
  nd : (L.map (·.p)).Nodup
  t : ∀ P ∈ M.T, GxR.TabG H P ∧ B P = none ∧ M P = none ∧ P ∉ L.map (·.p)
section
variable {K : Fg} {B B' H H' : Hp} {M : Fr} {L L' : List Cell} {p : Addr} {o : HO} {α : Type} {c : CRep α} {a a' : α}
theorem Cell.ok.mono {x : Cell} (e : Ex B B') (h : x.ok K B H) : x.ok K B' H := by
  obtain ⟨o, h1, h2⟩ := h
  exact ⟨o, h1, x.c.mono e h2⟩
theorem tab_upd {H : Hp} {P p : Addr} {o : HO} (h : GxR.TabG H P) (ne : P ≠ p) : GxR.TabG (upd H p o) P := by
  obtain ⟨ps, h1, h2⟩ := h
  exact ⟨ps, by rw [upd_ne ne]; exact h1, h2⟩
theorem tab_ne {H : Hp} {P p : Addr} (h : GxR.TabG H P) (hp : H p = none) : P ≠ p := fun e => by
  obtain ⟨ps, h1, _⟩ := h
  rw [e, hp] at h1
  cases h1
/-- without the tables -/
def noT (H : Hp) (T : List Addr) : Hp := fun a => if a ∈ T then none else H a
theorem Own.start (K : Fg) (H : Hp) (T : List Addr) (hT : ∀ P ∈ T, GxR.TabG H P) : Own K (noT H T) ⟨fun _ => none, T⟩ [] H := ⟨fun a u h => by
    unfold noT at h
    split at h
    · cases h
    · exact h, fun _ _ h => (by cases h), fun _ => .inr rfl, fun _ h => absurd h (by simp), by simp, fun P hP => ⟨hT P hP, by unfold noT; rw [if_pos hP], rfl, by simp⟩⟩
theorem sq_noT {K : Fg} {H : Hp} {T : List Addr} {a : Addr} {xs : List V} (hT : ∀ P ∈ T, GxR.TabG H P) (h : SqL K H a xs) : SqL K (noT H T) a xs := by
  have ne : ∀ u, H a = some u → (∀ ps, u ≠ .tbl ps) → noT H T a = some u := fun u e n => by
    unfold noT
    split
    · rename_i hm
      obtain ⟨ps, h1, _⟩ := hT a hm
      rw [e] at h1
      exact absurd (Option.some.inj h1) (n ps)
    · exact e
  rcases h with (h | ⟨o, h⟩) | h
  · exact .inl (.inl (ne _ h fun _ e => by cases e))
  · exact .inl (.inr ⟨o, ne _ h fun _ e => by cases e⟩)
  · exact .inr h
/-- a new thing that stays -/
theorem Own.ext (w : Own K B M L H) (hp : H p = none) : Own K (upd B p o) M L (upd H p o) := by
  have hB : B p = none := fresh_back w.b hp
  have hM : M p = none := fresh_back w.m hp
  refine ⟨fun b u e => ?_, fun b u e => ?_, fun b => ?_, fun x hx => ?_, w.nd, fun P hP => ?_⟩
  rotate_right
  · obtain ⟨h1, h2, h3, h4⟩ := w.t P hP
    have ne := tab_ne h1 hp
    exact ⟨tab_upd h1 ne, by rw [upd_ne ne]; exact h2, h3, h4⟩
  · by_cases hb : b = p
    · rw [hb, upd_same] at e; rw [hb, upd_same]; exact e
    · rw [upd_ne hb] at e; rw [upd_ne hb]; exact w.b b u e
  · rw [upd_ne (ne_of_none e hM)]; exact w.m b u e
  · by_cases hb : b = p
    · right; rw [hb]; exact hM
    · rw [upd_ne hb]; exact w.bm b
  · obtain ⟨⟨u, h1, h2⟩, h3, h4⟩ := w.l x hx
    have ne : x.p ≠ p := ne_of_none h1 hp
    exact ⟨⟨u, by rw [upd_ne ne]; exact h1, x.c.mono (Ex.new hB) h2⟩, by rw [upd_ne ne]; exact h3, h4⟩
/-- a new thing that may change -/
theorem Own.new (w : Own K B M L H) (hp : H p = none) (h : c.is K B o a) : Own K B M (⟨p, c, a⟩ :: L) (upd H p o) := by
  have hB : B p = none := fresh_back w.b hp
  have hM : M p = none := fresh_back w.m hp
  refine ⟨fun b u e => ?_, fun b u e => ?_, w.bm, fun x hx => ?_, ?_, fun P hP => ?_⟩
  rotate_right
  · obtain ⟨h1, h2, h3, h4⟩ := w.t P hP
    have ne := tab_ne h1 hp
    exact ⟨tab_upd h1 ne, h2, h3, fun z => (List.mem_cons.mp z).elim ne h4⟩
  · rw [upd_ne (ne_of_none e hB)]; exact w.b b u e
  · rw [upd_ne (ne_of_none e hM)]; exact w.m b u e
  · rcases List.mem_cons.mp hx with rfl | hx
    · exact ⟨⟨o, upd_same, h⟩, hB, hM⟩
    · obtain ⟨⟨u, h1, h2⟩, h3, h4⟩ := w.l x hx
      exact ⟨⟨u, by rw [upd_ne (ne_of_none h1 hp)]; exact h1, h2⟩, h3, h4⟩
  · rw [List.map_cons, List.nodup_cons]
    refine ⟨fun hm => ?_, w.nd⟩
    obtain ⟨x, hx, e⟩ := List.mem_map.mp hm
    obtain ⟨⟨u, h1, _⟩, _⟩ := w.l x hx
    rw [e, show (Cell.mk p c a).p = p from rfl, hp] at h1
    cases h1
theorem nodup_at : ∀ {l : List Addr} {i j : Nat} {x : Addr}, l.Nodup → l[i]? = some x → l[j]? = some x → i = j := fun {l i j x} h a b => by
  obtain ⟨h1, e1⟩ := List.getElem?_eq_some_iff.mp a
  obtain ⟨h2, e2⟩ := List.getElem?_eq_some_iff.mp b
  exact (List.getElem_inj h).mp (e1.trans e2.symm)
theorem Own.at {i : Nat} {x : Cell} (w : Own K B M L H) (h : L[i]? = some x) : x.ok K B H ∧ B x.p = none ∧ M x.p = none := w.l x (List.mem_of_getElem? h)
theorem Own.ne {i j : Nat} {x y : Cell} (w : Own K B M L H) (h : L[i]? = some x) (h' : L[j]? = some y) (hij : i ≠ j) : x.p ≠ y.p := fun e => hij (nodup_at w.nd (by rw [List.getElem?_map, h]; rfl) (by rw [List.getElem?_map, h']; exact congrArg some e.symm))
/-- a change in place -/
theorem Own.set {i : Nat} (w : Own K B M L H) (h : L[i]? = some ⟨p, c, a⟩) {β : Type} {c' : CRep β} {a' : β} (h' : c'.is K B o a') : Own K B M (L.set i ⟨p, c', a'⟩) (upd H p o) := by
  obtain ⟨_, hB, hM⟩ := w.at h
  have ek : (L.set i ⟨p, c', a'⟩).map (·.p) = L.map (·.p) := by
    rw [List.map_set]
    refine List.ext_getElem? fun j => ?_
    by_cases hij : i = j
    · subst hij
      have hl : i < (L.map (·.p)).length := by rw [List.length_map]; exact (List.getElem?_eq_some_iff.mp h).1
      rw [List.getElem?_set_self hl, List.getElem?_map, h]; rfl
    · rw [List.getElem?_set_ne hij]
  refine ⟨fun b u e => ?_, fun b u e => ?_, w.bm, fun x hx => ?_, ?_, fun P hP => ?_⟩
  rotate_right
  · obtain ⟨h1, h2, h3, h4⟩ := w.t P hP
    have ne : P ≠ p := fun e => h4 (by rw [e]; exact List.mem_map.mpr ⟨_, List.mem_of_getElem? h, rfl⟩)
    exact ⟨tab_upd h1 ne, h2, h3, by rw [ek]; exact h4⟩
  · rw [upd_ne (ne_of_none e hB)]; exact w.b b u e
  · rw [upd_ne (ne_of_none e hM)]; exact w.m b u e
  · obtain ⟨j, hj⟩ := List.getElem?_of_mem hx
    by_cases hij : i = j
    · subst hij
      have hl : i < L.length := (List.getElem?_eq_some_iff.mp h).1
      rw [List.getElem?_set_self hl] at hj
      cases hj
      exact ⟨⟨o, upd_same, h'⟩, hB, hM⟩
    · rw [List.getElem?_set_ne hij] at hj
      obtain ⟨⟨u, h1, h2⟩, h3, h4⟩ := w.at hj
      have ne : x.p ≠ p := w.ne hj h (Ne.symm hij)
      exact ⟨⟨u, by rw [upd_ne ne]; exact h1, h2⟩, h3, h4⟩
  · have e : (L.set i ⟨p, c', a'⟩).map (·.p) = L.map (·.p) := by
      rw [List.map_set]
      refine List.ext_getElem? fun j => ?_
      by_cases hij : i = j
      · subst hij
        have hl : i < (L.map (·.p)).length := by rw [List.length_map]; exact (List.getElem?_eq_some_iff.mp h).1
        rw [List.getElem?_set_self hl, List.getElem?_map, h]; rfl
      · rw [List.getElem?_set_ne hij]
    rw [e]; exact w.nd
theorem Own.perm {L' : List Cell} (w : Own K B M L H) (h : ∀ x ∈ L', x ∈ L) (nd : (L'.map (·.p)).Nodup) : Own K B M L' H := ⟨w.b, w.m, w.bm, fun x hx => w.l x (h x hx), nd, fun P hP => by
  obtain ⟨h1, h2, h3, h4⟩ := w.t P hP
  refine ⟨h1, h2, h3, fun z => h4 ?_⟩
  obtain ⟨x, hx, e⟩ := List.mem_map.mp z
  exact List.mem_map.mpr ⟨x, h x hx, e⟩⟩
theorem Own.erase (w : Own K B M L H) (i : Nat) : Own K B M (L.eraseIdx i) H := by
  refine w.perm (fun x hx => List.mem_of_mem_eraseIdx hx) ?_
  exact w.nd.sublist ((List.eraseIdx_sublist L i).map _)
theorem Own.tail {x : Cell} (w : Own K B M (x :: L) H) : Own K B M L H := w.erase 0
theorem Own.nil (w : Own K B M L H) : Own K B M [] H := w.perm (fun _ h => absurd h (by simp)) (by simp)
/-- what may change stays from now on -/
theorem Own.freeze {i : Nat} {x : Cell} (w : Own K B M L H) (h : L[i]? = some x) : ∃ o, H x.p = some o ∧ x.c.is K B o x.a ∧ B x.p = none ∧ Own K (upd B x.p o) M (L.eraseIdx i) H := by
  obtain ⟨⟨o, h1, h2⟩, hB, hM⟩ := w.at h
  refine ⟨o, h1, h2, hB, fun b u e => ?_, w.m, fun b => ?_, fun y hy => ?_, w.nd.sublist ((List.eraseIdx_sublist L i).map _), fun P hP => ?_⟩
  rotate_right
  · obtain ⟨t1, t2, t3, t4⟩ := w.t P hP
    have ne : P ≠ x.p := fun e => t4 (by rw [e]; exact List.mem_map.mpr ⟨_, List.mem_of_getElem? h, rfl⟩)
    exact ⟨t1, by rw [upd_ne ne]; exact t2, t3, fun z => t4 (((List.eraseIdx_sublist L i).map _).subset z)⟩
  · by_cases hb : b = x.p
    · rw [hb, upd_same] at e; rw [hb, h1]; exact e
    · rw [upd_ne hb] at e; exact w.b b u e
  · by_cases hb : b = x.p
    · right; rw [hb]; exact hM
    · rw [upd_ne hb]; exact w.bm b
  · obtain ⟨⟨u, h3, h4⟩, h5, h6⟩ := w.l y (List.mem_of_mem_eraseIdx hy)
    have ne : y.p ≠ x.p := by
      obtain ⟨j, hj, hne⟩ := List.mem_eraseIdx_iff_getElem?.mp hy
      exact w.ne hne h hj
    exact ⟨⟨u, h3, y.c.mono (Ex.new hB) h4⟩, by rw [upd_ne ne]; exact h5, h6⟩
/-- what is ours as a part of what is not ours -/
def absorb (M : Fr) (L : List Cell) (H : Hp) : Fr := ⟨fun a => if a ∈ L.map (·.p) then H a else M a, M.T⟩
theorem absorb_in {x : Cell} (h : x ∈ L) : absorb M L H x.p = H x.p := by
  exact if_pos (List.mem_map.mpr ⟨x, h, rfl⟩)
theorem absorb_out (h : p ∉ L.map (·.p)) : absorb M L H p = M p := by
  exact if_neg h
/-- L1 is lent, L2 is set aside -/
theorem Own.lend {L1 L2 : List Cell} (w : Own K B M L H) (h1 : ∀ x ∈ L1, x ∈ L) (h2 : ∀ x ∈ L2, x ∈ L) (nd1 : (L1.map (·.p)).Nodup) (dj : ∀ x ∈ L1, x.p ∉ L2.map (·.p)) : Own K B (absorb M L2 H) L1 H := by
  refine ⟨w.b, fun b u e => ?_, fun b => ?_, fun x hx => ?_, nd1, fun P hP => ?_⟩
  rotate_right
  · obtain ⟨t1, t2, t3, t4⟩ := w.t P hP
    have sub : ∀ {L' : List Cell}, (∀ x ∈ L', x ∈ L) → P ∉ L'.map (·.p) := fun {L'} hs z => by
      obtain ⟨x, hx, e⟩ := List.mem_map.mp z
      exact t4 (List.mem_map.mpr ⟨x, hs x hx, e⟩)
    exact ⟨t1, t2, by rw [absorb_out (sub h2)]; exact t3, sub h1⟩
  · by_cases hb : b ∈ L2.map (·.p)
    · have e : (if b ∈ L2.map (·.p) then H b else M b) = some u := e; rw [if_pos hb] at e; exact e
    · rw [absorb_out hb] at e; exact w.m b u e
  · by_cases hb : b ∈ L2.map (·.p)
    · left
      obtain ⟨x, hx, rfl⟩ := List.mem_map.mp hb
      exact (w.l x (h2 x hx)).2.1
    · rw [absorb_out hb]; exact w.bm b
  · obtain ⟨a1, a2, a3⟩ := w.l x (h1 x hx)
    refine ⟨a1, a2, ?_⟩
    rw [absorb_out (dj x hx)]; exact a3
/-- it comes back changed -/
theorem Own.back {L1' L2 : List Cell} (w : Own K B M L H) (h2 : ∀ x ∈ L2, x ∈ L) (nd2 : (L2.map (·.p)).Nodup) (e : Ex B B') (w' : Own K B' (absorb M L2 H) L1' H') (dj : ∀ x ∈ L1', x.p ∉ L2.map (·.p)) : Own K B' M (L1' ++ L2) H' := by
  have inL : ∀ x ∈ L2, ∃ o, H x.p = some o ∧ H' x.p = some o ∧ x.c.is K B o x.a := fun x hx => by
    obtain ⟨⟨o, a1, a2⟩, _⟩ := w.l x (h2 x hx)
    exact ⟨o, a1, w'.m x.p o (by rw [absorb_in hx]; exact a1), a2⟩
  have Min : ∀ b u, M b = some u → b ∉ L2.map (·.p) := fun b u hm hb => by
    obtain ⟨x, hx, rfl⟩ := List.mem_map.mp hb
    rw [(w.l x (h2 x hx)).2.2] at hm
    cases hm
  refine ⟨w'.b, fun b u hm => w'.m b u (by rw [absorb_out (Min b u hm)]; exact hm), fun b => ?_, fun x hx => ?_, ?_, fun P hP => ?_⟩
  rotate_right
  · obtain ⟨t1, t2, t3, t4⟩ := w.t P hP
    obtain ⟨s1, s2, s3, s4⟩ := w'.t P hP
    refine ⟨s1, s2, t3, fun z => ?_⟩
    rw [List.map_append, List.mem_append] at z
    rcases z with z | z
    · exact s4 z
    · obtain ⟨x, hx, e⟩ := List.mem_map.mp z
      exact t4 (List.mem_map.mpr ⟨x, h2 x hx, e⟩)
  · rcases w'.bm b with h | h
    · exact .inl h
    · right
      by_cases hb : b ∈ L2.map (·.p)
      · obtain ⟨x, hx, rfl⟩ := List.mem_map.mp hb
        exact (w.l x (h2 x hx)).2.2
      · rw [absorb_out hb] at h; exact h
  · rcases List.mem_append.mp hx with hx | hx
    · obtain ⟨a1, a2, a3⟩ := w'.l x hx
      refine ⟨a1, a2, ?_⟩
      rw [absorb_out (dj x hx)] at a3; exact a3
    · obtain ⟨o, a1, a2, a3⟩ := inL x hx
      refine ⟨⟨o, a2, x.c.mono e a3⟩, ?_, (w.l x (h2 x hx)).2.2⟩
      rcases w'.bm x.p with h | h
      · exact h
      · rw [absorb_in hx, a1] at h; cases h
  · rw [List.map_append, List.nodup_append]
    refine ⟨w'.nd, nd2, fun a ha b hb hab => ?_⟩
    obtain ⟨x, hx, rfl⟩ := List.mem_map.mp ha
    exact dj x hx (by rw [hab]; exact hb)
end
end L3

namespace L3
open PySem L2
open Evl (Ex ex_rd ex_l ex_t sq_of st_of fresh_back)

/-! ### what an expression gives -/
def EV (K : Fg) (M : Fr) {α : Type} (te : TE) (σ : St) (B : Hp) (L : List Cell) (r : Rep α) (a : α) (L' : List Cell) : Prop :=
  ∀ B1 H, Ex B B1 → Own K B1 M L H → ∀ Q : VK, (∀ v B2 H2, Ex B1 B2 → Own K B2 M L' H2 → r.is K B2 v a → Q v H2) → te σ H Q
/-- a new list that may change -/
def EVL (K : Fg) (M : Fr) {α : Type} (te : TE) (σ : St) (B : Hp) (L : List Cell) (r : Rep α) (as : List α) (L' : List Cell) : Prop :=
  ∀ B1 H, Ex B B1 → Own K B1 M L H → ∀ Q : VK, (∀ p B2 H2, Ex B1 B2 → Own K B2 M (⟨p, cLst r, as⟩ :: L') H2 → Q (.ref p) H2) → te σ H Q
def ET (K : Fg) (M : Fr) (tt : TT) (σ : St) (B : Hp) (L : List Cell) (b : Bool) (L' : List Cell) : Prop :=
  ∀ B1 H, Ex B B1 → Own K B1 M L H → ∀ Q : Bool → Hp → Prop, (∀ B2 H2, Ex B1 B2 → Own K B2 M L' H2 → Q b H2) → tt σ H Q
structure Arg : Type 1 where
  {α : Type}
  r : Rep α
  a : α
def Arg.is (K : Fg) (B : Hp) (v : V) (x : Arg) : Prop := x.r.is K B v x.a
def ArgsIs (K : Fg) (B : Hp) : List V → List Arg → Prop
  | [], [] => True
  | v :: vs, a :: as => a.is K B v ∧ ArgsIs K B vs as
  | _, _ => False
theorem args_mono {K : Fg} {B B' : Hp} (e : Ex B B') : ∀ {vs : List V} {as : List Arg}, ArgsIs K B vs as → ArgsIs K B' vs as
  | [], [], _ => trivial
  | _ :: _, a :: _, h => ⟨a.r.mono e h.1, args_mono e h.2⟩
  | [], _ :: _, h => h
  | _ :: _, [], h => h
def EA (K : Fg) (M : Fr) (ta : TA) (σ : St) (B : Hp) (L : List Cell) (as : List Arg) (L' : List Cell) : Prop :=
  ∀ B1 H, Ex B B1 → Own K B1 M L H → ∀ Q : List V → Hp → Prop, (∀ vs B2 H2, Ex B1 B2 → Own K B2 M L' H2 → ArgsIs K B2 vs as → Q vs H2) → ta σ H Q

/-! ### partial operations of the mirrors -/
theorem bindS {α β : Type} {o : Option α} {f : α → Option β} {b : β} (h : Option.bind o f = some b) : ∃ a, o = some a ∧ f a = some b := by
  cases o with
  | none => cases h
  | some a => exact ⟨a, rfl, h⟩
def CMulX (i j : Int) : Prop := ((-(2 ^ 64) < i ∧ i < 2 ^ 64) ∨ (-(2 ^ 64) < j ∧ j < 2 ^ 64)) ∨ i.natAbs.log2 + j.natAbs.log2 < 1000000
instance (i j : Int) : Decidable (CMulX i j) := by unfold CMulX; infer_instance
theorem op_mulX {X : Cx} : OpR X (binaryOp .Mult) (rI CMulX fun i j => .int (i * j)) := opI fun _ _ _ _ _ _ _ hc q => PyProof.Rows.mul_int q (Or.elim hc CMul.ok CMulW.ok)
def mulI (i j : Int) : Option Int := if CMulX i j then some (i * j) else none
def divI (i j : Int) : Option Int := if 0 < j ∧ j.natAbs.log2 < 9000 then some (i / j) else none
def modI (i j : Int) : Option Int := if 0 < j then some (i % j) else none
def powI (i j : Int) : Option Int := if 0 ≤ j ∧ j ≤ 1000000 ∧ i.natAbs < 2 ^ 64 then some (i ^ j.toNat) else none
def ixL {α : Type} (xs : List α) (i : Int) : Option α := atI xs i
def room (n : Nat) : Option Unit := if n < sizeLine then some () else none
theorem mulI_some {i j k : Int} (h : mulI i j = some k) : CMulX i j ∧ k = i * j := by
  unfold mulI at h
  split at h
  · rename_i hc; exact ⟨hc, (Option.some.inj h).symm⟩
  · cases h
theorem divI_some {i j k : Int} (h : divI i j = some k) : CDivW i j ∧ k = i / j := by
  unfold divI at h
  split at h
  · rename_i hc; exact ⟨hc, (Option.some.inj h).symm⟩
  · cases h
theorem modI_some {i j k : Int} (h : modI i j = some k) : 0 < j ∧ k = i % j := by
  unfold modI at h
  split at h
  · rename_i hc; exact ⟨hc, (Option.some.inj h).symm⟩
  · cases h
theorem powI_some {i j k : Int} (h : powI i j = some k) : CPow i j ∧ k = i ^ j.toNat := by
  unfold powI at h
  split at h
  · rename_i hc; exact ⟨hc, (Option.some.inj h).symm⟩
  · cases h
theorem room_some {n : Nat} {u : Unit} (h : room n = some u) : n < sizeLine := by
  unfold room at h
  split at h
  · rename_i hc; exact hc
  · cases h
/-- an index in the mirror's list is one in the heap's -/
theorem atI_paired {α : Type} {F : V → α → Prop} {xs : List V} {as : List α} {i : Int} {a : α} (h : Paired F xs as) (e : atI as i = some a) : ∃ x, atI xs i = some x ∧ F x a := by
  unfold atI at e ⊢
  rw [paired_len h]
  revert e
  cases ixN as.length i with
  | none => intro e; simp at e
  | some j => intro e; exact paired_get h (by simpa using e)

section
variable {K : Fg} {M : Fr} {σ : St} {B : Hp} {L L1 L2 L' : List Cell} {α β γ δ : Type} {r : Rep α} {s : Rep β} {t : Rep γ} {ta tb tc te : TE} {tt tu : TT} {tA : TA} {i j k : Int} {b c : Bool}
/-! ### expressions -/
theorem ev_var {n : Nat} {v : V} {a : α} (h : σ[n]? = some (some v)) (hr : r.is K B v a) : EV K M (tVar n) σ B L r a L := fun B1 H e w Q q => ⟨v, h, q v B1 H (Ex.refl _) w (r.mono e hr)⟩
theorem ev_varI {n : Nat} {v : V} (h : σ[n]? = some (some v)) (hr : v = .int i) : EV K M (tVar n) σ B L rInt i L := ev_var h hr
theorem ev_varB {n : Nat} {v : V} (h : σ[n]? = some (some v)) (hr : v = .bl b) : EV K M (tVar n) σ B L rBool b L := ev_var h hr
theorem ev_varS {n : Nat} {v : V} {x : Str} (h : σ[n]? = some (some v)) (hr : v = .str x) : EV K M (tVar n) σ B L rStr x L := ev_var h hr
theorem ev_varR {n : Nat} {p : Addr} (h : σ[n]? = some (some (.ref p))) : EV K M (tVar n) σ B L rRef p L := ev_var h rfl
theorem ev_k {v : V} {a : α} (hr : ∀ B, r.is K B v a) : EV K M (tC v) σ B L r a L := fun B1 H e w Q q => q v B1 H (Ex.refl _) w (hr B1)
theorem ev_int : EV K M (tC (.int i)) σ B L rInt i L := ev_k fun _ => rfl
theorem ev_bl : EV K M (tC (.bl b)) σ B L rBool b L := ev_k fun _ => rfl
theorem ev_str {x : Str} : EV K M (tC (.str x)) σ B L rStr x L := ev_k fun _ => rfl
theorem ev_non : EV K M (tC .non) σ B L (rOpt r) none L := ev_k fun _ => rfl
theorem ev_as {a : α} {b : β} (h : EV K M te σ B L r a L') (f : ∀ B v, r.is K B v a → s.is K B v b) : EV K M te σ B L s b L' := fun B1 H e w Q q => h B1 H e w Q fun v B2 H2 e2 w2 h2 => q v B2 H2 e2 w2 (f _ _ h2)
theorem ev_seqT {as : List α} (h : EV K M te σ B L (rTup r) as L') : EV K M te σ B L (rSeq r) as L' := ev_as h fun _ _ => rTup_seq
theorem ev_seqS {as : List α} (h : EV K M te σ B L (rScr r) as L') : EV K M te σ B L (rSeq r) as L' := ev_as h fun _ _ => rScr_seq
theorem ev_scr {as : List α} (h : EV K M te σ B L (rLst r) as L') : EV K M te σ B L (rScr r) as L' := ev_as h fun _ _ => rl_sc
theorem ev_seqL {as : List α} (h : EV K M te σ B L (rLst r) as L') : EV K M te σ B L (rSeq r) as L' := ev_as h fun _ _ => rLst_seq
theorem ev_sm {a : α} (h : EV K M te σ B L r a L') : EV K M te σ B L (rOpt r) (some a) L' := ev_as h fun _ _ h => h
/-- a new list, left as it is -/
theorem ev_frz {as : List α} (h : EVL K M te σ B L r as L') : EV K M te σ B L (rLst r) as L' := fun B1 H e w Q q => h B1 H e w Q fun p B2 H2 e2 w2 => by
  obtain ⟨o, h1, ⟨xs, h2, h3⟩, h4, w3⟩ := w2.freeze (i := 0) rfl
  have h4 : B2 p = none := h4
  have e3 : Ex B2 (upd B2 p o) := Ex.new h4
  refine q _ (upd B2 p o) H2 (e2.trans e3) w3 ⟨p, xs, rfl, ?_, paired_mono e3 h3⟩
  rw [upd_same, h2]
/-- two values, one operation -/
theorem ev_op {R : R2} {a : α} {b : β} {c : γ} (ha : EV K M ta σ B L r a L1) (hb : EV K M tb σ B L1 s b L2)
    (h : ∀ B1 H1 x y (Q : VK), Own K B1 M L2 H1 → r.is K B1 x a → s.is K B1 y b → (∀ v, t.is K B1 v c → Q v H1) → R x y H1 Q) : EV K M (tOp R ta tb) σ B L t c L2 := fun B1 H e w Q q =>
  ha B1 H e w _ fun x B2 H2 e2 w2 hx => hb B2 H2 (e.trans e2) w2 _ fun y B3 H3 e3 w3 hy => h B3 H3 x y Q w3 (r.mono e3 hx) hy fun v hv => q v B3 H3 (e2.trans e3) w3 hv
theorem ev_un {R : V → Hp → VK → Prop} {a : α} {c : γ} (ha : EV K M ta σ B L r a L1) (h : ∀ B1 H1 x (Q : VK), Own K B1 M L1 H1 → r.is K B1 x a → (∀ v, t.is K B1 v c → Q v H1) → R x H1 Q) : EV K M (tUn R ta) σ B L t c L1 := fun B1 H e w Q q =>
  ha B1 H e w _ fun x B2 H2 e2 w2 hx => h B2 H2 x Q w2 hx fun v hv => q v B2 H2 e2 w2 hv
theorem ev_I0 {g : Int → Int → Int} (ha : EV K M ta σ B L rInt i L1) (hb : EV K M tb σ B L1 rInt j L2) : EV K M (tOp (rI0 fun i j => .int (g i j)) ta tb) σ B L rInt (g i j) L2 :=
  ev_op ha hb fun _ _ _ _ _ _ hx hy q => ⟨i, j, hx, hy, q _ rfl⟩
theorem ev_B0 {g : Int → Int → Bool} (ha : EV K M ta σ B L rInt i L1) (hb : EV K M tb σ B L1 rInt j L2) : EV K M (tOp (rI0 fun i j => .bl (g i j)) ta tb) σ B L rBool (g i j) L2 :=
  ev_op ha hb fun _ _ _ _ _ _ hx hy q => ⟨i, j, hx, hy, q _ rfl⟩
theorem ev_mul (ha : EV K M ta σ B L rInt i L1) (hb : EV K M tb σ B L1 rInt j L2) (h : mulI i j = some k) : EV K M (tOp (rI CMulX fun i j => .int (i * j)) ta tb) σ B L rInt k L2 :=
  ev_op ha hb fun _ _ _ _ _ _ hx hy q => ⟨i, j, hx, hy, (mulI_some h).1, q _ (by rw [(mulI_some h).2]; rfl)⟩
theorem ev_div (ha : EV K M ta σ B L rInt i L1) (hb : EV K M tb σ B L1 rInt j L2) (h : divI i j = some k) : EV K M (tOp (rI CDivW fun i j => .int (i / j)) ta tb) σ B L rInt k L2 :=
  ev_op ha hb fun _ _ _ _ _ _ hx hy q => ⟨i, j, hx, hy, (divI_some h).1, q _ (by rw [(divI_some h).2]; rfl)⟩
theorem ev_mod (ha : EV K M ta σ B L rInt i L1) (hb : EV K M tb σ B L1 rInt j L2) (h : modI i j = some k) : EV K M (tOp (rI (fun _ j => 0 < j) fun i j => .int (i % j)) ta tb) σ B L rInt k L2 :=
  ev_op ha hb fun _ _ _ _ _ _ hx hy q => ⟨i, j, hx, hy, (modI_some h).1, q _ (by rw [(modI_some h).2]; rfl)⟩
theorem ev_pow (ha : EV K M ta σ B L rInt i L1) (hb : EV K M tb σ B L1 rInt j L2) (h : powI i j = some k) : EV K M (tOp (rI CPow fun i j => .int (i ^ j.toNat)) ta tb) σ B L rInt k L2 :=
  ev_op ha hb fun _ _ _ _ _ _ hx hy q => ⟨i, j, hx, hy, (powI_some h).1, q _ (by rw [(powI_some h).2]; rfl)⟩
theorem ev_neg (ha : EV K M ta σ B L rInt i L1) : EV K M (tUn (rU fun i => .int (-i)) ta) σ B L rInt (-i) L1 := ev_un ha fun _ _ _ _ _ hx q => ⟨i, hx, q _ rfl⟩
theorem ev_eqI (ha : EV K M ta σ B L rInt i L1) (hb : EV K M tb σ B L1 rInt j L2) : EV K M (tOp rEq ta tb) σ B L rBool (decide (i = j)) L2 :=
  ev_op ha hb fun _ _ _ _ _ _ hx hy q => by
    have hx : _ = V.int i := hx
    have hy : _ = V.int j := hy
    subst hx hy
    exact ⟨rfl, q _ (by show V.bl _ = V.bl _; congr 1; simp)⟩
theorem ev_neI (ha : EV K M ta σ B L rInt i L1) (hb : EV K M tb σ B L1 rInt j L2) : EV K M (tOp rNe ta tb) σ B L rBool (!decide (i = j)) L2 :=
  ev_op ha hb fun _ _ _ _ _ _ hx hy q => by
    have hx : _ = V.int i := hx
    have hy : _ = V.int j := hy
    subst hx hy
    exact ⟨rfl, q _ (by show V.bl _ = V.bl _; congr 1; simp)⟩
theorem ev_eqS {x y : Str} (ha : EV K M ta σ B L rStr x L1) (hb : EV K M tb σ B L1 rStr y L2) : EV K M (tOp rEq ta tb) σ B L rBool (decide (x = y)) L2 :=
  ev_op ha hb fun _ _ _ _ _ _ hx hy q => by
    have hx : _ = V.str x := hx
    have hy : _ = V.str y := hy
    subst hx hy
    exact ⟨rfl, q _ (by show V.bl _ = V.bl _; congr 1; simp)⟩
theorem ev_neS {x y : Str} (ha : EV K M ta σ B L rStr x L1) (hb : EV K M tb σ B L1 rStr y L2) : EV K M (tOp rNe ta tb) σ B L rBool (!decide (x = y)) L2 :=
  ev_op ha hb fun _ _ _ _ _ _ hx hy q => by
    have hx : _ = V.str x := hx
    have hy : _ = V.str y := hy
    subst hx hy
    exact ⟨rfl, q _ (by show V.bl _ = V.bl _; congr 1; simp)⟩
theorem ev_eqB {x y : Bool} (ha : EV K M ta σ B L rBool x L1) (hb : EV K M tb σ B L1 rBool y L2) : EV K M (tOp rEq ta tb) σ B L rBool (decide (x = y)) L2 :=
  ev_op ha hb fun _ _ _ _ _ _ hx hy q => by
    have hx : _ = V.bl x := hx
    have hy : _ = V.bl y := hy
    subst hx hy
    exact ⟨rfl, q _ (by show V.bl _ = V.bl _; congr 1; simp)⟩
/-- x is None -/
theorem ev_isN {a : Option α} (ha : EV K M ta σ B L (rOpt r) a L1) (hn : ∀ B v x, r.is K B v x → v ≠ .non) : EV K M (tIsN ta) σ B L rBool a.isNone L1 := fun B1 H e w Q q =>
  ha B1 H e w _ fun x B2 H2 e2 w2 hx => q _ B2 H2 e2 w2 (by
    show V.bl _ = V.bl _
    congr 1
    cases a with
    | none => exact decide_eq_true (show x = V.non from hx)
    | some a => exact decide_eq_false (hn _ _ _ hx))
theorem ev_notN {a : Option α} (ha : EV K M ta σ B L (rOpt r) a L1) (hn : ∀ B v x, r.is K B v x → v ≠ .non) : EV K M (tNotN ta) σ B L rBool a.isSome L1 := fun B1 H e w Q q =>
  ha B1 H e w _ fun x B2 H2 e2 w2 hx => q _ B2 H2 e2 w2 (by
    show V.bl _ = V.bl _
    congr 1
    cases a with
    | none => rw [decide_eq_true (show x = V.non from hx)]; rfl
    | some a => rw [decide_eq_false (hn _ _ _ hx)]; rfl)
/-! ### tuples and lists -/
theorem ea_nil : EA K M tNil σ B L [] L := fun B1 H e w Q q => q [] B1 H (Ex.refl _) w trivial
theorem ea_cons {a : α} {as : List Arg} (ha : EV K M ta σ B L r a L1) (hr : EA K M tA σ B L1 as L2) : EA K M (tCons ta tA) σ B L (⟨r, a⟩ :: as) L2 := fun B1 H e w Q q =>
  ha B1 H e w _ fun x B2 H2 e2 w2 hx => hr B2 H2 (e.trans e2) w2 _ fun vs B3 H3 e3 w3 hvs => q (x :: vs) B3 H3 (e2.trans e3) w3 ⟨r.mono e3 hx, hvs⟩
theorem ev_T2 {a : α} {b : β} (h : EA K M tA σ B L [⟨r, a⟩, ⟨s, b⟩] L') : EV K M (tTup tA) σ B L (rT2 r s) (a, b) L' := fun B1 H e w Q q =>
  h B1 H e w _ fun vs B2 H2 e2 w2 hv => by
    match vs, hv with
    | [_, _], ⟨h1, h2, _⟩ => exact ⟨by show 2 ≤ sizeLine; decide, fun p hp => q _ (upd B2 p _) _ (e2.trans (Ex.new (fresh_back w2.b hp))) (w2.ext hp) ⟨p, _, _, rfl, st_of upd_same, r.mono (Ex.new (fresh_back w2.b hp)) h1, s.mono (Ex.new (fresh_back w2.b hp)) h2⟩⟩
theorem ev_T3 {a : α} {b : β} {c : γ} (h : EA K M tA σ B L [⟨r, a⟩, ⟨s, b⟩, ⟨t, c⟩] L') : EV K M (tTup tA) σ B L (rT3 r s t) (a, b, c) L' := fun B1 H e w Q q =>
  h B1 H e w _ fun vs B2 H2 e2 w2 hv => by
    match vs, hv with
    | [_, _, _], ⟨h1, h2, h3, _⟩ => exact ⟨by show 3 ≤ sizeLine; decide, fun p hp => q _ (upd B2 p _) _ (e2.trans (Ex.new (fresh_back w2.b hp))) (w2.ext hp) ⟨p, _, _, _, rfl, st_of upd_same, r.mono (Ex.new (fresh_back w2.b hp)) h1, s.mono (Ex.new (fresh_back w2.b hp)) h2, t.mono (Ex.new (fresh_back w2.b hp)) h3⟩⟩
theorem homog : ∀ {as : List α} {vs : List V}, ArgsIs K B vs (as.map (Arg.mk r)) → Paired (r.is K B) vs as
  | [], [], _ => .nil
  | _ :: _, _ :: _, h => .cons h.1 (homog h.2)
  | [], _ :: _, h => h.elim
  | _ :: _, [], h => h.elim
theorem ev_tup (as : List α) (h : EA K M tA σ B L (as.map (Arg.mk r)) L') (hl : Nat.ble as.length 100000 = true := by rfl) : EV K M (tTup tA) σ B L (rTup r) as L' := fun B1 H e w Q q =>
  h B1 H e w _ fun vs B2 H2 e2 w2 hv => ⟨by rw [paired_len (homog hv)]; exact Evl.sz_of (Nat.le_of_ble_eq_true hl), fun p hp => q _ (upd B2 p _) _ (e2.trans (Ex.new (fresh_back w2.b hp))) (w2.ext hp) ⟨p, _, rfl, st_of upd_same, paired_mono (Ex.new (fresh_back w2.b hp)) (homog hv)⟩⟩
theorem el_lst (as : List α) (h : EA K M tA σ B L (as.map (Arg.mk r)) L') (hl : Nat.ble as.length 100000 = true := by rfl) : EVL K M (tLst tA) σ B L r as L' := fun B1 H e w Q q =>
  h B1 H e w _ fun vs B2 H2 e2 w2 hv => ⟨by rw [paired_len (homog hv)]; exact Evl.sz_of (Nat.le_of_ble_eq_true hl), fun p hp => q p B2 _ e2 (w2.new hp ⟨vs, rfl, homog hv⟩)⟩
theorem ev_fst {a : α × β} (ha : EV K M ta σ B L (rT2 r s) a L1) : EV K M (tOp (rIx K) ta (tC (.int 0))) σ B L r a.1 L1 := fun B1 H e w Q q =>
  ha B1 H e w _ fun x B2 H2 e2 w2 hx => by
    obtain ⟨p, x0, x1, rfl, hs, h0, h1⟩ := hx
    exact .inr (.inl ⟨p, _, 0, x0, rfl, rfl, ex_t w2.b hs, rfl, q _ B2 H2 e2 w2 h0⟩)
theorem ev_snd {a : α × β} (ha : EV K M ta σ B L (rT2 r s) a L1) : EV K M (tOp (rIx K) ta (tC (.int 1))) σ B L s a.2 L1 := fun B1 H e w Q q =>
  ha B1 H e w _ fun x B2 H2 e2 w2 hx => by
    obtain ⟨p, x0, x1, rfl, hs, h0, h1⟩ := hx
    exact .inr (.inl ⟨p, _, 1, x1, rfl, rfl, ex_t w2.b hs, rfl, q _ B2 H2 e2 w2 h1⟩)
theorem ev_ix {xs : List α} {a : α} (ha : EV K M ta σ B L (rSeq r) xs L1) (hb : EV K M tb σ B L1 rInt i L2) (h : ixL xs i = some a) : EV K M (tOp (rIx K) ta tb) σ B L r a L2 :=
  ev_op ha hb fun B1 H1 x y Q w hx hy q => by
    obtain ⟨p, vs, rfl, hs, hv⟩ := hx
    obtain ⟨x, e, hx⟩ := atI_paired hv h
    rcases hs with hs | hs
    · exact .inl ⟨p, vs, i, x, rfl, hy, ex_l w.b hs, e, q _ hx⟩
    · exact .inr (.inl ⟨p, vs, i, x, rfl, hy, ex_t w.b hs, e, q _ hx⟩)
/-- of a list that may change -/
theorem ev_ixC {n : Nat} {p : Addr} {xs : List α} {a : α} (ha : EV K M ta σ B L rRef p L1) (hb : EV K M tb σ B L1 rInt i L2) (hc : L2[n]? = some ⟨p, cLst r, xs⟩) (h : ixL xs i = some a) : EV K M (tOp (rIx K) ta tb) σ B L r a L2 :=
  ev_op ha hb fun B1 H1 x y Q w hx hy q => by
    obtain ⟨⟨o, h1, vs, h2, hv⟩, _⟩ := w.at hc
    obtain ⟨x, e, hx'⟩ := atI_paired hv h
    exact .inl ⟨p, vs, i, x, hx, hy, sq_of (by rw [h1, h2]), e, q _ hx'⟩
def rLen (K : Fg) : List V → Hp → VK → Prop := fun xs H Q => ∃ p ys, xs = [.ref p] ∧ (SqL K H p ys ∨ SqT K H p ys) ∧ Q (.int ys.length) H
theorem ev_cb {R : List V → Hp → VK → Prop} {as : List Arg} {c : γ} (ha : EA K M tA σ B L as L1) (h : ∀ B1 H1 vs (Q : VK), Own K B1 M L1 H1 → ArgsIs K B1 vs as → (∀ v, t.is K B1 v c → Q v H1) → R vs H1 Q) : EV K M (tCB R tA) σ B L t c L1 := fun B1 H e w Q q =>
  ha B1 H e w _ fun vs B2 H2 e2 w2 hv => h B2 H2 vs Q w2 hv fun v hr => q v B2 H2 e2 w2 hr
theorem ev_cb1 {R : List V → Hp → VK → Prop} {a : α} {c : γ} (ha : EV K M ta σ B L r a L1) (h : ∀ B1 H1 x (Q : VK), Own K B1 M L1 H1 → r.is K B1 x a → (∀ v, t.is K B1 v c → Q v H1) → R [x] H1 Q) : EV K M (tCB R (tCons ta tNil)) σ B L t c L1 := fun B1 H e w Q q =>
  ha B1 H e w _ fun v B2 H2 e2 w2 hv => h B2 H2 v Q w2 hv fun v hr => q v B2 H2 e2 w2 hr
theorem ev_len {xs : List α} (ha : EV K M ta σ B L (rSeq r) xs L1) : EV K M (tCB (rLen K) (tCons ta tNil)) σ B L rInt (xs.length : Int) L1 :=
  ev_cb1 ha fun B1 H1 x Q w hx q => by
    obtain ⟨p, vs, rfl, hs, hv⟩ := hx
    exact ⟨p, vs, rfl, hs.imp (ex_l w.b) (ex_t w.b), q _ (by rw [paired_len hv]; rfl)⟩
theorem ev_lenC {n : Nat} {p : Addr} {xs : List α} (ha : EV K M ta σ B L rRef p L1) (hc : L1[n]? = some ⟨p, cLst r, xs⟩) : EV K M (tCB (rLen K) (tCons ta tNil)) σ B L rInt (xs.length : Int) L1 :=
  ev_cb1 ha fun B1 H1 x Q w hx q => by
    obtain ⟨⟨o, h1, vs, h2, hv⟩, _⟩ := w.at hc
    have h1 : H1 p = some o := h1
    exact ⟨p, vs, congrArg (fun z => [z]) hx, .inl (sq_of (by rw [h1, h2])), q _ (by rw [paired_len hv]; rfl)⟩
theorem ev_abs (ha : EV K M ta σ B L rInt i L1) : EV K M (tCB (fun xs H Q => ∃ i, xs = [.int i] ∧ Q (.int (if i < 0 then -i else i)) H) (tCons ta tNil)) σ B L rInt (if i < 0 then -i else i) L1 :=
  ev_cb1 ha fun B1 H1 x Q w hx q => ⟨i, congrArg (fun z => [z]) hx, q _ rfl⟩
def rInt1 : List V → Hp → VK → Prop := fun xs H Q => (∃ i, xs = [.int i] ∧ Q (.int i) H) ∨ ∃ k, xs = [.bl k] ∧ Q (.int (if k then 1 else 0)) H
theorem ev_intI (ha : EV K M ta σ B L rInt i L1) : EV K M (tCB rInt1 (tCons ta tNil)) σ B L rInt i L1 := ev_cb1 ha fun B1 H1 x Q w hx q => .inl ⟨i, congrArg (fun z => [z]) hx, q _ rfl⟩
theorem ev_intB (ha : EV K M ta σ B L rBool b L1) : EV K M (tCB rInt1 (tCons ta tNil)) σ B L rInt (if b then 1 else 0) L1 := ev_cb1 ha fun B1 H1 x Q w hx q => .inr ⟨b, congrArg (fun z => [z]) hx, q _ rfl⟩
theorem ev_gcd (ha : EV K M ta σ B L rInt i L1) (hb : EV K M tb σ B L1 rInt j L2) : EV K M (tCB rGcd (tCons ta (tCons tb tNil))) σ B L rInt ((Nat.gcd i.natAbs j.natAbs : Nat) : Int) L2 :=
  ev_cb (ea_cons ha (ea_cons hb ea_nil)) fun B1 H1 vs Q w hv q => by
    match vs, hv with
    | [_, _], ⟨h1, h2, _⟩ => exact ⟨i, j, by rw [show _ = V.int i from h1, show _ = V.int j from h2], q _ rfl⟩
/-! ### tests, and, or, not -/
theorem et_test (h : EV K M te σ B L rBool b L') : ET K M (tTest te) σ B L b L' := fun B1 H e w Q q => h B1 H e w _ fun v B2 H2 e2 w2 hv => ⟨b, hv, q B2 H2 e2 w2⟩
theorem et_B (h : EV K M te σ B L rBool b L') : ET K M (tB te) σ B L b L' := fun B1 H e w Q q => h B1 H e w _ fun v B2 H2 e2 w2 hv => ⟨b, hv, q B2 H2 e2 w2⟩
theorem et_not (h : ET K M tt σ B L b L') : ET K M (tNot tt) σ B L (!b) L' := fun B1 H e w Q q => h B1 H e w _ fun B2 H2 e2 w2 => q B2 H2 e2 w2
theorem et_and {b c : Bool} (h1 : ET K M tt σ B L b L1) (h2 : b = true → ET K M tu σ B L1 c L1) : ET K M (tAnd tt tu) σ B L (b && c) L1 := fun B1 H e w Q q => h1 B1 H e w _ fun B2 H2 e2 w2 => by
  cases b with
  | true => exact h2 rfl B2 H2 (e.trans e2) w2 Q fun B3 H3 e3 w3 => q B3 H3 (e2.trans e3) w3
  | false => exact q B2 H2 e2 w2
theorem et_or {b c : Bool} (h1 : ET K M tt σ B L b L1) (h2 : b = false → ET K M tu σ B L1 c L1) : ET K M (tOr tt tu) σ B L (b || c) L1 := fun B1 H e w Q q => h1 B1 H e w _ fun B2 H2 e2 w2 => by
  cases b with
  | true => exact q B2 H2 e2 w2
  | false => exact h2 rfl B2 H2 (e.trans e2) w2 Q fun B3 H3 e3 w3 => q B3 H3 (e2.trans e3) w3
/-- where the right side changes things -/
theorem et_and' {b d : Bool} (h1 : ET K M tt σ B L b L1) (h2 : b = true → ET K M tu σ B L1 d L2) (h3 : b = false → d = false ∧ L2 = L1) : ET K M (tAnd tt tu) σ B L d L2 := fun B1 H e w Q q => h1 B1 H e w _ fun B2 H2 e2 w2 => by
  cases b with
  | true => exact h2 rfl B2 H2 (e.trans e2) w2 Q fun B3 H3 e3 w3 => q B3 H3 (e2.trans e3) w3
  | false => obtain ⟨rfl, rfl⟩ := h3 rfl; exact q B2 H2 e2 w2
theorem et_or' {b d : Bool} (h1 : ET K M tt σ B L b L1) (h2 : b = false → ET K M tu σ B L1 d L2) (h3 : b = true → d = true ∧ L2 = L1) : ET K M (tOr tt tu) σ B L d L2 := fun B1 H e w Q q => h1 B1 H e w _ fun B2 H2 e2 w2 => by
  cases b with
  | true => obtain ⟨rfl, rfl⟩ := h3 rfl; exact q B2 H2 e2 w2
  | false => exact h2 rfl B2 H2 (e.trans e2) w2 Q fun B3 H3 e3 w3 => q B3 H3 (e2.trans e3) w3
theorem ev_andV {b d : Bool} (h1 : EV K M ta σ B L rBool b L1) (h2 : b = true → EV K M tb σ B L1 rBool d L2) (h3 : b = false → d = false ∧ L2 = L1) : EV K M (tAndV ta tb) σ B L rBool d L2 := fun B1 H e w Q q => h1 B1 H e w _ fun x B2 H2 e2 w2 hx => ⟨b, hx, by
  cases b with
  | true => exact h2 rfl B2 H2 (e.trans e2) w2 Q fun v B3 H3 e3 w3 hv => q v B3 H3 (e2.trans e3) w3 hv
  | false => obtain ⟨rfl, rfl⟩ := h3 rfl; exact q _ B2 H2 e2 w2 rfl⟩
theorem ev_orV {b d : Bool} (h1 : EV K M ta σ B L rBool b L1) (h2 : b = false → EV K M tb σ B L1 rBool d L2) (h3 : b = true → d = true ∧ L2 = L1) : EV K M (tOrV ta tb) σ B L rBool d L2 := fun B1 H e w Q q => h1 B1 H e w _ fun x B2 H2 e2 w2 hx => ⟨b, hx, by
  cases b with
  | true => obtain ⟨rfl, rfl⟩ := h3 rfl; exact q _ B2 H2 e2 w2 rfl
  | false => exact h2 rfl B2 H2 (e.trans e2) w2 Q fun v B3 H3 e3 w3 hv => q v B3 H3 (e2.trans e3) w3 hv⟩
theorem ev_notV (h : EV K M ta σ B L rBool b L1) : EV K M (tNotV ta) σ B L rBool (!b) L1 := fun B1 H e w Q q => h B1 H e w _ fun x B2 H2 e2 w2 hx => ⟨b, hx, q _ B2 H2 e2 w2 rfl⟩
theorem ev_if {a : α} (h : ET K M tt σ B L b L1) (h1 : b = true → EV K M ta σ B L1 r a L2) (h2 : b = false → EV K M tb σ B L1 r a L2) : EV K M (tIf tt ta tb) σ B L r a L2 := fun B1 H e w Q q => h B1 H e w _ fun B2 H2 e2 w2 => by
  cases b with
  | true => exact h1 rfl B2 H2 (e.trans e2) w2 Q fun v B3 H3 e3 w3 hv => q v B3 H3 (e2.trans e3) w3 hv
  | false => exact h2 rfl B2 H2 (e.trans e2) w2 Q fun v B3 H3 e3 w3 hv => q v B3 H3 (e2.trans e3) w3 hv
end
end L3

namespace L3
open PySem L2
open Evl (Ex ex_rd ex_l ex_t sq_of st_of fresh_back)

/-! ### promises -/
def spV (K : Fg) (T : List Addr) (C : List Arg → List Cell → Arg → List Cell → Prop) : Sp := fun vs H Q _ => ∃ B M L as r L', M.T = T ∧ Own K B M L H ∧ ArgsIs K B vs as ∧ C as L r L' ∧
  ∀ v B' H', Ex B B' → Own K B' M L' H' → r.is K B' v → Q v H'
theorem args_len {K : Fg} {B : Hp} : ∀ {vs : List V} {as : List Arg}, ArgsIs K B vs as → vs.length = as.length
  | [], [], _ => rfl
  | _ :: _, _ :: _, h => congrArg (· + 1) (args_len h.2)
  | [], _ :: _, h => h.elim
  | _ :: _, [], h => h.elim
theorem FnScope.of {N ps : List Str} {sc : Scope} (h1 : sc.kind = .function) (h2 : sc.isCoroutine = false) (h3 : sc.isGenerator = false) (h : FnScope N ps sc) : FnScope N ps sc := h

section
variable {K : Fg} {M : Fr} {σ : St} {B : Hp} {L L1 L2 L' : List Cell} {α β γ δ : Type} {r : Rep α} {s : Rep β} {t : Rep γ} {ta tb tc te : TE} {tt tu : TT} {tA : TA} {i j k : Int} {b c : Bool}
theorem nodup_one {x : Cell} : ([x].map (·.p)).Nodup := by simp
/-- a def that changes nothing of ours -/
theorem ev_call {C : List Arg → List Cell → Arg → List Cell → Prop} {E : XK} {as : List Arg} {a : α} (ha : EA K M tA σ B L as L1) (h : C as [] ⟨r, a⟩ []) : EV K M (tCall (spV K M.T C) [] E tA) σ B L r a L1 := fun B1 H e w Q q =>
  ha B1 H e w _ fun vs B2 H2 e2 w2 hv => by
    show spV K M.T C (vs ++ []) H2 Q E
    rw [List.append_nil]
    refine ⟨B2, absorb M L1 H2, [], as, ⟨r, a⟩, [], rfl, w2.lend (L1 := []) (L2 := L1) (fun _ h => absurd h (by simp)) (fun _ h => h) (by simp) (fun _ h => absurd h (by simp)), hv, h, fun v B' H' e3 w3 hr => ?_⟩
    exact q v B' H' (e2.trans e3) (w2.back (L1' := []) (fun _ h => h) w2.nd e3 w3 (fun _ h => absurd h (by simp))) hr
theorem erase_mem {x : Cell} {n : Nat} (w : (L.map (·.p)).Nodup) (h : L[n]? = some x) : x.p ∉ (L.eraseIdx n).map (·.p) := fun hm => by
  obtain ⟨y, hy, e⟩ := List.mem_map.mp hm
  obtain ⟨j, hj, hne⟩ := List.mem_eraseIdx_iff_getElem?.mp hy
  exact hj (nodup_at w (by rw [List.getElem?_map, hne]; rfl) (by rw [List.getElem?_map, h]; exact congrArg some e.symm))
theorem set_perm {x x' : Cell} {n : Nat} (h : L[n]? = some x) : ∀ y ∈ L.set n x', y ∈ x' :: L.eraseIdx n := fun y hy => by
  obtain ⟨m, hm⟩ := List.getElem?_of_mem hy
  by_cases e : n = m
  · subst e
    rw [List.getElem?_set_self (List.getElem?_eq_some_iff.mp h).1] at hm
    cases hm
    exact List.mem_cons_self
  · rw [List.getElem?_set_ne e] at hm
    exact List.mem_cons_of_mem _ (List.mem_eraseIdx_iff_getElem?.mpr ⟨m, Ne.symm e, hm⟩)
theorem set_keys {x x' : Cell} {n : Nat} (h : L[n]? = some x) (hp : x'.p = x.p) : (L.set n x').map (·.p) = L.map (·.p) := by
  rw [List.map_set, hp]
  refine List.ext_getElem? fun j => ?_
  by_cases hij : n = j
  · subst hij
    have hl : n < (L.map (·.p)).length := by rw [List.length_map]; exact (List.getElem?_eq_some_iff.mp h).1
    rw [List.getElem?_set_self hl, List.getElem?_map, h]; rfl
  · rw [List.getElem?_set_ne hij]
/-- a def that changes the one at n -/
theorem ev_callC {C : List Arg → List Cell → Arg → List Cell → Prop} {E : XK} {as : List Arg} {a : α} (n : Nat) {x x' : Cell} (ha : EA K M tA σ B L as L1) (hx : L1[n]? = some x) (h : C as [x] ⟨r, a⟩ [x']) (hp : x'.p = x.p) : EV K M (tCall (spV K M.T C) [] E tA) σ B L r a (L1.set n x') := fun B1 H e w Q q =>
  ha B1 H e w _ fun vs B2 H2 e2 w2 hv => by
    show spV K M.T C (vs ++ []) H2 Q E
    rw [List.append_nil]
    have nd := w2.nd
    have hn := erase_mem nd hx
    have sub : ∀ y ∈ L1.eraseIdx n, y ∈ L1 := fun y hy => List.mem_of_mem_eraseIdx hy
    refine ⟨B2, absorb M (L1.eraseIdx n) H2, [x], as, ⟨r, a⟩, [x'], rfl, w2.lend (L1 := [x]) (L2 := L1.eraseIdx n) (fun y h => by rw [List.mem_singleton.mp h]; exact List.mem_of_getElem? hx) sub nodup_one (fun y h => by rw [List.mem_singleton.mp h]; exact hn), hv, h, fun v B' H' e3 w3 hr => ?_⟩
    have w4 : Own K B' M ([x'] ++ L1.eraseIdx n) H' := w2.back (L1' := [x']) sub (nd.sublist ((List.eraseIdx_sublist L1 n).map _)) e3 w3 (fun y h => by rw [List.mem_singleton.mp h, hp]; exact hn)
    exact q v B' H' (e2.trans e3) (w4.perm (set_perm hx) (by rw [set_keys hx hp]; exact nd)) hr

/-! ### statements -/
variable {D : Ends} {tz t1 t2 : TS} {H : Hp}
theorem q_asg {n : Nat} {a : α} (w : Own K B M L H) (h : EV K M te σ B L r a L') (q : ∀ v B' H', Ex B B' → Own K B' M L' H' → r.is K B' v a → tz D (σ.set n (some v)) H') : tSeq (tAsg te (gName n)) tz D σ H := h B H (Ex.refl _) w _ q
theorem q_asgL {n : Nat} {as : List α} (w : Own K B M L H) (h : EVL K M te σ B L r as L') (q : ∀ p B' H', Ex B B' → Own K B' M (⟨p, cLst r, as⟩ :: L') H' → tz D (σ.set n (some (.ref p))) H') : tSeq (tAsg te (gName n)) tz D σ H := h B H (Ex.refl _) w _ q
theorem q_drop {a : α} (w : Own K B M L H) (h : EV K M te σ B L r a L') (q : ∀ B' H', Ex B B' → Own K B' M L' H' → tz D σ H') : tSeq (tDrop te) tz D σ H := h B H (Ex.refl _) w _ fun _ B' H' e w' _ => q B' H' e w'
theorem q_ret {a : α} (w : Own K B M L H) (h : EV K M te σ B L r a L') (q : ∀ v B' H', Ex B B' → Own K B' M L' H' → r.is K B' v a → D.rt v H') : tSeq (tRet te) tz D σ H := h B H (Ex.refl _) w _ q
theorem q_retN (w : Own K B M L H) (q : D.rt .non H) : tSeq tRetN tz D σ H := q
/-- a list of ours goes out -/
theorem q_retC {n m : Nat} {p : Addr} {as : List α} (w : Own K B M L H) (hs : σ[m]? = some (some (.ref p))) (hc : L[n]? = some ⟨p, cLst r, as⟩) (q : ∀ v B', Ex B B' → Own K B' M (L.eraseIdx n) H → (rLst r).is K B' v as → D.rt v H) : tSeq (tRet (tVar m)) tz D σ H := by
  obtain ⟨o, h1, ⟨xs, h2, h3⟩, h4, w'⟩ := w.freeze hc
  have h4 : B p = none := h4
  refine ⟨_, hs, q _ _ (Ex.new h4) w' ⟨p, xs, rfl, ?_, paired_mono (Ex.new h4) h3⟩⟩
  show upd B p o p = _
  rw [upd_same, h2]
theorem q_if (w : Own K B M L H) (h : ET K M tt σ B L b L') (h1 : b = true → ∀ B' H', Ex B B' → Own K B' M L' H' → t1 { D with nx := tz D } σ H') (h2 : b = false → ∀ B' H', Ex B B' → Own K B' M L' H' → t2 { D with nx := tz D } σ H') : tSeq (tIfS tt t1 t2) tz D σ H :=
  h B H (Ex.refl _) w _ fun B' H' e w' => by
    cases b with
    | true => exact h1 rfl B' H' e w'
    | false => exact h2 rfl B' H' e w'
theorem q_ifc (w : Own K B M L H) (h : ET K M tt σ B L b L') (h1 : b = true → ∀ B' H', Ex B B' → Own K B' M L' H' → t1 D σ H') (h2 : b = false → ∀ B' H', Ex B B' → Own K B' M L' H' → t2 D σ H') : tIfS tt t1 t2 D σ H :=
  h B H (Ex.refl _) w _ fun B' H' e w' => by
    cases b with
    | true => exact h1 rfl B' H' e w'
    | false => exact h2 rfl B' H' e w'
theorem q_cut {t : TS} (Mid : St → Hp → Prop) (h : t { D with nx := Mid } σ H) (k : ∀ σ' H', Mid σ' H' → tz D σ' H') : Evl.tCut t tz D σ H := ⟨Mid, h, k⟩
theorem q_app {n m : Nat} {p : Addr} {as : List α} {a : α} (w : Own K B M L H) (hs : σ[m]? = some (some (.ref p))) (h : EV K M te σ B L r a L') (hc : L'[n]? = some ⟨p, cLst r, as⟩) (hc0 : ∃ n0 : Nat, ∃ a0 : List α, L[n0]? = some ⟨p, cLst r, a0⟩) (hr : room as.length = some ())
    (q : ∀ B' H', Ex B B' → Own K B' M (L'.set n ⟨p, cLst r, as ++ [a]⟩) H' → tz D σ H') : tSeq (tDrop (tBM K "list" rAppend (tVar m) (tCons te tNil))) tz D σ H := by
  obtain ⟨n0, a0, hc0⟩ := hc0
  obtain ⟨⟨o, h1, ys, h2, h3⟩, _⟩ := w.at hc0
  have h1 : H p = some o := h1
  refine ⟨_, hs, .inl ⟨rfl, _, sq_of (xs := ys) (by rw [h1, h2])⟩, h B H (Ex.refl _) w _ fun v B' H' e w' hv => ?_⟩
  obtain ⟨⟨o', g1, xs, g2, g3⟩, _⟩ := w'.at hc
  have g1 : H' p = some o' := g1
  exact ⟨p, xs, v, rfl, rfl, by rw [g1, g2], by rw [paired_len g3]; exact room_some hr, q B' _ e (w'.set hc ⟨_, rfl, paired_app g3 (.cons hv .nil)⟩)⟩
/-- l[i] = e -/
theorem q_setC {n m : Nat} {p : Addr} {as : List α} {a : α} {l : Nat} (w : Own K B M L H) (h : EV K M te σ B L r a L1) (hs : σ[m]? = some (some (.ref p))) (hb : EV K M tb σ B L1 rInt i L2) (hc : L2[n]? = some ⟨p, cLst r, as⟩) (hi : ixN as.length i = some l)
    (q : ∀ B' H', Ex B B' → Own K B' M (L2.set n ⟨p, cLst r, as.set l a⟩) H' → tz D σ H') : tSeq (tAsg te (gSub (tVar m) tb rSetL)) tz D σ H :=
  h B H (Ex.refl _) w _ fun v B1 H1 e1 w1 hv => ⟨_, hs, hb B1 H1 e1 w1 _ fun y B2 H2 e2 w2 hy => by
    obtain ⟨⟨o', g1, xs, g2, g3⟩, _⟩ := w2.at hc
    have g1 : H2 p = some o' := g1
    refine ⟨p, xs, i, l, rfl, hy, by rw [g1, g2], by rw [paired_len g3]; exact hi, q B2 _ (e1.trans e2) (w2.set hc ⟨_, rfl, paired_set (r.mono e2 hv) l g3⟩)⟩⟩
/-- l[1] = e of a list [u, v] -/
theorem q_set1 {n m : Nat} {p : Addr} {a : α × β} {x : β} (w : Own K B M L H) (h : EV K M te σ B L s x L1) (hs : σ[m]? = some (some (.ref p))) (hc : L1[n]? = some ⟨p, cL2 r s, a⟩)
    (q : ∀ B' H', Ex B B' → Own K B' M (L1.set n ⟨p, cL2 r s, (a.1, x)⟩) H' → tz D σ H') : tSeq (tAsg te (gSub (tVar m) (tC (.int 1)) rSetL)) tz D σ H :=
  h B H (Ex.refl _) w _ fun v B1 H1 e1 w1 hv => ⟨_, hs, by
    obtain ⟨⟨o', g1, x0, x1, g2, g3, g4⟩, _⟩ := w1.at hc
    have g1 : H1 p = some o' := g1
    exact ⟨p, [x0, x1], 1, 1, rfl, rfl, by rw [g1, g2], rfl, q B1 _ e1 (w1.set hc ⟨x0, v, rfl, g3, hv⟩)⟩⟩
theorem ev_l2fst {n m : Nat} {p : Addr} {a : α × β} (hs : σ[m]? = some (some (.ref p))) (hc : L[n]? = some ⟨p, cL2 r s, a⟩) : EV K M (tOp (rIx K) (tVar m) (tC (.int 0))) σ B L r a.1 L := fun B1 H e w Q q => by
  obtain ⟨⟨o', g1, x0, x1, g2, g3, g4⟩, _⟩ := w.at hc
  have g1 : H p = some o' := g1
  exact ⟨_, hs, .inl ⟨p, [x0, x1], 0, x0, rfl, rfl, sq_of (by rw [g1, g2]), rfl, q _ B1 H (Ex.refl _) w g3⟩⟩
theorem ev_l2snd {n m : Nat} {p : Addr} {a : α × β} (hs : σ[m]? = some (some (.ref p))) (hc : L[n]? = some ⟨p, cL2 r s, a⟩) : EV K M (tOp (rIx K) (tVar m) (tC (.int 1))) σ B L s a.2 L := fun B1 H e w Q q => by
  obtain ⟨⟨o', g1, x0, x1, g2, g3, g4⟩, _⟩ := w.at hc
  have g1 : H p = some o' := g1
  exact ⟨_, hs, .inl ⟨p, [x0, x1], 1, x1, rfl, rfl, sq_of (by rw [g1, g2]), rfl, q _ B1 H (Ex.refl _) w g4⟩⟩
/-- a new list [u, v] -/
theorem q_asgL2 {n : Nat} {a : α} {b : β} (w : Own K B M L H) (h : EA K M tA σ B L [⟨r, a⟩, ⟨s, b⟩] L') (q : ∀ p B' H', Ex B B' → Own K B' M (⟨p, cL2 r s, (a, b)⟩ :: L') H' → tz D (σ.set n (some (.ref p))) H') : tSeq (tAsg (tLst tA) (gName n)) tz D σ H :=
  h B H (Ex.refl _) w _ fun vs B' H' e w' hv => by
    match vs, hv with
    | [_, _], ⟨h1, h2, _⟩ => exact ⟨by show 2 ≤ sizeLine; decide, fun p hp => q p B' _ e (w'.new hp ⟨_, _, rfl, h1, h2⟩)⟩
theorem q_par {n m : Nat} {a : α} {b : β} (w : Own K B M L H) (h : EA K M tA σ B L [⟨r, a⟩, ⟨s, b⟩] L') (q : ∀ u v B' H', Ex B B' → Own K B' M L' H' → r.is K B' u a → s.is K B' v b → tz D ((σ.set n (some u)).set m (some v)) H') : tSeq (tPar n m tA) tz D σ H :=
  h B H (Ex.refl _) w _ fun vs B' H' e w' hv => by
    match vs, hv with
    | [_, _], ⟨h1, h2, _⟩ => exact ⟨_, _, rfl, q _ _ B' H' e w' h1 h2⟩

/-! ### loops -/
inductive Stp (S R : Type) where
  | nx (s : S)
  | bk (s : S)
  | rt (r : R)
def loopM {S R α : Type} (f : S → α → Option (Stp S R)) : S → List α → Option (Stp S R)
  | s, [] => some (.nx s)
  | s, x :: xs => match f s x with
    | some (.nx s') => loopM f s' xs
    | o => o
def foldO {S α : Type} (f : S → α → Option S) : S → List α → Option S
  | s, [] => some s
  | s, x :: xs => match f s x with
    | some s' => foldO f s' xs
    | none => none
theorem loop_fold {S R α : Type} (f : S → α → Option S) : ∀ (xs : List α) (s : S), loopM (R := R) (fun s x => (f s x).map Stp.nx) s xs = (foldO f s xs).map Stp.nx
  | [], _ => rfl
  | x :: xs, s => by
    unfold loopM foldO
    cases f s x with
    | none => rfl
    | some s' => exact loop_fold f xs s'
/-- what is walked: xs, item by item, whatever is ours -/
structure Wk (K : Fg) (M : Fr) (J : It) (B : Hp) (r : Rep α) (xs : List α) : Prop where
  go : ∀ (i : Nat) a B' L' H', Ex B B' → Own K B' M L' H' → xs[i]? = some a → J.go i H' ∧ ∀ x H2, J.yld i H' x H2 → ∃ B2, Ex B' B2 ∧ Own K B2 M L' H2 ∧ r.is K B2 x a
  stop : ∀ B' L' H', Ex B B' → Own K B' M L' H' → J.stop xs.length H'
def EI (K : Fg) (M : Fr) (wi : TI) (σ : St) (B : Hp) (L : List Cell) (r : Rep α) (xs : List α) (L' : List Cell) : Prop :=
  ∀ B1 H, Ex B B1 → Own K B1 M L H → ∀ R : It → Hp → Prop, (∀ J B2 H2, Ex B1 B2 → Own K B2 M L' H2 → Wk K M J B2 r xs → R J H2) → wi σ H R
theorem ei_tup {xs : List α} (h : EV K M te σ B L (rTup r) xs L') : EI K M (iTup K te) σ B L r xs L' := fun B1 H e w R q => h B1 H e w _ fun v B2 H2 e2 w2 hv => by
  obtain ⟨p, vs, rfl, hs, hp⟩ := hv
  refine ⟨p, rfl, ⟨vs, ex_t w2.b hs⟩, q _ B2 H2 e2 w2 ⟨fun i a B' L' H' e' w' hi => ?_, fun B' L' H' e' w' => ⟨vs, ex_t (e'.trans w'.b) hs, by rw [paired_len hp]; exact Nat.le_refl _⟩⟩⟩
  obtain ⟨x, hx, hr⟩ := paired_get hp hi
  refine ⟨⟨vs, x, ex_t (e'.trans w'.b) hs, hx⟩, fun y H3 hy => ?_⟩
  obtain ⟨rfl, hy⟩ := hy
  have := hy vs (ex_t (e'.trans w'.b) hs)
  rw [hx] at this
  cases this
  exact ⟨B', Ex.refl _, w', r.mono e' hr⟩
theorem ei_scr {xs : List α} (h : EV K M te σ B L (rScr r) xs L') : EI K M (iList K te) σ B L r xs L' := fun B1 H e w R q => h B1 H e w _ fun v B2 H2 e2 w2 hv => by
  obtain ⟨p, vs, rfl, hs, hp⟩ := hv
  refine ⟨p, rfl, ⟨vs, ex_l w2.b hs⟩, q _ B2 H2 e2 w2 ⟨fun i a B' L' H' e' w' hi => ?_, fun B' L' H' e' w' => ⟨vs, ex_l (e'.trans w'.b) hs, by rw [paired_len hp]; exact Nat.le_refl _⟩⟩⟩
  obtain ⟨x, hx, hr⟩ := paired_get hp hi
  refine ⟨⟨vs, x, ex_l (e'.trans w'.b) hs, hx⟩, fun y H3 hy => ?_⟩
  obtain ⟨rfl, hy⟩ := hy
  have := hy vs (ex_l (e'.trans w'.b) hs)
  rw [hx] at this
  cases this
  exact ⟨B', Ex.refl _, w', r.mono e' hr⟩
theorem ei_lst {xs : List α} (h : EV K M te σ B L (rLst r) xs L') : EI K M (iList K te) σ B L r xs L' := ei_scr (ev_scr h)
/-- lo, lo + 1, .. below hi -/
def rng (lo hi : Int) : List Int := (List.range (hi - lo).toNat).map fun (k : Nat) => lo + (k : Int)
theorem rng_len (lo hi : Int) : (rng lo hi).length = (hi - lo).toNat := by simp [rng]
theorem rng_get {lo hi : Int} {i : Nat} {a : Int} (h : (rng lo hi)[i]? = some a) : i < (hi - lo).toNat ∧ a = lo + (i : Int) := by
  unfold rng at h
  rw [List.getElem?_map] at h
  cases e : (List.range (hi - lo).toNat)[i]? with
  | none => rw [e] at h; cases h
  | some k =>
    rw [e] at h
    obtain ⟨h1, h2⟩ := List.getElem?_eq_some_iff.mp e
    rw [List.getElem_range] at h2
    rw [List.length_range] at h1
    subst h2
    exact ⟨h1, (Option.some.inj h).symm⟩
def small62 (i : Int) : Option Unit := if -(2 ^ 62) ≤ i ∧ i < 2 ^ 62 then some () else none
theorem small62_some {u : Unit} (h : small62 i = some u) : -(2 ^ 62) ≤ i ∧ i < 2 ^ 62 := by
  unfold small62 at h
  split at h
  · assumption
  · cases h
theorem wk_rng {lo hi : Int} : Wk K M (Itr lo (hi - lo).toNat) B rInt (rng lo hi) :=
  ⟨fun i a B' L' H' e' w' hi => by
    obtain ⟨h1, rfl⟩ := rng_get hi
    exact ⟨h1, fun x H2 hy => ⟨B', Ex.refl _, by rw [hy.1]; exact w', hy.2⟩⟩, fun B' L' H' e' w' => by rw [rng_len]; exact Nat.le_refl _⟩
theorem ei_rng1 (h : EA K M tA σ B L [⟨rInt, j⟩] L') (hj : small62 j = some ()) : EI K M (iRng1 tA) σ B L rInt (rng 0 j) L' := fun B1 H e w R q => h B1 H e w _ fun vs B2 H2 e2 w2 hv => by
  match vs, hv with
  | [_], ⟨h1, _⟩ =>
    refine ⟨j, by rw [show _ = V.int j from h1], (small62_some hj).1, (small62_some hj).2, q _ B2 H2 e2 w2 ?_⟩
    have := wk_rng (K := K) (M := M) (B := B2) (lo := 0) (hi := j)
    rw [show j - 0 = j by omega] at this
    exact this
theorem ei_rng2 (h : EA K M tA σ B L [⟨rInt, i⟩, ⟨rInt, j⟩] L') (hi : small62 i = some ()) (hj : small62 j = some ()) : EI K M (iRng2 tA) σ B L rInt (rng i j) L' := fun B1 H e w R q => h B1 H e w _ fun vs B2 H2 e2 w2 hv => by
  match vs, hv with
  | [_, _], ⟨h1, h2, _⟩ => exact ⟨i, j, by rw [show _ = V.int i from h1, show _ = V.int j from h2], ⟨(small62_some hi).1, (small62_some hi).2, (small62_some hj).1, (small62_some hj).2⟩, q _ B2 H2 e2 w2 wk_rng⟩

theorem loopM_drop {S R : Type} {f : S → α → Option (Stp S R)} {s s' : S} {xs : List α} {i : Nat} {a : α} (h : xs[i]? = some a) : loopM f s (xs.drop i) = (match f s a with | some (.nx s') => loopM f s' (xs.drop (i + 1)) | o => o) := by
  obtain ⟨h1, h2⟩ := List.getElem?_eq_some_iff.mp h
  rw [List.drop_eq_getElem_cons h1, h2]
  rfl
theorem q_for {S R : Type} {wi : TI} {g : TG} {tb : TS} {xs : List α} (w : Own K B M L H) (hi : EI K M wi σ B L r xs L1) (f : S → α → Option (Stp S R)) (P : S → Hp → St → Prop) (Lf : S → List Cell) (s0 : S) {o : Stp S R} (hm : loopM f s0 xs = some o)
    (h0 : ∀ B', Ex B B' → P s0 B' σ) (hL : Lf s0 = L1)
    (hs : ∀ s x st v B0 B' H' σ', f s x = some st → Ex B B0 → P s B0 σ' → Ex B0 B' → Own K B' M (Lf s) H' → r.is K B' v x → (∀ q, st = .rt q → o = .rt q) → ∀ (N : St → Hp → Prop) (BK : St → Hp → Prop),
      (∀ s3 B3 H3 σ3, st = .nx s3 → Ex B' B3 → Own K B3 M (Lf s3) H3 → P s3 B3 σ3 → N σ3 H3) → (∀ s3 B3 H3 σ3, st = .bk s3 → Ex B' B3 → Own K B3 M (Lf s3) H3 → P s3 B3 σ3 → BK σ3 H3) →
      g v σ' H' fun σ2 H2 => tb { D with nx := N, ct := N, bk := BK } σ2 H2)
    (hd : ∀ s B' H' σ', (o = .nx s ∨ o = .bk s) → Ex B B' → Own K B' M (Lf s) H' → P s B' σ' → tz D σ' H') : tSeq (tFor wi g tb) tz D σ H :=
  hi B H (Ex.refl _) w _ fun J B1 H1 e1 w1 k => by
    refine ⟨fun i m σ' H' => m = xs.length - i ∧ i ≤ xs.length ∧ ∃ s B', Ex B1 B' ∧ Own K B' M (Lf s) H' ∧ P s B' σ' ∧ loopM f s (xs.drop i) = some o, ⟨xs.length, by simp, Nat.zero_le _, s0, B1, Ex.refl _, by rw [hL]; exact w1, h0 B1 e1, hm⟩, ?_⟩
    rintro i m σ' H' ⟨rfl, hle, s, B', e', w', hP, hl⟩
    by_cases hlt : i < xs.length
    · right
      obtain ⟨a, ha⟩ : ∃ a, xs[i]? = some a := ⟨xs[i], List.getElem?_eq_getElem hlt⟩
      obtain ⟨hgo, hy⟩ := k.go i a B' _ H' e' w' ha
      rw [loopM_drop (s' := s) ha] at hl
      cases hst : f s a with
      | none => rw [hst] at hl; cases hl
      | some st =>
        rw [hst] at hl
        refine ⟨hgo, fun σ3 H3 => ∃ s3 B3, st = .nx s3 ∧ Ex B1 B3 ∧ Own K B3 M (Lf s3) H3 ∧ P s3 B3 σ3, fun σ3 H3 ⟨s3, B3, e3, a1, a2, a3⟩ => ?_, fun x H2 hy2 => ?_⟩
        · subst e3
          exact ⟨_, (by omega : xs.length - (i + 1) < xs.length - i), rfl, hlt, s3, B3, a1, a2, a3, hl⟩
        · obtain ⟨B2, e2, w2, hr⟩ := hy x H2 hy2
          refine hs s a st x B' B2 H2 σ' hst (e1.trans e') hP e2 w2 hr (fun q e => by rw [e] at hl; exact (Option.some.inj hl).symm) _ _ (fun s3 B3 H3 σ3 e3 e4 w3 p3 => ⟨s3, B3, e3, (e'.trans e2).trans e4, w3, p3⟩) (fun s3 B3 H3 σ3 e3 e4 w3 p3 => ?_)
          rw [e3] at hl
          exact hd s3 B3 H3 σ3 (.inr (Option.some.inj hl).symm) (((e1.trans e').trans e2).trans e4) w3 p3
    · left
      have : i = xs.length := by omega
      subst this
      rw [List.drop_length] at hl
      have ho : o = .nx s := (Option.some.inj hl).symm
      exact ⟨k.stop B' _ H' e' w', hd s B' H' σ' (.inl ho) (e1.trans e') w' hP⟩
end
end L3

namespace L3
open PySem L2
open Evl (Ex ex_rd ex_l ex_t sq_of st_of fresh_back)

theorem args1 {K : Fg} {B : Hp} {vs : List V} {x : Arg} (h : ArgsIs K B vs [x]) : ∃ u, vs = [u] ∧ x.is K B u := by
  match vs, h with
  | [_], ⟨h1, _⟩ => exact ⟨_, rfl, h1⟩
theorem args2 {K : Fg} {B : Hp} {vs : List V} {x y : Arg} (h : ArgsIs K B vs [x, y]) : ∃ u v, vs = [u, v] ∧ x.is K B u ∧ y.is K B v := by
  match vs, h with
  | [_, _], ⟨h1, h2, _⟩ => exact ⟨_, _, rfl, h1, h2⟩
theorem args3 {K : Fg} {B : Hp} {vs : List V} {x y z : Arg} (h : ArgsIs K B vs [x, y, z]) : ∃ u v w, vs = [u, v, w] ∧ x.is K B u ∧ y.is K B v ∧ z.is K B w := by
  match vs, h with
  | [_, _, _], ⟨h1, h2, h3, _⟩ => exact ⟨_, _, _, rfl, h1, h2, h3⟩
theorem args4 {K : Fg} {B : Hp} {vs : List V} {x y z a : Arg} (h : ArgsIs K B vs [x, y, z, a]) : ∃ u v w t, vs = [u, v, w, t] ∧ x.is K B u ∧ y.is K B v ∧ z.is K B w ∧ a.is K B t := by
  match vs, h with
  | [_, _, _, _], ⟨h1, h2, h3, h4, _⟩ => exact ⟨_, _, _, _, rfl, h1, h2, h3, h4⟩
theorem args5 {K : Fg} {B : Hp} {vs : List V} {x y z a b : Arg} (h : ArgsIs K B vs [x, y, z, a, b]) : ∃ u v w t s, vs = [u, v, w, t, s] ∧ x.is K B u ∧ y.is K B v ∧ z.is K B w ∧ a.is K B t ∧ b.is K B s := by
  match vs, h with
  | [_, _, _, _, _], ⟨h1, h2, h3, h4, h5, _⟩ => exact ⟨_, _, _, _, _, rfl, h1, h2, h3, h4, h5⟩
theorem args6 {K : Fg} {B : Hp} {vs : List V} {x y z a b c : Arg} (h : ArgsIs K B vs [x, y, z, a, b, c]) : ∃ u v w t s r, vs = [u, v, w, t, s, r] ∧ x.is K B u ∧ y.is K B v ∧ z.is K B w ∧ a.is K B t ∧ b.is K B s ∧ c.is K B r := by
  match vs, h with
  | [_, _, _, _, _, _], ⟨h1, h2, h3, h4, h5, h6, _⟩ => exact ⟨_, _, _, _, _, _, rfl, h1, h2, h3, h4, h5, h6⟩
/-- a constant of the module -/
structure GV (K : Fg) (mg : Str → Option Value) (x : Str) {α : Type} (r : Rep α) (a : α) : Prop where
  ex : ∃ (u : Value) (v : V), mg x = some u ∧ RelV v u ∧ ∀ B, r.is K B v a
def absI (i : Int) : Int := if i < 0 then -i else i
def gcdI (i j : Int) : Int := ((Nat.gcd i.natAbs j.natAbs : Nat) : Int)
def ixO (n : Nat) (i : Int) : Option Nat := ixN n i

section
variable {K : Fg} {M : Fr} {σ : St} {B : Hp} {L L1 L2 L' : List Cell} {α β γ δ : Type} {r : Rep α} {s : Rep β} {t : Rep γ} {ta tb tc te : TE} {tt tu : TT} {tA : TA} {i j k : Int} {b c : Bool}
theorem ev_add (ha : EV K M ta σ B L rInt i L1) (hb : EV K M tb σ B L1 rInt j L2) : EV K M (tOp (rI0 fun i j => .int (i + j)) ta tb) σ B L rInt (i + j) L2 := ev_I0 (g := fun i j => i + j) ha hb
theorem ev_sub (ha : EV K M ta σ B L rInt i L1) (hb : EV K M tb σ B L1 rInt j L2) : EV K M (tOp (rI0 fun i j => .int (i - j)) ta tb) σ B L rInt (i - j) L2 := ev_I0 (g := fun i j => i - j) ha hb
theorem ev_bitand (ha : EV K M ta σ B L rInt i L1) (hb : EV K M tb σ B L1 rInt j L2) : EV K M (tOp (rI0 fun i j => .int (Builtin.bitAnd i j)) ta tb) σ B L rInt (Builtin.bitAnd i j) L2 := ev_I0 (g := fun i j => Builtin.bitAnd i j) ha hb
abbrev rLt : R2 := rI0 fun i j => .bl (decide (i < j))
abbrev rLe : R2 := rI0 fun i j => .bl (decide (i ≤ j))
abbrev rGt : R2 := rI0 fun i j => .bl (decide (j < i))
abbrev rGe : R2 := rI0 fun i j => .bl (decide (j ≤ i))
theorem ev_lt (ha : EV K M ta σ B L rInt i L1) (hb : EV K M tb σ B L1 rInt j L2) : EV K M (tOp rLt ta tb) σ B L rBool (decide (i < j)) L2 := ev_B0 (g := fun i j => decide (i < j)) ha hb
theorem ev_le (ha : EV K M ta σ B L rInt i L1) (hb : EV K M tb σ B L1 rInt j L2) : EV K M (tOp rLe ta tb) σ B L rBool (decide (i ≤ j)) L2 := ev_B0 (g := fun i j => decide (i ≤ j)) ha hb
theorem ev_gt (ha : EV K M ta σ B L rInt i L1) (hb : EV K M tb σ B L1 rInt j L2) : EV K M (tOp rGt ta tb) σ B L rBool (decide (i > j)) L2 := ev_B0 (g := fun i j => decide (j < i)) ha hb
theorem ev_ge (ha : EV K M ta σ B L rInt i L1) (hb : EV K M tb σ B L1 rInt j L2) : EV K M (tOp rGe ta tb) σ B L rBool (decide (i ≥ j)) L2 := ev_B0 (g := fun i j => decide (j ≤ i)) ha hb
theorem ev_ch {g g' : Int → Int → Bool} (ha : EV K M ta σ B L rInt i L1) (hb : EV K M tb σ B L1 rInt j L2) (hc : EV K M tc σ B L2 rInt k L2) : EV K M (tChain (rI0 fun i j => .bl (g i j)) (rI0 fun i j => .bl (g' i j)) ta tb tc) σ B L rBool (g i j && g' j k) L2 := fun B1 H e w Q q =>
  ha B1 H e w _ fun x B2 H2 e2 w2 hx => hb B2 H2 (e.trans e2) w2 _ fun y B3 H3 e3 w3 hy => ⟨i, j, hx, hy, g i j, rfl, by
    cases hg : g i j with
    | true => exact hc B3 H3 ((e.trans e2).trans e3) w3 _ fun z B4 H4 e4 w4 hz => ⟨j, k, hy, hz, q _ B4 H4 ((e2.trans e3).trans e4) w4 (by show V.bl _ = V.bl _; rw [hg]; rfl)⟩
    | false => exact q _ B3 H3 (e2.trans e3) w3 (by show V.bl _ = V.bl _; rw [hg]; rfl)⟩
theorem ev_ch_lt_lt (ha : EV K M ta σ B L rInt i L1) (hb : EV K M tb σ B L1 rInt j L2) (hc : EV K M tc σ B L2 rInt k L2) : EV K M (tChain rLt rLt ta tb tc) σ B L rBool (decide (i < j) && decide (j < k)) L2 := ev_ch (g := fun i j => decide (i < j)) (g' := fun i j => decide (i < j)) ha hb hc
theorem ev_ch_le_lt (ha : EV K M ta σ B L rInt i L1) (hb : EV K M tb σ B L1 rInt j L2) (hc : EV K M tc σ B L2 rInt k L2) : EV K M (tChain rLe rLt ta tb tc) σ B L rBool (decide (i ≤ j) && decide (j < k)) L2 := ev_ch (g := fun i j => decide (i ≤ j)) (g' := fun i j => decide (i < j)) ha hb hc
theorem ev_ch_lt_le (ha : EV K M ta σ B L rInt i L1) (hb : EV K M tb σ B L1 rInt j L2) (hc : EV K M tc σ B L2 rInt k L2) : EV K M (tChain rLt rLe ta tb tc) σ B L rBool (decide (i < j) && decide (j ≤ k)) L2 := ev_ch (g := fun i j => decide (i < j)) (g' := fun i j => decide (i ≤ j)) ha hb hc
theorem ev_ch_le_le (ha : EV K M ta σ B L rInt i L1) (hb : EV K M tb σ B L1 rInt j L2) (hc : EV K M tc σ B L2 rInt k L2) : EV K M (tChain rLe rLe ta tb tc) σ B L rBool (decide (i ≤ j) && decide (j ≤ k)) L2 := ev_ch (g := fun i j => decide (i ≤ j)) (g' := fun i j => decide (i ≤ j)) ha hb hc
theorem ev_and0 {d : Bool} (h1 : EV K M ta σ B L rBool b L1) (h2 : b = true → EV K M tb σ B L1 rBool d L1) : EV K M (tAndV ta tb) σ B L rBool (b && d) L1 := fun B1 H e w Q q => h1 B1 H e w _ fun x B2 H2 e2 w2 hx => ⟨b, hx, by
  cases b with
  | true => exact h2 rfl B2 H2 (e.trans e2) w2 Q fun v B3 H3 e3 w3 hv => q v B3 H3 (e2.trans e3) w3 hv
  | false => exact q _ B2 H2 e2 w2 rfl⟩
theorem ev_or0 {d : Bool} (h1 : EV K M ta σ B L rBool b L1) (h2 : b = false → EV K M tb σ B L1 rBool d L1) : EV K M (tOrV ta tb) σ B L rBool (b || d) L1 := fun B1 H e w Q q => h1 B1 H e w _ fun x B2 H2 e2 w2 hx => ⟨b, hx, by
  cases b with
  | true => exact q _ B2 H2 e2 w2 rfl
  | false => exact h2 rfl B2 H2 (e.trans e2) w2 Q fun v B3 H3 e3 w3 hv => q v B3 H3 (e2.trans e3) w3 hv⟩
/-! ### targets -/
variable {H : Hp} {Qs : St → Hp → Prop} {g : TG} {gs : TGs}
theorem g_T2 {a : α × β} {v : V} {gs : TGs} (h : (rT2 r s).is K B v a) (w : Own K B M L H) (q : ∀ x y, r.is K B x a.1 → s.is K B y a.2 → gs [x, y] σ H Qs) : gTup K 2 gs v σ H Qs := by
  obtain ⟨p, x, y, rfl, h1, h2, h3⟩ := h
  exact ⟨p, _, rfl, ex_t w.b h1, rfl, q x y h2 h3⟩
theorem g_T3 {a : α × β × γ} {v : V} {gs : TGs} (h : (rT3 r s t).is K B v a) (w : Own K B M L H) (q : ∀ x y z, r.is K B x a.1 → s.is K B y a.2.1 → t.is K B z a.2.2 → gs [x, y, z] σ H Qs) : gTup K 3 gs v σ H Qs := by
  obtain ⟨p, x, y, z, rfl, h1, h2, h3, h4⟩ := h
  exact ⟨p, _, rfl, ex_t w.b h1, rfl, q x y z h2 h3 h4⟩
theorem g_cons {v : V} {vs : List V} (h : g v σ H fun σ' H' => gs vs σ' H' Qs) : gCons g gs (v :: vs) σ H Qs := ⟨v, vs, rfl, h⟩
theorem g_name {n : Nat} {v : V} (h : Qs (σ.set n (some v)) H) : gName n v σ H Qs := h
theorem g_nil (h : Qs σ H) : gNil [] σ H Qs := ⟨rfl, h⟩
/-! ### more statements -/
variable {D : Ends} {tz t1 t2 : TS}
theorem q_aug {n : Nat} {v : V} {f : Int → Int → Int} (w : Own K B M L H) (hs : σ[n]? = some (some v)) (hv : v = .int i) (h : EV K M te σ B L rInt j L') (q : ∀ v B' H', Ex B B' → Own K B' M L' H' → rInt.is K B' v (f i j) → tz D (σ.set n (some v)) H') : tSeq (tAug n te (ipI f)) tz D σ H :=
  ⟨v, hs, h B H (Ex.refl _) w _ fun y B' H' e w' hy => ⟨i, j, hv, hy, q _ B' H' e w' rfl⟩⟩
theorem q_unp {a : α} (w : Own K B M L H) (h : EV K M te σ B L r a L') (q : ∀ v B' H', Ex B B' → Own K B' M L' H' → r.is K B' v a → g v σ H' (tz D)) : tSeq (tAsg te g) tz D σ H := h B H (Ex.refl _) w _ q
def Stp.out {S R : Type} : Stp S R → S ⊕ R
  | .nx s => .inl s
  | .bk s => .inl s
  | .rt q => .inr q
def Stp.st {S : Type} : Stp S Empty → S
  | .nx s => s
  | .bk s => s
  | .rt q => nomatch q
def loopR {S R α : Type} (f : S → α → Option (Stp S R)) (s : S) (xs : List α) : Option (S ⊕ R) := (loopM f s xs).map Stp.out
def loopB {S α : Type} (f : S → α → Option (Stp S Empty)) (s : S) (xs : List α) : Option S := (loopM f s xs).map Stp.st
theorem q_forR {S R : Type} {wi : TI} {g : TG} {tb : TS} {xs : List α} (w : Own K B M L H) (hi : EI K M wi σ B L r xs L1) (f : S → α → Option (Stp S R)) (P : S → Hp → St → Prop) (Lf : S → List Cell) (s0 : S) {o : S ⊕ R} (hm : loopR f s0 xs = some o)
    (h0 : ∀ B', Ex B B' → P s0 B' σ) (hL : Lf s0 = L1)
    (hs : ∀ s x st v B0 B' H' σ', f s x = some st → Ex B B0 → P s B0 σ' → Ex B0 B' → Own K B' M (Lf s) H' → r.is K B' v x → (∀ q, st = .rt q → o = .inr q) → ∀ (N : St → Hp → Prop) (BK : St → Hp → Prop),
      (∀ s3 B3 H3 σ3, st = .nx s3 → Ex B' B3 → Own K B3 M (Lf s3) H3 → P s3 B3 σ3 → N σ3 H3) → (∀ s3 B3 H3 σ3, st = .bk s3 → Ex B' B3 → Own K B3 M (Lf s3) H3 → P s3 B3 σ3 → BK σ3 H3) →
      g v σ' H' fun σ2 H2 => tb { D with nx := N, ct := N, bk := BK } σ2 H2)
    (hd : ∀ s B' H' σ', o = .inl s → Ex B B' → Own K B' M (Lf s) H' → P s B' σ' → tz D σ' H') : tSeq (tFor wi g tb) tz D σ H := by
  unfold loopR at hm
  cases h : loopM f s0 xs with
  | none => rw [h] at hm; cases hm
  | some o' =>
    rw [h] at hm
    have hm : o'.out = o := Option.some.inj hm
    refine q_for w hi f P Lf s0 h h0 hL (fun s x st v B0 B' H' σ' a1 a2 a3 a4 a5 a6 a7 => hs s x st v B0 B' H' σ' a1 a2 a3 a4 a5 a6 fun q e => ?_) fun s B' H' σ' a1 => hd s B' H' σ' ?_
    · rw [← hm, a7 q e]; rfl
    · rcases a1 with rfl | rfl
      · exact hm.symm
      · exact hm.symm
theorem q_forB {S : Type} {wi : TI} {g : TG} {tb : TS} {xs : List α} (w : Own K B M L H) (hi : EI K M wi σ B L r xs L1) (f : S → α → Option (Stp S Empty)) (P : S → Hp → St → Prop) (Lf : S → List Cell) (s0 : S) {s1 : S} (hm : loopB f s0 xs = some s1)
    (h0 : ∀ B', Ex B B' → P s0 B' σ) (hL : Lf s0 = L1)
    (hs : ∀ s x st v B0 B' H' σ', f s x = some st → Ex B B0 → P s B0 σ' → Ex B0 B' → Own K B' M (Lf s) H' → r.is K B' v x → ∀ (N : St → Hp → Prop) (BK : St → Hp → Prop),
      (∀ s3 B3 H3 σ3, st = .nx s3 → Ex B' B3 → Own K B3 M (Lf s3) H3 → P s3 B3 σ3 → N σ3 H3) → (∀ s3 B3 H3 σ3, st = .bk s3 → Ex B' B3 → Own K B3 M (Lf s3) H3 → P s3 B3 σ3 → BK σ3 H3) →
      g v σ' H' fun σ2 H2 => tb { D with nx := N, ct := N, bk := BK } σ2 H2)
    (hd : ∀ B' H' σ', Ex B B' → Own K B' M (Lf s1) H' → P s1 B' σ' → tz D σ' H') : tSeq (tFor wi g tb) tz D σ H := by
  unfold loopB at hm
  cases h : loopM f s0 xs with
  | none => rw [h] at hm; cases hm
  | some o' =>
    rw [h] at hm
    have hm : o'.st = s1 := Option.some.inj hm
    refine q_for w hi f P Lf s0 h h0 hL (fun s x st v B0 B' H' σ' a1 a2 a3 a4 a5 a6 _ => hs s x st v B0 B' H' σ' a1 a2 a3 a4 a5 a6) fun s B' H' σ' a1 => ?_
    have e : s1 = s := by
      rcases a1 with rfl | rfl
      · exact hm.symm
      · exact hm.symm
    subst e
    exact hd B' H' σ'
theorem q_fold {S : Type} {wi : TI} {g : TG} {tb : TS} {xs : List α} (w : Own K B M L H) (hi : EI K M wi σ B L r xs L1) (f : S → α → Option S) (P : S → Hp → St → Prop) (Lf : S → List Cell) (s0 : S) {s1 : S} (hm : foldO f s0 xs = some s1)
    (h0 : ∀ B', Ex B B' → P s0 B' σ) (hL : Lf s0 = L1)
    (hs : ∀ s x s' v B0 B' H' σ', f s x = some s' → Ex B B0 → P s B0 σ' → Ex B0 B' → Own K B' M (Lf s) H' → r.is K B' v x → ∀ (N : St → Hp → Prop) (BK : St → Hp → Prop),
      (∀ B3 H3 σ3, Ex B' B3 → Own K B3 M (Lf s') H3 → P s' B3 σ3 → N σ3 H3) →
      g v σ' H' fun σ2 H2 => tb { D with nx := N, ct := N, bk := BK } σ2 H2)
    (hd : ∀ B' H' σ', Ex B B' → Own K B' M (Lf s1) H' → P s1 B' σ' → tz D σ' H') : tSeq (tFor wi g tb) tz D σ H := by
  have h := loop_fold (R := Empty) f xs s0
  rw [hm] at h
  refine q_for w hi _ P Lf s0 h h0 hL (fun s x st v B0 B' H' σ' a1 a2 a3 a4 a5 a6 _ N BK hN hB => ?_) fun s B' H' σ' a1 => ?_
  · cases e : f s x with
    | none => rw [e] at a1; cases a1
    | some s' =>
      rw [e] at a1
      have a1 : st = .nx s' := (Option.some.inj a1).symm
      exact hs s x s' v B0 B' H' σ' e a2 a3 a4 a5 a6 N BK fun B3 H3 σ3 => hN s' B3 H3 σ3 a1
  · have e : s1 = s := by
      rcases a1 with h | h
      · cases h; rfl
      · cases h
    subst e
    exact hd B' H' σ'
end
/-- a def that may be called by its name -/
structure Cl (P : Program) (w : World) (K : Fg) (mg : Str → Option Value) (base : Heap) (k : Nat) (x : Str) (sp : Sp) (dvs : List V) : Prop where
  ex : ∃ (f : Addr) (fd : FuncData) (ps : List Str) (ds : List Value), FnOk P w K mg base CX0 k f fd ps sp ∧ mg x = some (.ref f) ∧ PySem.W.keepIn K (.ref f) = true ∧ Binds K fd ps ds ∧ Vals dvs ds
theorem pe_c {X : Cx} {k j : Nat} {x : Str} {sp : Sp} {dvs : List V} {p pos : Pos} {e : Expr} {es : List Expr} {t : TA} (c : Cl X.prog X.w X.K X.mg X.base k x sp dvs) (hr : Room j X.A) (hk : k ≤ j) (hg : Gl X x) (ha : PA X (e :: es) t)
    (hdb : (x == ("__debug__" : Str)) = false := by decide) (he : starEach (e :: es) X.env = (false, eval e X.env) :: starEach es X.env := by rfl) (hpl : (backTo pos (starEach es X.env)).any (·.1) = false := by rfl) :
    PE X (.Call (.Name x p) (e :: es) [] pos) (tCall sp dvs E0 t) := by
  obtain ⟨f, fd, ps, ds, F, hm, kp, b, d⟩ := c.ex
  exact pe_call F (hr.mono hk) hg hm kp b d pass0 ha hdb he hpl
theorem bt_len : bootBuiltins "len" = some (.builtin "len") := by decide +kernel
theorem bt_abs : bootBuiltins "abs" = some (.builtin "abs") := by decide +kernel
theorem bt_int : bootBuiltins "int" = some (.type "int") := by decide +kernel
theorem bt_isinstance : bootBuiltins "isinstance" = some (.builtin "isinstance") := by decide +kernel
theorem bt_sum : bootBuiltins "sum" = some (.builtin "sum") := by decide +kernel
theorem bt_any : bootBuiltins "any" = some (.builtin "any") := by decide +kernel
theorem bt_all : bootBuiltins "all" = some (.builtin "all") := by decide +kernel
theorem bt_list : bootBuiltins "list" = some (.type "list") := by decide +kernel
theorem bt_bool : bootBuiltins "bool" = some (.type "bool") := by decide +kernel
theorem bt_tuple : bootBuiltins "tuple" = some (.type "tuple") := by decide +kernel
theorem bt_sorted : bootBuiltins "sorted" = some (.builtin "sorted") := by decide +kernel
theorem bt_set : bootBuiltins "set" = some (.type "set") := by decide +kernel
theorem bt_str : bootBuiltins "str" = some (.type "str") := by decide +kernel
theorem bt_max : bootBuiltins "max" = some (.builtin "max") := by decide +kernel
theorem bt_min : bootBuiltins "min" = some (.builtin "min") := by decide +kernel
theorem bt_enumerate : bootBuiltins "enumerate" = some (.type "enumerate") := by decide +kernel
theorem bt_zip : bootBuiltins "zip" = some (.type "zip") := by decide +kernel
theorem bt_dict : bootBuiltins "dict" = some (.type "dict") := by decide +kernel
theorem room_hu {A : Around} {k : Nat} (hr : Room k A) : A.units + 64 < cLine := hr.units
theorem nn_rInt {K : Fg} {B : Hp} {v : V} {x : Int} (h : rInt.is K B v x) : v ≠ .non := by
  have h : v = .int x := h
  subst h; intro e; cases e
end L3

namespace L3
open PySem L2
open Evl (Ex ex_rd ex_l ex_t sq_of st_of fresh_back)

/-! ### data of any form -/
theorem exl {K : Fg} {B B' : Hp} {a : Addr} {xs : List V} (e : Ex B B') (h : SqL K B a xs) : SqL K B' a xs := ex_l e h
mutual
theorem dp_mono {K : Fg} {B B' : Hp} (e : Ex B B') : ∀ {v : V} {d : PyData}, Dp K B v d → Dp K B' v d
  | _, _, .non => .non
  | _, _, .bl b => .bl b
  | _, _, .int i => .int i
  | _, _, .str x => .str x
  | _, _, .lst h t => .lst (ex_l e h) (dpAll_mono e t)
  | _, _, .tup h t => .tup (ex_t e h) (dpAll_mono e t)
theorem dpAll_mono {K : Fg} {B B' : Hp} (e : Ex B B') : ∀ {vs : List V} {ds : List PyData}, DpAll K B vs ds → DpAll K B' vs ds
  | _, _, .nil => .nil
  | _, _, .cons h t => .cons (dp_mono e h) (dpAll_mono e t)
end
def rDat : Rep PyData := ⟨fun K B v d => Dp K B v d, fun e h => dp_mono e h⟩
theorem dpAll_paired {K : Fg} {B : Hp} : ∀ {vs : List V} {ds : List PyData}, DpAll K B vs ds → Paired (rDat.is K B) vs ds
  | _, _, .nil => .nil
  | _, _, .cons h t => .cons h (dpAll_paired t)
theorem dpAll_of {K : Fg} {B : Hp} {α : Type} {r : Rep α} {f : α → PyData} (h : ∀ v a, r.is K B v a → Dp K B v (f a)) : ∀ {vs : List V} {as : List α}, Paired (r.is K B) vs as → DpAll K B vs (as.map f)
  | _, _, .nil => .nil
  | _, _, .cons r t => .cons (h _ _ r) (dpAll_of h t)
/-- typed data as data -/
structure DR {α : Type} (r : Rep α) (f : α → PyData) (n : Nat) : Prop where
  dp : ∀ K B v a, r.is K B v a → Dp K B v (f a)
  lay : ∀ a, (f a).canLay0 = true
  dep : ∀ a, (f a).depth ≤ n
  eqv : ∀ a b, PyData.eqv (f a) (f b) = true ↔ a = b
  inj : ∀ a b, f a = f b → a = b
theorem layAll {α : Type} {f : α → PyData} (h : ∀ a, (f a).canLay0 = true) : ∀ l : List α, PyData.canLayAll0 (l.map f) = true
  | [] => rfl
  | a :: l => by simp only [List.map_cons, PyData.canLayAll0, h a, layAll h l, Bool.and_self]
theorem depAll {α : Type} {f : α → PyData} {n : Nat} (h : ∀ a, (f a).depth ≤ n) : ∀ l : List α, PyData.depthAll (l.map f) ≤ n
  | [] => by simp [PyData.depthAll]
  | a :: l => by simp only [List.map_cons, PyData.depthAll]; have := h a; have := depAll h l; omega
theorem eqvAll {α : Type} {f : α → PyData} (h : ∀ a b, PyData.eqv (f a) (f b) = true ↔ a = b) : ∀ l m : List α, PyData.eqvAll (l.map f) (m.map f) = true ↔ l = m
  | [], [] => by simp [PyData.eqvAll]
  | [], b :: m => by simp [PyData.eqvAll]
  | a :: l, [] => by simp [PyData.eqvAll]
  | a :: l, b :: m => by simp only [List.map_cons, PyData.eqvAll, Bool.and_eq_true, h a b, eqvAll h l m, List.cons.injEq]
theorem map_inj {α β : Type} {f : α → β} (h : ∀ a b, f a = f b → a = b) : ∀ l m : List α, l.map f = m.map f → l = m
  | [], [], _ => rfl
  | [], _ :: _, e => by simp at e
  | _ :: _, [], e => by simp at e
  | a :: l, b :: m, e => by
    rw [List.map_cons, List.map_cons, List.cons.injEq] at e
    rw [h _ _ e.1, map_inj h l m e.2]
theorem dr_int : DR rInt PyData.int 1 := ⟨fun _ _ _ a h => by have h : _ = V.int a := h; subst h; exact .int a, fun _ => rfl, fun _ => by simp [PyData.depth], fun a b => by simp [PyData.eqv], fun a b h => by injection h⟩
theorem dr_bool : DR rBool PyData.bool 1 := ⟨fun _ _ _ a h => by have h : _ = V.bl a := h; subst h; exact .bl a, fun _ => rfl, fun _ => by simp [PyData.depth], fun a b => by simp [PyData.eqv], fun a b h => by injection h⟩
def dNon : Unit → PyData := fun _ => .none
theorem dr_non : DR rNon dNon 1 := ⟨fun _ _ _ a h => by have h : _ = V.non := h; subst h; exact .non, fun _ => rfl, fun _ => by simp [PyData.depth, dNon], fun a b => by simp [PyData.eqv, dNon], fun a b h => rfl⟩
def dTup {α : Type} (f : α → PyData) (l : List α) : PyData := .tuple (l.map f)
def dLst {α : Type} (f : α → PyData) (l : List α) : PyData := .list (l.map f)
def dT2 {α β : Type} (f : α → PyData) (g : β → PyData) (a : α × β) : PyData := .tuple [f a.1, g a.2]
def dT3 {α β γ : Type} (f : α → PyData) (g : β → PyData) (h : γ → PyData) (a : α × β × γ) : PyData := .tuple [f a.1, g a.2.1, h a.2.2]
def dOpt {α : Type} (f : α → PyData) : Option α → PyData
  | none => .none
  | some a => f a
section
variable {α β γ : Type} {r : Rep α} {s : Rep β} {t : Rep γ} {f : α → PyData} {g : β → PyData} {h : γ → PyData} {n m k : Nat}
theorem dr_tup (d : DR r f n) : DR (rTup r) (dTup f) (n + 1) := ⟨fun K B v a ⟨p, xs, h1, h2, h3⟩ => by subst h1; exact .tup h2 (dpAll_of (d.dp K B) h3), fun a => by simpa [dTup, PyData.canLay0] using layAll d.lay a,
  fun a => by have := depAll d.dep a; simp only [dTup, PyData.depth]; omega, fun a b => by simpa [dTup, PyData.eqv] using eqvAll d.eqv a b, fun a b e => by unfold dTup at e; injection e with e; exact map_inj d.inj a b e⟩
theorem dr_lst (d : DR r f n) : DR (rLst r) (dLst f) (n + 1) := ⟨fun K B v a ⟨p, xs, h1, h2, h3⟩ => by subst h1; exact .lst (sq_of h2) (dpAll_of (d.dp K B) h3), fun a => by simpa [dLst, PyData.canLay0] using layAll d.lay a,
  fun a => by have := depAll d.dep a; simp only [dLst, PyData.depth]; omega, fun a b => by simpa [dLst, PyData.eqv] using eqvAll d.eqv a b, fun a b e => by unfold dLst at e; injection e with e; exact map_inj d.inj a b e⟩
theorem dr_T2 (d : DR r f n) (e : DR s g m) : DR (rT2 r s) (dT2 f g) (max n m + 1) := ⟨fun K B v a ⟨p, x, y, h1, h2, h3, h4⟩ => by subst h1; exact .tup h2 (.cons (d.dp _ _ _ _ h3) (.cons (e.dp _ _ _ _ h4) .nil)),
  fun a => by simp [dT2, PyData.canLay0, PyData.canLayAll0, d.lay, e.lay], fun a => by have := d.dep a.1; have := e.dep a.2; simp only [dT2, PyData.depth, PyData.depthAll]; omega,
  fun a b => by simp only [dT2, PyData.eqv, PyData.eqvAll, Bool.and_true, Bool.and_eq_true, d.eqv, e.eqv]; exact ⟨fun ⟨x, y⟩ => Prod.ext x y, fun e => by rw [e]; exact ⟨rfl, rfl⟩⟩,
  fun a b q => by unfold dT2 at q; injection q with q; injection q with q1 q2; injection q2 with q2 _; exact Prod.ext (d.inj _ _ q1) (e.inj _ _ q2)⟩
theorem dr_T3 (d : DR r f n) (e : DR s g m) (c : DR t h k) : DR (rT3 r s t) (dT3 f g h) (max n (max m k) + 1) := ⟨fun K B v a ⟨p, x, y, z, h1, h2, h3, h4, h5⟩ => by subst h1; exact .tup h2 (.cons (d.dp _ _ _ _ h3) (.cons (e.dp _ _ _ _ h4) (.cons (c.dp _ _ _ _ h5) .nil))),
  fun a => by simp [dT3, PyData.canLay0, PyData.canLayAll0, d.lay, e.lay, c.lay], fun a => by have := d.dep a.1; have := e.dep a.2.1; have := c.dep a.2.2; simp only [dT3, PyData.depth, PyData.depthAll]; omega,
  fun a b => by simp only [dT3, PyData.eqv, PyData.eqvAll, Bool.and_true, Bool.and_eq_true, d.eqv, e.eqv, c.eqv]; exact ⟨fun ⟨x, y, z⟩ => Prod.ext x (Prod.ext y z), fun e => by rw [e]; exact ⟨rfl, rfl, rfl⟩⟩,
  fun a b q => by unfold dT3 at q; injection q with q; injection q with q1 q2; injection q2 with q2 q3; injection q3 with q3 _; exact Prod.ext (d.inj _ _ q1) (Prod.ext (e.inj _ _ q2) (c.inj _ _ q3))⟩
theorem DR.dec [DecidableEq α] (d : DR r f n) (a b : α) : PyData.eqv (f a) (f b) = decide (a = b) := by
  rw [Bool.eq_iff_iff, d.eqv, decide_eq_true_iff]
theorem DR.sh (d : DR r f n) (hn : n ≤ 64) (a : α) : SeqAt.shaped (f a) = true := by
  unfold SeqAt.shaped
  rw [d.lay a, decide_eq_true (Nat.le_trans (d.dep a) hn)]; rfl
end
/-! ### operations on data -/
def isNoneD : PyData → Bool
  | .none => true
  | _ => false
def isBoolD : PyData → Bool
  | .bool _ => true
  | _ => false
def isIntD : PyData → Bool
  | .bool _ => true
  | .int _ => true
  | _ => false
def isStrD : PyData → Bool
  | .str _ => true
  | _ => false
def isTupD : PyData → Bool
  | .tuple _ => true
  | _ => false
def isLstD : PyData → Bool
  | .list _ => true
  | _ => false
def tyName : PyData → String
  | .none => "NoneType"
  | .bool _ => "bool"
  | .int _ => "int"
  | .str _ => "str"
  | .list _ => "list"
  | .tuple _ => "tuple"
  | .dict _ => "dict"
def eqvD (a b : PyData) : Option Bool := if SeqAt.shaped a = true ∧ SeqAt.shaped b = true then some (PyData.eqv a b) else none
def lenD : PyData → Option Int
  | .list xs => some xs.length
  | .tuple xs => some xs.length
  | _ => none
def ixD : PyData → Int → Option PyData
  | .list xs, i => atI xs i
  | .tuple xs, i => atI xs i
  | _, _ => none
theorem dp_ty {K : Fg} {B H : Hp} {v : V} {d : PyData} (e : Ex B H) (h : Dp K B v d) : TyX K H v (.type (tyName d)) := by
  cases h with
  | non => exact .base .non
  | bl b => exact .base (.bl b)
  | int i => exact .base (.int i)
  | str x => exact .base (.str x)
  | lst h t =>
    rcases ex_l e h with (h | ⟨o, h⟩) | ⟨o, its, n, h, hc, _⟩
    · exact .base (.lst h)
    · exact .base (.frz h)
    · exact .kList h hc
  | tup h t =>
    rcases ex_t e h with (h | ⟨o, h⟩) | ⟨o, its, n, h, hc, _⟩
    · exact .base (.tup h)
    · exact .fTuple h
    · exact .kTuple h hc
section
variable {K : Fg} {M : Fr} {σ : St} {B : Hp} {L L1 L2 L' : List Cell} {α β γ δ : Type} {r : Rep α} {s : Rep β} {t : Rep γ} {ta tb tc te : TE} {tt tu : TT} {tA : TA} {i j k : Int} {b c : Bool} {d d' : PyData}
theorem ev_dat {f : α → PyData} {n : Nat} {a : α} (h : EV K M te σ B L r a L') (D : DR r f n) : EV K M te σ B L rDat (f a) L' := ev_as h fun _ _ h => D.dp _ _ _ _ h
theorem ev_isND (ha : EV K M ta σ B L rDat d L1) : EV K M (tIsN ta) σ B L rBool (isNoneD d) L1 := fun B1 H e w Q q =>
  ha B1 H e w _ fun x B2 H2 e2 w2 hx => q _ B2 H2 e2 w2 (by
    show V.bl _ = V.bl _
    congr 1
    have hx : Dp K B2 x d := hx
    cases hx <;> rfl)
theorem ev_isi (T : String) (g : PyData → Bool) (hg : ∀ n d, tyName d = n → kitB n T = some (g d)) (ha : EV K M ta σ B L rDat d L1) : EV K M (tCB (rIsi K) (tCons ta (tCons (tC (.ty T)) tNil))) σ B L rBool (g d) L1 := fun B1 H e w Q q =>
  ha B1 H e w _ fun x B2 H2 e2 w2 hx => ⟨x, .ty T, .type (tyName d), .type T, g d, rfl, .ty T, dp_ty w2.b hx, kit_ty (hg _ d rfl), q _ B2 H2 e2 w2 rfl⟩
def kt (T : String) (g : String → Bool) : Bool := (kitB "NoneType" T == some (g "NoneType")) && (kitB "bool" T == some (g "bool")) && (kitB "int" T == some (g "int")) && (kitB "str" T == some (g "str")) && (kitB "list" T == some (g "list")) && (kitB "tuple" T == some (g "tuple")) && (kitB "dict" T == some (g "dict"))
theorem kt_of {T : String} {g : String → Bool} (h : kt T g = true) (d : PyData) : kitB (tyName d) T = some (g (tyName d)) := by
  unfold kt at h
  simp only [Bool.and_eq_true, beq_iff_eq] at h
  cases d <;> simp only [tyName] <;> simp_all
theorem isi_bool : ∀ n d, tyName d = n → kitB n "bool" = some (isBoolD d) := fun n d e => by
  subst e
  rw [kt_of (g := fun n => n == "bool") (by decide +kernel) d]
  cases d <;> rfl
theorem isi_int : ∀ n d, tyName d = n → kitB n "int" = some (isIntD d) := fun n d e => by
  subst e
  rw [kt_of (g := fun n => n == "bool" || n == "int") (by decide +kernel) d]
  cases d <;> rfl
theorem isi_str : ∀ n d, tyName d = n → kitB n "str" = some (isStrD d) := fun n d e => by
  subst e
  rw [kt_of (g := fun n => n == "str") (by decide +kernel) d]
  cases d <;> rfl
theorem isi_tuple : ∀ n d, tyName d = n → kitB n "tuple" = some (isTupD d) := fun n d e => by
  subst e
  rw [kt_of (g := fun n => n == "tuple") (by decide +kernel) d]
  cases d <;> rfl
theorem isi_list : ∀ n d, tyName d = n → kitB n "list" = some (isLstD d) := fun n d e => by
  subst e
  rw [kt_of (g := fun n => n == "list") (by decide +kernel) d]
  cases d <;> rfl
theorem ev_eqvD (ha : EV K M ta σ B L rDat d L1) (hb : EV K M tb σ B L1 rDat d' L2) (h : eqvD d d' = some b) : EV K M (tOp (rEqD K) ta tb) σ B L rBool b L2 :=
  ev_op ha hb fun B1 H1 x y Q w hx hy q => by
    unfold eqvD at h
    split at h
    · rename_i hc
      exact ⟨d, d', dp_mono w.b hx, dp_mono w.b hy, hc.1, hc.2, q _ (by rw [Option.some.inj h]; rfl)⟩
    · cases h
/-- == of typed data -/
theorem ev_eqT {f : α → PyData} {n : Nat} {a a' : α} [DecidableEq α] (D : DR r f n) (hn : n ≤ 64) (ha : EV K M ta σ B L r a L1) (hb : EV K M tb σ B L1 r a' L2) : EV K M (tOp (rEqD K) ta tb) σ B L rBool (decide (a = a')) L2 :=
  ev_op ha hb fun B1 H1 x y Q w hx hy q => ⟨f a, f a', dp_mono w.b (D.dp _ _ _ _ hx), dp_mono w.b (D.dp _ _ _ _ hy), D.sh hn a, D.sh hn a', q _ (by rw [D.dec]; rfl)⟩
theorem ev_neT {f : α → PyData} {n : Nat} {a a' : α} [DecidableEq α] (D : DR r f n) (hn : n ≤ 64) (ha : EV K M ta σ B L r a L1) (hb : EV K M tb σ B L1 r a' L2) : EV K M (tOp (rNeD K) ta tb) σ B L rBool (!decide (a = a')) L2 :=
  ev_op ha hb fun B1 H1 x y Q w hx hy q => ⟨f a, f a', dp_mono w.b (D.dp _ _ _ _ hx), dp_mono w.b (D.dp _ _ _ _ hy), D.sh hn a, D.sh hn a', q _ (by rw [D.dec]; rfl)⟩
theorem dpAll_len {vs : List V} {ds : List PyData} (h : DpAll K B vs ds) : vs.length = ds.length := paired_len (dpAll_paired h)
theorem ev_lenD (ha : EV K M ta σ B L rDat d L1) (h : lenD d = some i) : EV K M (tCB (rLen K) (tCons ta tNil)) σ B L rInt i L1 :=
  ev_cb1 ha fun B1 H1 x Q w hx q => by
    have hx : Dp K B1 x d := hx
    cases hx with
    | lst h1 t =>
      rw [← (Option.some.inj h : _ = i)] at q
      exact ⟨_, _, rfl, .inl (ex_l w.b h1), q _ (by rw [dpAll_len t]; rfl)⟩
    | tup h1 t =>
      rw [← (Option.some.inj h : _ = i)] at q
      exact ⟨_, _, rfl, .inr (ex_t w.b h1), q _ (by rw [dpAll_len t]; rfl)⟩
    | _ => cases h
theorem ev_ixD (ha : EV K M ta σ B L rDat d L1) (hb : EV K M tb σ B L1 rInt i L2) (h : ixD d i = some d') : EV K M (tOp (rIx K) ta tb) σ B L rDat d' L2 :=
  ev_op ha hb fun B1 H1 x y Q w hx hy q => by
    have hx : Dp K B1 x d := hx
    cases hx with
    | lst h1 t =>
      obtain ⟨z, e, hz⟩ := atI_paired (dpAll_paired t) h
      exact .inl ⟨_, _, i, z, rfl, hy, ex_l w.b h1, e, q _ hz⟩
    | tup h1 t =>
      obtain ⟨z, e, hz⟩ := atI_paired (dpAll_paired t) h
      exact .inr (.inl ⟨_, _, i, z, rfl, hy, ex_t w.b h1, e, q _ hz⟩)
    | _ => cases h
end
/-- nothing is promised: at any level -/
theorem fn_none {P : Program} {w : World} {K : Fg} {mg : Str → Option Value} {base : Heap} {k : Nat} {f : Addr} {fd : FuncData} {ps : List Str} {T : List Addr} {C : List Arg → List Cell → Arg → List Cell → Prop} (h : ∀ as L r L', ¬ C as L r L') : FnOk P w K mg base CX0 k f fd ps (spV K T C) :=
  ⟨fun vs H Q E ⟨_, _, _, _, _, _, _, _, _, c, _⟩ => (h _ _ _ _ c).elim, fun A outer s H args us vs Q E _ _ _ _ ⟨_, _, _, _, _, _, _, _, _, c, _⟩ => (h _ _ _ _ c).elim⟩
end L3

namespace L3
open PySem L2

/-! ### the mirrors: they answer, and the answer is as told -/
def Yes {α : Type} (o : Option α) (P : α → Prop) : Prop := ∃ a, o = some a ∧ P a
section
variable {α β S R : Type} {o : Option α} {P Q : α → Prop} {i j : Int}
theorem Yes.mono (h : Yes o P) (f : ∀ a, P a → Q a) : Yes o Q := by obtain ⟨a, h1, h2⟩ := h; exact ⟨a, h1, f a h2⟩
theorem y_some {a : α} (h : P a) : Yes (some a) P := ⟨a, rfl, h⟩
theorem y_bind {f : α → Option β} {T : β → Prop} (h : Yes o Q) (k : ∀ a, Q a → Yes (f a) T) : Yes (Option.bind o f) T := by
  obtain ⟨a, rfl, h2⟩ := h
  exact k a h2
theorem y_eq {a : α} {f : α → Option β} {T : β → Prop} (h : o = some a) (k : Yes (f a) T) : Yes (Option.bind o f) T := by
  subst h; exact k
theorem y_if {c : Prop} [Decidable c] {p q : Option α} (h1 : c → Yes p P) (h2 : ¬ c → Yes q P) : Yes (if c then p else q) P := by
  split
  · exact h1 (by assumption)
  · exact h2 (by assumption)
theorem y_and {c : Prop} [Decidable c] {p q : Option α} (h1 : c → p = q) : (if c then p else q) = q := by
  split
  · exact h1 (by assumption)
  · rfl
theorem mulI_l (h1 : -(2 ^ 64) < i) (h2 : i < 2 ^ 64) : mulI i j = some (i * j) := if_pos (Or.inl (Or.inl ⟨h1, h2⟩))
theorem mulI_r (h1 : -(2 ^ 64) < j) (h2 : j < 2 ^ 64) : mulI i j = some (i * j) := if_pos (Or.inl (Or.inr ⟨h1, h2⟩))
theorem mulI_w {a b : Nat} (ha : i.natAbs < 2 ^ a) (hb : j.natAbs < 2 ^ b) (h0 : 0 < a) (h1 : 0 < b) (h : a + b ≤ 1000000) : mulI i j = some (i * j) := if_pos (Or.inr (wide_mul ha hb h0 h1 h))
theorem divI_s (h1 : 0 < j) (h2 : j < 2 ^ 64) : divI i j = some (i / j) := if_pos ⟨h1, by
  have : j.natAbs < 2 ^ 64 := by omega
  have := PySem.Flt.log2_lt_of (by decide) this
  omega⟩
theorem divI_w {b : Nat} (h1 : 0 < j) (hb : j.natAbs < 2 ^ b) (h0 : 0 < b) (h9 : b ≤ 9000) : divI i j = some (i / j) := if_pos (wide_div (i := i) h1 hb h0 h9)
theorem modI_s (h : 0 < j) : modI i j = some (i % j) := if_pos h
theorem room_s {n : Nat} (h : n ≤ 1000000) : room n = some () := if_pos (Nat.lt_of_le_of_lt h (by decide))
theorem small62_s (h1 : -(2 ^ 62) ≤ i) (h2 : i < 2 ^ 62) : small62 i = some () := if_pos ⟨h1, h2⟩
theorem ixL_s {xs : List α} {n : Nat} {a : α} (h : xs[n]? = some a) (hi : i = n) : ixL xs i = some a := by
  subst hi
  unfold ixL atI
  have hl := (List.getElem?_eq_some_iff.mp h).1
  simp [ixN]
  have h2 := (List.getElem?_eq_some_iff.mp h).2
  simp_all
/-- with a number of the item -/
theorem y_foldI (f : S → α → Option S) (I : Nat → S → Prop) {xs : List α} {s : S} (h0 : I 0 s) (hs : ∀ (i : Nat) x s, xs[i]? = some x → I i s → Yes (f s x) (I (i + 1))) : Yes (foldO f s xs) (I xs.length) := by
  induction xs generalizing s I with
  | nil => exact ⟨s, rfl, h0⟩
  | cons x xs ih =>
    obtain ⟨s', h1, h2⟩ := hs 0 x s rfl h0
    unfold foldO
    rw [h1]
    exact ih (fun i => I (i + 1)) h2 fun i y s hy hI => hs (i + 1) y s (by simpa using hy) hI
theorem y_fold (f : S → α → Option S) (I : S → Prop) {xs : List α} {s : S} (h0 : I s) (hs : ∀ x s, x ∈ xs → I s → Yes (f s x) I) : Yes (foldO f s xs) I :=
  y_foldI f (fun _ => I) h0 fun i x s hx hI => hs x s (List.mem_of_getElem? hx) hI
/-- a loop that may return -/
theorem y_loopI (f : S → α → Option (Stp S R)) (I : Nat → S → Prop) (E : Stp S R → Prop) {xs : List α} {s : S} (h0 : I 0 s)
    (hs : ∀ (i : Nat) x s, xs[i]? = some x → I i s → Yes (f s x) fun t => match t with | .nx s' => I (i + 1) s' | t => E t) (hE : ∀ s, I xs.length s → E (.nx s)) : Yes (loopM f s xs) E := by
  induction xs generalizing s I with
  | nil => exact ⟨.nx s, rfl, hE s h0⟩
  | cons x xs ih =>
    obtain ⟨t, h1, h2⟩ := hs 0 x s rfl h0
    unfold loopM
    rw [h1]
    match t, h2 with
    | .nx s', h2 => exact ih (fun i => I (i + 1)) h2 (fun i y s hy hI => hs (i + 1) y s (by simpa using hy) hI) hE
    | .bk s', h2 => exact ⟨_, rfl, h2⟩
    | .rt r, h2 => exact ⟨_, rfl, h2⟩
theorem rng_mem {lo hi : Int} {x : Int} (h : x ∈ rng lo hi) : lo ≤ x ∧ x < hi := by
  obtain ⟨i, hi⟩ := List.getElem?_of_mem h
  obtain ⟨h1, h2⟩ := rng_get hi
  omega
theorem rng_at {lo hi : Int} {i : Nat} {x : Int} (h : (rng lo hi)[i]? = some x) : x = lo + i ∧ lo + i < hi := by
  obtain ⟨h1, h2⟩ := rng_get h
  exact ⟨h2, by omega⟩
theorem y_loopR (f : S → α → Option (Stp S R)) (I : Nat → S → Prop) (E : S ⊕ R → Prop) {xs : List α} {s : S} (h0 : I 0 s)
    (hs : ∀ (i : Nat) x s, xs[i]? = some x → I i s → Yes (f s x) fun t => match t with | .nx s' => I (i + 1) s' | .bk s' => E (.inl s') | .rt r => E (.inr r)) (hE : ∀ s, I xs.length s → E (.inl s)) : Yes (loopR f s xs) E := by
  obtain ⟨t, h1, h2⟩ := y_loopI f I (fun t => match t with | .nx s' => E (.inl s') | .bk s' => E (.inl s') | .rt r => E (.inr r)) h0 (fun i x s hx hI => (hs i x s hx hI).mono fun t ht => by
    cases t <;> exact ht) hE
  unfold loopR
  rw [h1]
  cases t <;> exact ⟨_, rfl, h2⟩
theorem y_loopB (f : S → α → Option (Stp S Empty)) (I : Nat → S → Prop) (E : S → Prop) {xs : List α} {s : S} (h0 : I 0 s)
    (hs : ∀ (i : Nat) x s, xs[i]? = some x → I i s → Yes (f s x) fun t => match t with | .nx s' => I (i + 1) s' | .bk s' => E s' | .rt r => False) (hE : ∀ s, I xs.length s → E s) : Yes (loopB f s xs) E := by
  obtain ⟨t, h1, h2⟩ := y_loopI f I (fun t => match t with | .nx s' => E s' | .bk s' => E s' | .rt r => False) h0 (fun i x s hx hI => (hs i x s hx hI).mono fun t ht => by
    cases t <;> exact ht) hE
  unfold loopB
  rw [h1]
  cases t with
  | nx s => exact ⟨_, rfl, h2⟩
  | bk s => exact ⟨_, rfl, h2⟩
  | rt r => exact h2.elim
end
end L3
namespace L3
open PySem L2
theorem paired_ints {K : Fg} {B : Hp} : ∀ ns : List Int, Paired (rInt.is K B) (ns.map V.int) ns
  | [] => .nil
  | _ :: l => .cons rfl (paired_ints l)
end L3

/-! a generator expression in any, all, sum: what is walked and the element are any -/
namespace L3G
open PySem PySem.Spec PyProof.Rows L2 GxR

structure GSc (sc scope : Scope) : Prop where
  kind : scope.kind = .function
  co : scope.isCoroutine = false
  cell : ∀ y ∈ scope.names, y.2 ≠ .cell
  dot : scope.names.lookup (".0" : Str) = some NameKind.local
  free : ∀ y ∈ scope.names, y.2 = .free → sc.names.lookup y.1 = some .cell ∨ sc.names.lookup y.1 = some .free
def gsB (sc scope : Scope) : Bool :=
  decide (scope.kind = .function) && !scope.isCoroutine && decide (scope.names.lookup (".0" : Str) = some NameKind.local) && scope.names.all fun y => !decide (y.2 = .cell) && (!decide (y.2 = .free) || decide (sc.names.lookup y.1 = some .cell) || decide (sc.names.lookup y.1 = some .free))
theorem gs_by {sc scope : Scope} (h : gsB sc scope = true) : GSc sc scope := by
  unfold gsB at h
  simp only [Bool.and_eq_true, Bool.or_eq_true, Bool.not_eq_true', decide_eq_true_eq, decide_eq_false_iff_not, List.all_eq_true] at h
  obtain ⟨⟨⟨h1, h2⟩, h3⟩, h4⟩ := h
  refine ⟨h1, h2, fun y hy => (h4 y hy).1, h3, fun y hy e => ?_⟩
  rcases (h4 y hy).2 with (z | z) | z
  · exact absurd e z
  · exact .inl z
  · exact .inr z
/-- the slots of the generator's frame: none, or a captured slot -/
def capS (js : List (Option Nat)) (σ : L2.St) : L2.St := js.map fun
  | none => none
  | some j => (σ[j]?).getD none
def capB (N NG : List Str) (scope : Scope) (js : List (Option Nat)) : Bool :=
  decide (js.length = NG.length) && (List.range js.length).all fun i => match js[i]? with
    | some (some j) => (match NG[i]? with
      | some y => decide (N[j]? = some y) && decide (scope.names.lookup y = some .free)
      | none => false)
    | _ => true
theorem capB_at {N NG : List Str} {scope : Scope} {js : List (Option Nat)} (h : capB N NG scope js = true) {σ : L2.St} {i : Nat} {y : Str} {v : V} (hy : NG[i]? = some y) (hv : (capS js σ)[i]? = some (some v)) :
    ∃ j : Nat, N[j]? = some y ∧ σ[j]? = some (some v) ∧ scope.names.lookup y = some .free := by
  unfold capB at h
  rw [Bool.and_eq_true, List.all_eq_true] at h
  unfold capS at hv
  rw [List.getElem?_map] at hv
  cases e : js[i]? with
  | none => rw [e] at hv; cases hv
  | some o =>
    rw [e] at hv
    have hi : i < js.length := (List.getElem?_eq_some_iff.mp e).1
    have q := h.2 i (List.mem_range.mpr hi)
    rw [e, hy] at q
    cases o with
    | none => cases hv
    | some j =>
      have q : (decide (N[j]? = some y) && decide (scope.names.lookup y = some .free)) = true := q
      rw [Bool.and_eq_true, decide_eq_true_eq, decide_eq_true_eq] at q
      refine ⟨j, q.1, ?_, q.2⟩
      have hv : (σ[j]?).getD none = some v := Option.some.inj hv
      cases e2 : σ[j]? with
      | none => rw [e2] at hv; cases hv
      | some u => rw [e2] at hv; exact congrArg some hv
theorem capB_len {N NG : List Str} {scope : Scope} {js : List (Option Nat)} (h : capB N NG scope js = true) : js.length = NG.length := by
  unfold capB at h
  rw [Bool.and_eq_true] at h
  exact of_decide_eq_true h.1

abbrev gEnv (X : Cx) (scope : Scope) (C : Addr) (code : Value) : Env := genEnv scope (cloFrom X.env.cells scope.names []) C code builtinsNs X.env
abbrev gCode (X : Cx) (elt tg iter : Expr) (scope : Scope) (gpos : Pos) (it : Addr) (C : Addr) (code : Value) : Code :=
  .compLoop (.GeneratorExp elt [⟨tg, iter, [], 0⟩] scope gpos) 0 (.ref it) .none (gEnv X scope C code)
abbrev gCode0 (X : Cx) (elt tg iter : Expr) (scope : Scope) (gpos : Pos) (it : Addr) (C : Addr) (code : Value) : Code :=
  .compStart (.GeneratorExp elt [⟨tg, iter, [], 0⟩] scope gpos) 0 (.ref it) .none (gEnv X scope C code)
/-- the Around of the generator's frame -/
abbrev gA (X : Cx) (cenv : Env) : Around := ⟨X.A.handled, X.A.depth + 1, pushEnvs [cenv] X.A.frames, X.A.guards, X.A.units + 5⟩
/-- the context of the generator's frame, made at s -/
abbrev gCx (X : Cx) (s : Shared) (H : Hp) (NG : List Str) (ex : List Addr) (cenv : Env) : Cx where
  prog := X.prog
  w := X.w
  K := X.K
  mg := X.mg
  base := X.base
  A := gA X cenv
  N := NG
  s_0 := s
  H_0 := H
  env := cenv
  outer := X.stack
  stack := cenv :: X.stack
  ex := ex
  fn := fun _ => false
  calm := true
  pn := []
  xe := fun _ _ => False
section
variable {X : Cx} {pins : List (Addr × Obj)} {σ : L2.St} {H : Hp} {s : Shared}
theorem gA_eq (X : Cx) (elt tg iter : Expr) (scope : Scope) (gpos : Pos) (it C : Addr) (code : Value) : X.A.in1.in1.over (gCode X elt tg iter scope gpos it C code) [] = gA X (gEnv X scope C code) := rfl
theorem gA_eq0 (X : Cx) (elt tg iter : Expr) (scope : Scope) (gpos : Pos) (it C : Addr) (code : Value) : X.A.in1.in1.over (gCode0 X elt tg iter scope gpos it C code) [] = gA X (gEnv X scope C code) := rfl
theorem room_g {k : Nat} {cenv : Env} (r : Room (k + 1) X.A) : Room k (gA X cenv) := ⟨r.hd, by have := r.dp; show X.A.depth + 1 + 3 * k + 5 < _; omega, by have := r.un; show X.A.units + 5 + 16 * k + 200 < _; omega⟩
theorem inv_gens {g' : Array GenState} {t' : Nat} (I : Inv X pins σ H s) (hg : AllBare g') : Inv X pins σ H { s with gens := g', toks := t' } :=
  ⟨I.ok, I.os, hg, I.base, I.loc, I.cell, I.free, I.freeC, I.pin, I.hok, I.len⟩
theorem gen_start {NG : List Str} {fp : List Addr} {scope : Scope} {code : Value} {it : Addr} {js : List (Option Nat)} {h₁ : Heap} {g₁ : Array GenState} {tk : Nat} (I : Inv X pins σ H s) (G : GSc X.env.scope scope) (hf : ∀ b ∈ fp, FpOk X pins H b) (hfl : ∀ b ∈ fp, b < s.heap.objs.size) (hd : X.A.handled = none)
    (hns : h₁.Ns s.heap.objs.size fun y => if y = (".0" : Str) then some (.ref it) else none) (kp : ∀ b o, s.heap.get? b = some o → h₁.get? b = some o) (hg : AllBare g₁) (hN : capB X.N NG scope js = true) :
    Inv (gCx X s H NG fp (gEnv X scope s.heap.objs.size code)) [] (capS js σ) H { s with heap := h₁, gens := g₁, toks := tk } := by
  have hfree : ∀ y ∈ scope.names, y.2 = .free → ∃ c, X.env.cells.lookup y.1 = some c := fun y hy e => by
    rcases G.free y hy e with k | k
    · exact I.ok.has _ (.inl k)
    · exact I.ok.has _ (.inr k)
  have cm : ∀ {y c}, (cloFrom X.env.cells scope.names []).lookup y = some c → X.env.cells.lookup y = some c := fun {y c} e => by
    rcases cloFrom_mem (PySem.mem_of_lookup e) with hm | ⟨h1, h2⟩
    · cases hm
    · obtain ⟨c1, hc⟩ := hfree _ h1 rfl
      have hc : X.env.cells.lookup y = some c1 := hc
      have e2 : c = c1 := by
        rw [h2, hc] <;> rfl
      rw [e2]
      exact hc
  have look : ∀ {y}, scope.names.lookup y = some .free → ∃ c, (cloFrom X.env.cells scope.names []).lookup y = some c := fun {y} hl => by
    have hy : (y, NameKind.free) ∈ scope.names := PySem.mem_of_lookup hl
    exact mem_lookup (cloFrom_has (cells := X.env.cells) (acc := []) hy)
  have cellK : ∀ {c : Addr} {v : Option Value}, s.heap.IsCell c v → h₁.IsCell c v := fun {c v} ⟨o, ho, hd⟩ => ⟨o, kp _ _ ho, hd⟩
  refine ⟨⟨I.ok.mod, G.kind, I.ok.glob, rfl, Nat.le_refl _, fun y z c e1 e2 => I.ok.inj y z c (cm e1) (cm e2), fun y hy => ?_, fun y c z _ => ?_, fun _ => hd, ?_, .inr ⟨rfl, rfl⟩, fun b hb => ⟨Nat.ne_of_lt (hfl b hb), fun y c e => (hf b hb).2.2.2.2.1 y c (cm e)⟩, I.bs, Nat.le_trans I.ok.bsz I.sz, fun b o e hb => ?_,
      fun b hb z => ?_, I.stack, I.stkFree⟩,
    rfl, hg, Un.kept kp, ⟨_, hns, fun i y v e1 e2 e3 => ?_⟩, fun y c e => ?_, I.hok.fresh (Nat.le_refl _), fun y c e => I.freeC y c (cm e), fun q hq => absurd (show q ∈ ([] : List (Addr × Obj)) ++ [] from hq) (by simp), I.hok.kept kp, ?_⟩
  · have hy : scope.names.lookup y = some .cell ∨ scope.names.lookup y = some .free := hy
    rcases hy with hy | hy
    · exact absurd rfl (G.cell _ (PySem.mem_of_lookup hy))
    · exact look hy
  · have z : false = true := z
    cases z
  · show pushEnvs [_] X.A.frames = _
    rw [I.ok.frames]
    rfl
  · rcases (hf b hb).2.2.2.1 with z | z
    · exact I.ok.noex b o e z
    · exact absurd (Nat.lt_of_lt_of_le (Heap.lt_size (I.ok.bs b o e).1) z) (Nat.lt_irrefl _)
  · rcases List.mem_cons.mp (I.stkSub b z) with e | e
    · exact (hf b hb).2.1 e
    · exact (hf b hb).2.2.1 e
  · obtain ⟨j, h1, h2, h3⟩ := capB_at hN e1 e2
    obtain ⟨m, hn, hl⟩ := I.loc
    have hfr := G.free _ (PySem.mem_of_lookup h3) rfl
    have hvis : Vis X.env.scope y := hfr.elim (fun k => .inr (.inl k)) (fun k => .inr (.inr k))
    obtain ⟨w', r, q⟩ := hl j y v h1 h2 hvis
    obtain ⟨c2, h4⟩ := look h3
    refine ⟨w', r, .inr ⟨.inr h3, c2, h4, ?_⟩⟩
    have c1 := cm h4
    rcases q with ⟨k', _⟩ | ⟨_, c3, e', z⟩
    · have k' : X.env.scope.names.lookup y = some .local := k'
      rcases hfr with k2 | k2 <;> rw [show X.env.scope.names.lookup y = _ from k2] at k' <;> cases k'
    · rw [c1] at e'
      cases e'
      exact cellK z
  · obtain ⟨w', z⟩ := I.cell y c (cm e)
    exact ⟨w', cellK z⟩
  · show (capS js σ).length = NG.length
    unfold capS
    rw [List.length_map]
    exact capB_len hN
end
/-! ### the run -/
/-- the consumer's own objects -/
def SOk (S : List Addr) (H : Hp) (s : Shared) : Prop := ∀ b ∈ S, H b = none ∧ ∃ o, s.heap.get? b = some o ∧ ∀ v, o.data ≠ .cell v
section
variable (X : Cx) (s0 : Shared) (H0 : Hp) (NG : List Str) (fp : List Addr) (cenv : Env) (a : Addr) (ob : Obj) (S : List Addr) (tn : Nat → Heap → Prop) (N : Nat) (Z : Nat → L2.St → Hp → Prop) (P : Nat → V → L2.St → Hp → Prop) (F : Nat → L2.St → Hp → Prop)
def gR : GenEnd := fun n s₀ r s => r = .ok .next ∧ ∃ i σ H, n + i = N + 1 ∧ F i σ H ∧ Inv (gCx X s0 H0 NG fp cenv) ([(a, ob)] ++ pinsAt S s₀.heap) σ H s
def gY : Protocol := fun n s₀ v s kap => ∃ i y σ H, n + i = N ∧ i < N ∧ RelV y v ∧ P i y σ H ∧ Inv (gCx X s0 H0 NG fp cenv) ([(a, ob)] ++ pinsAt S s₀.heap) σ H s ∧ tn (i + 1) s.heap ∧ (∀ b ∈ fp, H b = none) ∧ (∀ b ∈ S, H b = none) ∧
  ∀ s'' : Shared, Z (i + 1) σ H → Inv (gCx X s0 H0 NG fp cenv) [(a, ob)] σ H s'' → tn (i + 1) s''.heap → SOk S H s'' → kap (.send .none) s''
end
structure GFix (X : Cx) (s0 : Shared) (fp : List Addr) (cenv : Env) (a : Addr) (S : List Addr) : Prop where
  f : ∀ b ∈ fp, b ≠ cenv.locals ∧ b ∉ frs X.stack ∧ (∀ x c, cenv.cells.lookup x = some c → c ≠ b) ∧ b ≠ a ∧ b ∉ S
  s : ∀ b ∈ S, s0.heap.objs.size ≤ b ∧ b ≠ cenv.locals ∧ b ∉ frs X.stack ∧ (∀ x c, cenv.cells.lookup x = some c → c ≠ b) ∧ b ≠ a
section
variable {X : Cx} {s0 : Shared} {H0 : Hp} {NG : List Str} {fp : List Addr} {cenv : Env} {a : Addr} {ob : Obj} {S : List Addr} {tn : Nat → Heap → Prop} {N : Nat} {Z : Nat → L2.St → Hp → Prop} {P : Nat → V → L2.St → Hp → Prop} {F : Nat → L2.St → Hp → Prop}
theorem seg_loop {elt tg iter : Expr} {scope : Scope} {gpos : Pos} {it C : Addr} {code : Value} {J : It} {g : TG} {te : TE} (hce : cenv = gEnv X scope C code) (hco : scope.isCoroutine = false) (fx : GFix X s0 fp cenv a S)
    (T : Turn X.prog X.w X.K tg J fp it tn) (hg : PG (gCx X s0 H0 NG fp cenv) tg g) (he : PE (gCx X s0 H0 NG fp cenv) elt te)
    (turn : ∀ i σ H, Z i σ H → (J.stop i H ∧ F i σ H) ∨ (J.go i H ∧ i < N ∧ ∀ x H2, J.yld i H x H2 → g x σ H2 fun σ2 H3 => te σ2 H3 fun y H4 => P i y σ2 H4)) :
    ∀ (k i : Nat) (s : Shared) (σ : L2.St) (H : Hp), N - i = k → i ≤ N → Z i σ H → Inv (gCx X s0 H0 NG fp cenv) [(a, ob)] σ H s → tn i s.heap → (∀ b ∈ fp, H b = none) → SOk S H s →
      Seg (model X.prog X.w) X.A.in1.in1 (gR X s0 H0 NG fp cenv a ob S N F) (gY X s0 H0 NG fp cenv a ob S tn N Z P) (N + 1 - i) s (gCode X elt tg iter scope gpos it C code) ((model X.prog X.w).den (gCode X elt tg iter scope gpos it C code)) [] s := by
  subst hce
  intro k
  induction k with
  | zero =>
    intro i s σ H hk hi hZ I st fr so
    have fS : ∀ b ∈ S, FpOk (gCx X s0 H0 NG fp (gEnv X scope C code)) [(a, ob)] H b := fun b hb => ⟨(so b hb).1, (fx.s b hb).2.1, (fx.s b hb).2.2.1, .inr (fx.s b hb).1, (fx.s b hb).2.2.2.1, fun p hp => by
      have hp : p ∈ [(a, ob)] := hp
      rw [List.mem_singleton.mp hp]; exact Ne.symm (fx.s b hb).2.2.2.2⟩
    have I1 := I.pinned fS fun b hb => (so b hb).2
    have fF : ∀ {H' : Hp}, (∀ b ∈ fp, H' b = none) → ∀ b ∈ fp, FpOk (gCx X s0 H0 NG fp (gEnv X scope C code)) ([(a, ob)] ++ pinsAt S s.heap) H' b := fun hn b hb => ⟨hn b hb, (fx.f b hb).1, (fx.f b hb).2.1, .inl hb, (fx.f b hb).2.2.1, fun p hp => by
      have hp : p ∈ [(a, ob)] ++ pinsAt S s.heap := hp
      rcases List.mem_append.mp hp with hp | hp
      · rw [List.mem_singleton.mp hp]; exact Ne.symm (fx.f b hb).2.2.2.1
      · exact fun z => (fx.f b hb).2.2.2.2 (by rw [← z]; exact (of_pinsAt hp).1)⟩
    show Seg _ X.A.in1.in1 _ _ _ s _ ((compTurn (.GeneratorExp elt [⟨tg, iter, [], 0⟩] scope gpos) 0 (.ref it) .none (gEnv X scope C code)).onRaise (leaving (gEnv X scope C code))) [] s
    rw [compTurn_gen, Sem.onRaise_eq_wrap]
    refine seg_bind_wrap (wpAny_standAt ?_)
    rcases turn i σ H hZ with ⟨stop, hF⟩ | ⟨_, hlt, _⟩
    · refine seg_bind_wrap (thn (T.done (gCx X s0 H0 NG fp (gEnv X scope C code)) rfl rfl rfl rfl i _ s σ H _ I1 (fF fr) st stop) fun r s1 ⟨hr, J1⟩ => ?_)
      subst hr
      exact seg_end (.ok .next) ⟨rfl, i, σ, H, by omega, hF, J1⟩
    · omega
  | succ k ih =>
    intro i s σ H hk hi hZ I st fr so
    have fS : ∀ b ∈ S, FpOk (gCx X s0 H0 NG fp (gEnv X scope C code)) [(a, ob)] H b := fun b hb => ⟨(so b hb).1, (fx.s b hb).2.1, (fx.s b hb).2.2.1, .inr (fx.s b hb).1, (fx.s b hb).2.2.2.1, fun p hp => by
      have hp : p ∈ [(a, ob)] := hp
      rw [List.mem_singleton.mp hp]; exact Ne.symm (fx.s b hb).2.2.2.2⟩
    have I1 := I.pinned fS fun b hb => (so b hb).2
    have fF : ∀ {H' : Hp}, (∀ b ∈ fp, H' b = none) → ∀ b ∈ fp, FpOk (gCx X s0 H0 NG fp (gEnv X scope C code)) ([(a, ob)] ++ pinsAt S s.heap) H' b := fun hn b hb => ⟨hn b hb, (fx.f b hb).1, (fx.f b hb).2.1, .inl hb, (fx.f b hb).2.2.1, fun p hp => by
      have hp : p ∈ [(a, ob)] ++ pinsAt S s.heap := hp
      rcases List.mem_append.mp hp with hp | hp
      · rw [List.mem_singleton.mp hp]; exact Ne.symm (fx.f b hb).2.2.2.1
      · exact fun z => (fx.f b hb).2.2.2.2 (by rw [← z]; exact (of_pinsAt hp).1)⟩
    show Seg _ X.A.in1.in1 _ _ _ s _ ((compTurn (.GeneratorExp elt [⟨tg, iter, [], 0⟩] scope gpos) 0 (.ref it) .none (gEnv X scope C code)).onRaise (leaving (gEnv X scope C code))) [] s
    rw [compTurn_gen, Sem.onRaise_eq_wrap]
    refine seg_bind_wrap (wpAny_standAt ?_)
    rcases turn i σ H hZ with ⟨stop, hF⟩ | ⟨go, hlt, step⟩
    · refine seg_bind_wrap (thn (T.done (gCx X s0 H0 NG fp (gEnv X scope C code)) rfl rfl rfl rfl i _ s σ H _ I1 (fF fr) st stop) fun r s1 ⟨hr, J1⟩ => ?_)
      subst hr
      exact seg_end (.ok .next) ⟨rfl, i, σ, H, by omega, hF, J1⟩
    · refine seg_bind_wrap (thn (T.item (gCx X s0 H0 NG fp (gEnv X scope C code)) rfl rfl rfl rfl i _ s σ H _ I1 (fF fr) st go) fun r s1 ⟨u, hr, h1⟩ => ?_)
      subst hr
      refine seg_bind_wrap (thn h1 fun _ s2 ⟨x, H2, I2, r2, y2, st2, fr2⟩ => ?_)
      have I2' := I2.pinned (fF fr2) (T.obj _ _ st2)
      refine seg_bind_wrap (wpAny_mono (hg.run _ s2 σ H2 x u _ I2' r2 (step x H2 y2)) (fun _ s3 ⟨σ3, H3, I3, q3⟩ => ?_) fun _ _ z => z.elim)
      simp only [List.forIn_nil]
      refine seg_bind_wrap (wpAny_pure ?_)
      simp only [if_true]
      have hy : ∀ v, yieldOut (gEnv X scope C code) v = yieldValue v := fun v => by
        show (if scope.isCoroutine = true then _ else _) = _
        simp only [hco, Bool.false_eq_true, if_false]
      simp only [hy]
      rw [Sem.bind_eq_wrap', Sem.bind_eq_wrap', Sem.wrap_wrap, Sem.wrap_wrap]
      refine seg_wrap (wpAny_mono (he.run _ s3 σ3 H3 _ I3 q3) (fun v s4 ⟨y, H4, I4, r4, q4⟩ => ?_) fun _ _ z => z.elim)
      have en : N + 1 - i = (N + 1 - (i + 1)) + 1 := by omega
      rw [en]
      have pinF : ∀ b ∈ fp, ∃ o, s2.heap.get? b = some o ∧ s4.heap.get? b = some o ∧ H4 b = none := fun b hb => by
        obtain ⟨o, e, d⟩ := T.obj _ _ st2 b hb
        have := I4.pin (b, o) (List.mem_append_right _ (List.mem_append_right _ (mem_pinsAt hb e)))
        exact ⟨o, e, this.1, this.2.1⟩
      have st4 : tn (i + 1) s4.heap := T.keep _ _ _ st2 fun b hb o e => by
        obtain ⟨o', e1, e2, _⟩ := pinF b hb
        rw [e] at e1; cases e1
        exact e2
      have fr4 : ∀ b ∈ fp, H4 b = none := fun b hb => (pinF b hb).elim fun _ h => h.2.2
      have fS4 : ∀ b ∈ S, H4 b = none := fun b hb => by
        obtain ⟨_, o, e, _⟩ := so b hb
        exact (I4.pin (b, o) (List.mem_append_right _ (List.mem_append_left _ (List.mem_append_right _ (mem_pinsAt hb e))))).2.1
      refine seg_at (seg_yield rfl rfl rfl ⟨i, y, σ3, H4, by omega, hlt, r4, q4, I4.unpinned, st4, fr4, fS4, fun s'' z1 z2 z3 z4 => ?_⟩)
      exact seg_again rfl (ih (i + 1) s'' σ3 H4 (by omega) hlt z1 z2 z3 fr4 z4)
theorem seg_start {elt tg iter : Expr} {scope : Scope} {gpos : Pos} {it C : Addr} {code : Value} {J : It} {g : TG} {te : TE} (hce : cenv = gEnv X scope C code) (hco : scope.isCoroutine = false) (fx : GFix X s0 fp cenv a S)
    (T : Turn X.prog X.w X.K tg J fp it tn) (hg : PG (gCx X s0 H0 NG fp cenv) tg g) (he : PE (gCx X s0 H0 NG fp cenv) elt te)
    (turn : ∀ i σ H, Z i σ H → (J.stop i H ∧ F i σ H) ∨ (J.go i H ∧ i < N ∧ ∀ x H2, J.yld i H x H2 → g x σ H2 fun σ2 H3 => te σ2 H3 fun y H4 => P i y σ2 H4))
    (s : Shared) (σ : L2.St) (H : Hp) (hZ : Z 0 σ H) (I : Inv (gCx X s0 H0 NG fp cenv) [(a, ob)] σ H s) (st : tn 0 s.heap) (fr : ∀ b ∈ fp, H b = none) (so : SOk S H s) :
      Seg (model X.prog X.w) X.A.in1.in1 (gR X s0 H0 NG fp cenv a ob S N F) (gY X s0 H0 NG fp cenv a ob S tn N Z P) (N + 1) s (gCode0 X elt tg iter scope gpos it C code) ((model X.prog X.w).den (gCode0 X elt tg iter scope gpos it C code)) [] s := by
  have loop := seg_loop (elt := elt) (tg := tg) (iter := iter) (gpos := gpos) (it := it) hce hco fx T hg he turn N 0 s σ H rfl (Nat.zero_le _) hZ I st fr so
  show Seg _ X.A.in1.in1 _ _ _ s _ ((compStart (.GeneratorExp elt [⟨tg, iter, [], 0⟩] scope gpos) 0 (.ref it) .none (gEnv X scope C code)).onRaise (leaving (gEnv X scope C code))) [] s
  unfold compStart
  rw [Sem.onRaise_eq_wrap]
  show Seg _ X.A.in1.in1 _ _ _ s _ ((ask >>= _).wrap _ _ _ _) [] s
  refine seg_bind_wrap (wpAny_askSetting ?_)
  split
  · exact seg_again rfl loop
  · first
      | exact seg_bind_wrap (wpAny_rule (seg_bind_wrap (wpAny_standAt (seg_bind_wrap (T.self _ 0 s _ _ st (seg_again rfl loop))))))
      | (refine seg_bind_wrap (wpAny_rule ?_); show Seg _ X.A.in1.in1 _ _ _ s _ ((standAt iter.pos >>= _).wrap _ _ _ _) [] s; exact seg_bind_wrap (wpAny_standAt (seg_bind_wrap (T.self _ 0 s _ _ st (seg_again rfl loop)))))
end
theorem bare_set {gens : Array GenState} {g : Nat} {x : GenState} (h : AllBare gens) (hx : x.bare = true) : AllBare (gens.setIfInBounds g x) := fun y hy => by
  rcases Array.mem_or_eq_of_mem_setIfInBounds hy with h1 | h1
  · exact h y h1
  · rw [h1]; exact hx
section
variable (X : Cx) (s0 : Shared) (H0 : Hp) (NG : List Str) (fp : List Addr) (cenv : Env) (a : Addr) (ob : Obj) (g : Nat) (S : List Addr) (tn : Nat → Heap → Prop) (N : Nat) (Z : Nat → L2.St → Hp → Prop) (P : Nat → V → L2.St → Hp → Prop) (F : Nat → L2.St → Hp → Prop)
/-- the generator sleeps at turn i -/
def GenSt (i : Nat) (s : Shared) : Prop := ∃ σ H, i ≤ N ∧ Z i σ H ∧ Inv (gCx X s0 H0 NG fp cenv) [(a, ob)] σ H s ∧ tn i s.heap ∧ (∀ b ∈ fp, H b = none) ∧ SOk S H s ∧ ∃ gs, s.gens[g]? = some gs ∧
  ∀ s'' : Shared, Inv (gCx X s0 H0 NG fp cenv) [(a, ob)] σ H s'' → tn i s''.heap → SOk S H s'' → gs.Goes (model X.prog X.w) X.A.in1.in1 (gR X s0 H0 NG fp cenv a ob S N F) (gY X s0 H0 NG fp cenv a ob S tn N Z P) (N + 1 - i) (.send .none) s''
def GenNext (i : Nat) (s : Shared) (r : Option Value) (s' : Shared) : Prop :=
  (r = none ∧ ∃ σ H, F i σ H ∧ Inv (gCx X s0 H0 NG fp cenv) [(a, ob)] σ H s' ∧ SOk S H s' ∧ ∀ b ∈ S, s'.heap.get? b = s.heap.get? b) ∨
  ∃ v y σ H, r = some v ∧ i < N ∧ RelV y v ∧ P i y σ H ∧ Inv (gCx X s0 H0 NG fp cenv) [(a, ob)] σ H s' ∧ SOk S H s' ∧ (∀ b ∈ S, s'.heap.get? b = s.heap.get? b) ∧
    (Z (i + 1) σ H → ∀ s'' : Shared, Inv (gCx X s0 H0 NG fp cenv) [(a, ob)] σ H s'' → (∀ b ∈ fp, s''.heap.get? b = s'.heap.get? b) → SOk S H s'' → s''.gens = s'.gens → GenSt X s0 H0 NG fp cenv a ob g S tn N Z P F (i + 1) s'')
end
section
variable {X : Cx} {s0 : Shared} {H0 : Hp} {NG : List Str} {fp : List Addr} {cenv : Env} {a : Addr} {ob : Obj} {g : Nat} {S : List Addr} {tn : Nat → Heap → Prop} {N : Nat} {Z : Nat → L2.St → Hp → Prop} {P : Nat → V → L2.St → Hp → Prop} {F : Nat → L2.St → Hp → Prop}
theorem gen_next {tg : Expr} {J : It} {it : Addr} (T : Turn X.prog X.w X.K tg J fp it tn) (hob : ∀ h : Heap, h.get? a = some ob → h.IsGen a g) (hd : X.A.handled = none) (hroom : X.A.depth < recursionLimit) {i : Nat} {s : Shared} {E : Value → Shared → Prop}
    (h : GenSt X s0 H0 NG fp cenv a ob g S tn N Z P F i s) : wpAny (model X.prog X.w) X.A.in1 (pyNext (.ref a)) (GenNext X s0 H0 NG fp cenv a ob g S tn N Z P F i s) E s := by
  obtain ⟨σ, H, hi, hZ, I, st, fr, so, gs, hgs, hgo⟩ := h
  have pa := I.pin (a, ob) (List.mem_append_right _ (List.mem_singleton.mpr rfl))
  have hbs : AllBare (s.setGen g .running).gens := bare_set I.bare rfl
  have hgl : g < s.gens.size := (Array.getElem?_eq_some_iff.mp hgs).1
  refine GenW.wpAny_gsz (n := g + 1) hgl ?_
  refine wpAny_pyNext_genexpQ (P := fun n s₀ s => ∃ i σ H, n + i = N + 1 ∧ F i σ H ∧ Inv (gCx X s0 H0 NG fp cenv) ([(a, ob)] ++ pinsAt S s₀.heap) σ H s) hd I.nolimit hroom (hob _ pa.1) hgs (hgo _ (inv_gens (t' := s.toks) I hbs) st so) (fun v s₁ gs' hb hv => ?_) (fun s₁ hp h' hk => ?_)
  · intro hsz
    obtain ⟨i', y, σ2, H2, e1, hlt, rv, hP, I2, st2, fr2, fS2, kap⟩ := hv
    have ei : i' = i := by omega
    subst ei
    have pS : ∀ b ∈ S, ∃ o, s.heap.get? b = some o ∧ s₁.heap.get? b = some o ∧ ∀ v, o.data ≠ .cell v := fun b hb => by
      obtain ⟨_, o, e, d⟩ := so b hb
      exact ⟨o, e, (I2.pin (b, o) (List.mem_append_right _ (List.mem_append_right _ (mem_pinsAt hb e)))).1, d⟩
    have hb2 : AllBare (s₁.setGen g gs').gens := bare_set I2.bare hb
    refine .inr ⟨v, y, σ2, H2, rfl, hlt, rv, hP, inv_gens (t' := s₁.toks) I2.unpinned hb2, fun b hb => ⟨fS2 b hb, (pS b hb).elim fun o h => ⟨o, h.2.1, h.2.2⟩⟩, fun b hb => ?_, fun hZ2 s'' J1 kf so2 eg => ?_⟩
    · obtain ⟨o, e, e2, _⟩ := pS b hb
      exact e2.trans e.symm
    · have stn : tn (i' + 1) s''.heap := T.keep _ _ _ st2 fun b hb o e => (kf b hb).trans e
      refine ⟨σ2, H2, hlt, hZ2, J1, stn, fr2, so2, gs', ?_, fun s3 J3 st3 so3 => ?_⟩
      · rw [eg]
        exact L2.setGen_at (by
          have q : (s₁.setGen g gs').gens.size = s₁.gens.size := GenW.setGen_size _ _ _
          have hsz' : g + 1 ≤ (s₁.setGen g gs').gens.size := hsz
          omega)
      · have e3 : N + 1 - i' = (N + 1 - (i' + 1)) + 1 := by omega
        have := kap s3 hZ2 J3 st3 so3
        rw [e3] at this
        exact this
  · intro _
    obtain ⟨i', σ2, H2, e1, hF, I2⟩ := hp
    have ei : i' = i := by omega
    subst ei
    have pS : ∀ b ∈ S, ∃ o, s.heap.get? b = some o ∧ s₁.heap.get? b = some o ∧ (∀ v, o.data ≠ .cell v) ∧ H2 b = none := fun b hb => by
      obtain ⟨_, o, e, d⟩ := so b hb
      have p := I2.pin (b, o) (List.mem_append_right _ (List.mem_append_right _ (mem_pinsAt hb e)))
      exact ⟨o, e, p.1, d, p.2.1⟩
    have hb2 : AllBare (s₁.setGen g .finished).gens := bare_set I2.bare rfl
    have J1 := (inv_gens (t' := s₁.toks) I2.unpinned hb2).kept (t' := s₁.toks) hk
    refine .inl ⟨rfl, σ2, H2, hF, J1, fun b hb => ⟨(pS b hb).elim fun _ h => h.2.2.2, (pS b hb).elim fun o h => ⟨o, hk _ _ h.2.1, h.2.2.1⟩⟩, fun b hb => ?_⟩
    obtain ⟨o, e, e2, _⟩ := pS b hb
    exact (hk _ _ e2).trans e.symm
theorem all_loop {tg : Expr} {J : It} {it : Addr} {Q : VK} (T : Turn X.prog X.w X.K tg J fp it tn) (hob : ∀ h : Heap, h.get? a = some ob → h.IsGen a g) (hd : X.A.handled = none) (hroom : X.A.depth < recursionLimit) : ∀ (k i : Nat) (s : Shared), N - i = k →
    GenSt X s0 H0 NG fp cenv a ob g [] tn N Z (fun i y σ H => (y = .bl true ∧ Z (i + 1) σ H) ∨ (y = .bl false ∧ Q (.bl false) H)) (fun _ _ H => Q (.bl true) H) i s →
    codeAny (model X.prog X.w) X.A (.builtin "all.loop" ⟨[.ref a], []⟩) (fun r s' => ∃ b σ H, r = .ok (.ret (.bool b)) ∧ Inv (gCx X s0 H0 NG fp cenv) [(a, ob)] σ H s' ∧ Q (.bl b) H) s := by
  intro k
  induction k with
  | zero =>
    intro i s hk h
    refine codeAny_builtin F.entry_all_loop ?_
    rw [Around.under_plainId F.plain_all_loop _]
    show wpAny _ X.A.in1 (pyNext (.ref a) >>= _) _ _ s
    refine wpAny_bind (thn (gen_next T hob hd hroom h) fun r s' hn => ?_)
    rcases hn with ⟨rfl, σ, H, hF, I, _⟩ | ⟨v, y, σ, H, rfl, hlt, _⟩
    · exact wpAny_bind (wpAny_rule (wpAny_pure ⟨true, σ, H, rfl, I, hF⟩))
    · omega
  | succ k ih =>
    intro i s hk h
    refine codeAny_builtin F.entry_all_loop ?_
    rw [Around.under_plainId F.plain_all_loop _]
    show wpAny _ X.A.in1 (pyNext (.ref a) >>= _) _ _ s
    refine wpAny_bind (thn (gen_next T hob hd hroom h) fun r s' hn => ?_)
    rcases hn with ⟨rfl, σ, H, hF, I, _⟩ | ⟨v, y, σ, H, rfl, hlt, rv, hP, I, so, _, next⟩
    · exact wpAny_bind (wpAny_rule (wpAny_pure ⟨true, σ, H, rfl, I, hF⟩))
    · rcases hP with ⟨rfl, hZ⟩ | ⟨rfl, hQ⟩
      · obtain rfl : v = .bool true := rv
        refine wpAny_bind (wpAny_holding (wpAny_truthy_bool ?_))
        refine wpAny_bind (wpAny_letGo ?_)
        simp only [if_true]
        exact wpAny_pure ⟨plainId_quiet F.plain_all_loop _, ih (i + 1) _ (by omega) (next hZ s' I (fun _ _ => rfl) so rfl)⟩
      · obtain rfl : v = .bool false := rv
        refine wpAny_bind (wpAny_holding (wpAny_truthy_bool ?_))
        refine wpAny_bind (wpAny_letGo ?_)
        simp only [Bool.false_eq_true, if_false]
        exact wpAny_bind (wpAny_rule (wpAny_pure ⟨false, σ, H, rfl, I, hQ⟩))
theorem any_loop {tg : Expr} {J : It} {it : Addr} {Q : VK} (T : Turn X.prog X.w X.K tg J fp it tn) (hob : ∀ h : Heap, h.get? a = some ob → h.IsGen a g) (hd : X.A.handled = none) (hroom : X.A.depth < recursionLimit) : ∀ (k i : Nat) (s : Shared), N - i = k →
    GenSt X s0 H0 NG fp cenv a ob g [] tn N Z (fun i y σ H => (y = .bl false ∧ Z (i + 1) σ H) ∨ (y = .bl true ∧ Q (.bl true) H)) (fun _ _ H => Q (.bl false) H) i s →
    codeAny (model X.prog X.w) X.A (.builtin "any.loop" ⟨[.ref a], []⟩) (fun r s' => ∃ b σ H, r = .ok (.ret (.bool b)) ∧ Inv (gCx X s0 H0 NG fp cenv) [(a, ob)] σ H s' ∧ Q (.bl b) H) s := by
  intro k
  induction k with
  | zero =>
    intro i s hk h
    refine codeAny_builtin F.entry_any_loop ?_
    rw [Around.under_plainId F.plain_any_loop _]
    show wpAny _ X.A.in1 (pyNext (.ref a) >>= _) _ _ s
    refine wpAny_bind (thn (gen_next T hob hd hroom h) fun r s' hn => ?_)
    rcases hn with ⟨rfl, σ, H, hF, I, _⟩ | ⟨v, y, σ, H, rfl, hlt, _⟩
    · exact wpAny_bind (wpAny_rule (wpAny_pure ⟨false, σ, H, rfl, I, hF⟩))
    · omega
  | succ k ih =>
    intro i s hk h
    refine codeAny_builtin F.entry_any_loop ?_
    rw [Around.under_plainId F.plain_any_loop _]
    show wpAny _ X.A.in1 (pyNext (.ref a) >>= _) _ _ s
    refine wpAny_bind (thn (gen_next T hob hd hroom h) fun r s' hn => ?_)
    rcases hn with ⟨rfl, σ, H, hF, I, _⟩ | ⟨v, y, σ, H, rfl, hlt, rv, hP, I, so, _, next⟩
    · exact wpAny_bind (wpAny_rule (wpAny_pure ⟨false, σ, H, rfl, I, hF⟩))
    · rcases hP with ⟨rfl, hZ⟩ | ⟨rfl, hQ⟩
      · obtain rfl : v = .bool false := rv
        refine wpAny_bind (wpAny_holding (wpAny_truthy_bool ?_))
        refine wpAny_bind (wpAny_letGo ?_)
        simp only [Bool.false_eq_true, if_false]
        exact wpAny_pure ⟨plainId_quiet F.plain_any_loop _, ih (i + 1) _ (by omega) (next hZ s' I (fun _ _ => rfl) so rfl)⟩
      · obtain rfl : v = .bool true := rv
        refine wpAny_bind (wpAny_holding (wpAny_truthy_bool ?_))
        refine wpAny_bind (wpAny_letGo ?_)
        simp only [if_true]
        exact wpAny_bind (wpAny_rule (wpAny_pure ⟨true, σ, H, rfl, I, hQ⟩))
/-- the sum so far stands in the list at S -/
theorem sum_loop {tg : Expr} {J : It} {it : Addr} {Q : VK} {S : Addr} {vals : List Int} (hfp : ∀ b ∈ fp, b ≠ S) (hSa : S ≠ a) (T : Turn X.prog X.w X.K tg J fp it tn) (hob : ∀ h : Heap, h.get? a = some ob → h.IsGen a g) (hd : X.A.handled = none) (hroom : X.A.depth < recursionLimit)
    (hS : s0.heap.objs.size ≤ S ∧ S ≠ cenv.locals ∧ S ∉ frs X.stack ∧ (∀ x c, cenv.cells.lookup x = some c → c ≠ S))
    (hfit : ∀ j v, vals[j]? = some v → InLong v ∧ InLong ((vals.take j).sum + v)) : ∀ (k i : Nat) (s : Shared) (tA : Tok) (c : Nat), N - i = k →
    GenSt X s0 H0 NG fp cenv a ob g [S] tn N Z (fun i y σ H => ∃ v, vals[i]? = some v ∧ y = .int v ∧ Z (i + 1) σ H) (fun i _ H => i = vals.length ∧ Q (.int vals.sum) H) i s → s.heap.get? S = some { cls := .type "list", dict := none, data := .seq #[.int (vals.take i).sum tA] c, slots := #[] } →
    codeAny (model X.prog X.w) X.A (.builtin "sum.loop" ⟨[.ref a, .ref S, rawInt 0, rawInt 0], []⟩) (fun r s' => ∃ t σ H, r = .ok (.ret (.int vals.sum t)) ∧ Inv (gCx X s0 H0 NG fp cenv) [(a, ob)] σ H s' ∧ Q (.int vals.sum) H) s := by
  intro k
  have fin : ∀ (i : Nat) (tA : Tok), i = vals.length → (vals.take i).sum = vals.sum := fun i _ e => by rw [e, List.take_length]
  induction k with
  | zero =>
    intro i s tA c hk h hs
    refine codeAny_builtin F.entry_sum_loop ?_
    rw [Around.under_plainId F.plain_sum_loop _]
    show wpAny _ X.A.in1 (seqItems? (.ref S) >>= _) _ _ s
    refine wpAny_bind (wpAny_seqItems hs rfl ?_)
    show wpAny _ X.A.in1 (tryCatch (pyNext (.ref a)) _ >>= _) _ _ s
    refine wpAny_bind (wpAny_tryCatch (thn (gen_next T hob hd hroom h) fun r s' hn => ?_))
    rcases hn with ⟨rfl, σ, H, ⟨e, hF⟩, I, _⟩ | ⟨v, y, σ, H, rfl, hlt, _⟩
    · exact wpAny_pure ⟨tA, σ, H, by rw [← fin i tA e]; rfl, I, hF⟩
    · omega
  | succ k ih =>
    intro i s tA c hk h hs
    refine codeAny_builtin F.entry_sum_loop ?_
    rw [Around.under_plainId F.plain_sum_loop _]
    show wpAny _ X.A.in1 (seqItems? (.ref S) >>= _) _ _ s
    refine wpAny_bind (wpAny_seqItems hs rfl ?_)
    show wpAny _ X.A.in1 (tryCatch (pyNext (.ref a)) _ >>= _) _ _ s
    refine wpAny_bind (wpAny_tryCatch (thn (gen_next T hob hd hroom h) fun r s' hn => ?_))
    rcases hn with ⟨rfl, σ, H, ⟨e, hF⟩, I, _⟩ | ⟨v, y, σ, H, rfl, hlt, rv, ⟨z, hz, rfl, hZ⟩, I, so, same, next⟩
    · exact wpAny_pure ⟨tA, σ, H, by rw [← fin i tA e]; rfl, I, hF⟩
    · obtain ⟨t, rfl⟩ := _root_.id rv
      have hS' : s'.heap.get? S = some { cls := .type "list", dict := none, data := .seq #[.int (vals.take i).sum tA] c, slots := #[] } := (same S (List.mem_singleton.mpr rfl)).trans hs
      obtain ⟨⟨f1, f2⟩, f3, f4⟩ := hfit i z hz
      have hc : ((decide (-(2 ^ 63) ≤ z) && decide (z < 2 ^ 63)) && (decide (-(2 ^ 63) ≤ (vals.take i).sum + z) && decide ((vals.take i).sum + z < 2 ^ 63))) = true := by
        simp only [Bool.and_eq_true, decide_eq_true_eq]
        exact ⟨⟨f1, f2⟩, f3, f4⟩
      have es : (vals.take (i + 1)).sum = (vals.take i).sum + z := by
        rw [List.take_succ, hz]; simp
      show wpAny _ X.A.in1 (if (_ : Bool) = true then (mkInt ((vals.take i).sum + z) >>= _) else _) _ _ _
      split
      · refine wpAny_bind (wpAny_mkInt ?_)
        show wpAny _ X.A.in1 (updateSeq S (fun _ => #[.int ((vals.take i).sum + z) s'.toks]) >>= _) _ _ _
        refine wpAny_bind ?_
        refine wpAny_updateSeq hS' rfl (wpAny_pure ⟨plainId_quiet F.plain_sum_loop _, ih (i + 1) _ s'.toks _ (by omega) (next hZ _ ?_ (fun b hb => ?_) ?_ rfl) (by rw [es]; exact Heap.get?_update_self _ hS' rfl)⟩)
        · refine (inv_gens (t' := s'.toks + 1) I I.bare).turned (it := S) (fun b o hb e => (Heap.get?_update_other _ _ (Ne.symm hb)).trans e) (so S (List.mem_singleton.mpr rfl)).1 hS.2.1 (.inr hS.1) hS.2.2.2 fun p hp => ?_
          have hp : p ∈ [(a, ob)] := hp
          rw [List.mem_singleton.mp hp]
          exact Ne.symm hSa
        · exact Heap.get?_update_other _ _ (Ne.symm (hfp b hb))
        · intro b hb
          rw [List.mem_singleton.mp hb]
          exact ⟨(so S (List.mem_singleton.mpr rfl)).1, _, Heap.get?_update_self _ hS' rfl, fun v e => by cases e⟩
      · rename_i hn
        exact absurd hc hn
end
/-! ### the making -/
/-- a generator has been made: a, at s5; H3 is what is held from then on -/
def Made (X : Cx) (pins : List (Addr × Obj)) (σ : L2.St) (NG : List Str) (js : List (Option Nat)) (elt tg iter : Expr) (scope : Scope) (gpos : Pos) (J : It) (H3 : Hp) (a : Addr) (s5 : Shared) : Prop :=
  ∃ (s3 : Shared) (it : Addr) (fp : List Addr) (tn : Nat → Heap → Prop) (C : Addr) (code : Value) (ob : Obj) (g : Nat), Inv X pins σ H3 s3 ∧ Turn X.prog X.w X.K tg J fp it tn ∧ tn 0 s5.heap ∧ (∀ b ∈ fp, FpOk X pins H3 b) ∧ (∀ b ∈ fp, b < s3.heap.objs.size) ∧ C = s3.heap.objs.size ∧ C < a ∧
    Inv (gCx X s3 H3 NG fp (gEnv X scope C code)) [(a, ob)] (capS js σ) H3 s5 ∧ s5.gens[g]? = some (.fresh (gCode0 X elt tg iter scope gpos it C code)) ∧ (∀ h : Heap, h.get? a = some ob → h.IsGen a g)
section
variable {X : Cx} {pins : List (Addr × Obj)} {σ : L2.St} {H : Hp} {s : Shared}
theorem gen_make {c P : Addr} {elt tg iter : Expr} {gpos : Pos} {scope : Scope} {NG : List Str} {js : List (Option Nat)} {wi : TI} {k : Nat} {Q' : Value → Shared → Prop} {R : It → Hp → Prop}
    (hr : Room k X.A) (TB : TabB X.base X.mg c P) (hcode : X.env.code = .ref c) (G : GSc X.env.scope scope) (hi : PI X tg iter wi) (hN : capB X.N NG scope js = true)
    (hs : ∀ v, genFold iter X.env v = pure v) (I : Inv X pins σ H s) (h : wi σ H fun J H1 => TabG H1 P ∧ R J H1)
    (hQ : ∀ J H1 H3 a s5, Tabbed P H1 H3 → R J H1 → Made X pins σ NG js elt tg iter scope gpos J H3 a s5 → Q' (.ref a) s5) :
    wpAny (model X.prog X.w) X.A (eval (.GeneratorExp elt [⟨tg, iter, [], 0⟩] scope gpos) X.env) Q' X.xe s := by
  have hfree : ∀ y ∈ scope.names, y.2 = .free → ∃ c, X.env.cells.lookup y.1 = some c := fun y hy e => by
    rcases G.free y hy e with k | k
    · exact I.ok.has _ (.inl k)
    · exact I.ok.has _ (.inr k)
  refine wpAny_GeneratorExp_make G.co (closure_ok hfree) G.cell G.dot G.kind (by have := hr.dp; omega) ?_ hs
  refine thn (hi.run pins s σ H _ I h) fun xv s1 h1 => thn h1 fun itv s2 h2 => ?_
  obtain ⟨it, fp, tn, J, H2, rfl, I2, T, st2, f2, ⟨ps, hP, ht⟩, hR⟩ := h2
  have hPs : s2.heap.get? P = some { cls := .none, data := .fields ps } := I2.hok P _ hP
  have cd : PySem.W.CodeHd s2.heap c P := TB.code.keeps I2.bk
  refine ⟨I2.nolimit, ?_⟩
  have cont : ∀ (code : Value) (h3 : Heap) (tk : Nat) (more : Array Value), (∀ b o, b ≠ P → s2.heap.get? b = some o → h3.get? b = some o) → h3.get? P = some { cls := .none, data := .fields (ps ++ more) } → TriplesOk (ps ++ more).toList →
      wpAny (model X.prog X.w) X.A (builtinsFor X.env.globals X.env.builtins) (fun bi s₄ =>
        ∀ h' : Heap, h'.Ns s₄.heap.objs.size (fun y => if y = ".0" then some (.ref it) else none) → Heap.SameBut s₄.heap.objs.size (s₄.heap.push { cls := .type "frame", data := .dict #[] }) h' →
          Q' (.ref h'.objs.size) { s₄ with
            gens := s₄.gens.push (.fresh (.compStart (.GeneratorExp elt [⟨tg, iter, [], 0⟩] scope gpos) 0 (.ref it) .none (genEnv scope (cloFrom X.env.cells scope.names []) s₄.heap.objs.size code bi X.env))),
            toks := s₄.toks + 1 + 1 + 1,
            heap := h'.push { cls := .type "generator", data := .fields #[.int s₄.gens.size 0, .str "<genexpr>" (s₄.toks + 1), .str (X.env.qual ++ "<genexpr>") (s₄.toks + 1 + 1)] } }) X.xe { s2 with heap := h3, toks := tk } := by
    intro code h3 tk more hx hP3 ht3
    have J3 : Inv X pins σ (upd H2 P (.tbl (ps ++ more))) { s2 with heap := h3, toks := tk } := inv_tab (g' := s2.gens) (d' := s2.drawn) I2 hP hx hP3 I2.bare
    obtain ⟨bm, ob, e1, e2, e3, e4, e5, e6, e7, e8⟩ := TB.bm
    refine wpAny_builtinsFor (m := X.mg) (by rw [J3.ok.glob]; exact J3.mod.glob.keeps J3.bk) e1 e2 (J3.bk _ _ e5) e6 e7 e8 ?_
    intro h' hn' hs'
    have hfP : ∀ b ∈ fp, b ≠ P := fun b hb z => by
      have := (f2 b hb).1
      rw [z, hP] at this
      cases this
    have hsz : h'.objs.size = h3.objs.size + 1 := by rw [hs'.1, Heap.size_push]
    have keep' : ∀ b o, h3.get? b = some o → h'.get? b = some o := fun b o e => hs'.extBut b o (Nat.ne_of_lt (Heap.lt_size e)) (Heap.get?_push_of_some _ e)
    have keep₅ : ∀ b o, h3.get? b = some o → (h'.push { cls := .type "generator", data := .fields #[.int s2.gens.size 0, .str "<genexpr>" (tk + 1), .str (X.env.qual ++ "<genexpr>") (tk + 1 + 1)] }).get? b = some o :=
      fun b o e => Heap.get?_push_of_some _ (keep' b o e)
    have f3 : ∀ b ∈ fp, FpOk X pins (upd H2 P (.tbl (ps ++ more))) b := fun b hb => ⟨by rw [upd_ne (hfP b hb)]; exact (f2 b hb).1, (f2 b hb).2⟩
    have fl : ∀ b ∈ fp, b < h3.objs.size := fun b hb => by
      obtain ⟨o, e, _⟩ := T.obj _ _ st2 b hb
      exact Heap.lt_size (hx b o (hfP b hb) e)
    have IX := gen_start (s := { s2 with heap := h3, toks := tk }) (NG := NG) (code := code) (it := it) (js := js) (tk := tk + 1 + 1 + 1) (g₁ := s2.gens.push (.fresh (.compStart (.GeneratorExp elt [⟨tg, iter, [], 0⟩] scope gpos) 0 (.ref it) .none (gEnv X scope h3.objs.size code)))) J3 G f3 fl hr.hd (hn'.push _) keep₅ (I2.bare.push rfl) hN
    have aF : h3.objs.size ≤ h'.objs.size := by omega
    refine hQ J H2 _ h'.objs.size _ ⟨⟨ps ++ more, upd_same, ht3⟩, fun b hb => upd_ne hb⟩ hR ⟨{ s2 with heap := h3, toks := tk }, it, fp, tn, h3.objs.size, code, { cls := .type "generator", data := .fields #[.int s2.gens.size 0, .str "<genexpr>" (tk + 1), .str (X.env.qual ++ "<genexpr>") (tk + 1 + 1)] }, s2.gens.size, J3, T, T.keep _ _ _ st2 fun b hb o e => keep₅ b o (hx b o (hfP b hb) e), f3, fl, rfl, (by show h3.objs.size < h'.objs.size; omega), IX.pins_of fun p hp => ?_, Array.getElem?_push_size .., fun h e => ⟨_, _, _, e, rfl, rfl, rfl⟩⟩
    rw [List.mem_singleton.mp hp]
    have nfr : h'.objs.size ∉ frs X.stack := fun z => by
      rcases List.mem_cons.mp (J3.stkSub _ z) with e | e
      · have h1 : X.env.locals < h3.objs.size := J3.lt
        have e : (h'.objs.size : Nat) = X.env.locals := e
        rw [← e] at h1
        exact absurd (Nat.lt_of_lt_of_le h1 aF) (Nat.lt_irrefl _)
      · exact J3.nofs (a := h'.objs.size) aF e
    refine ⟨Heap.get?_push_size _ rfl, J3.hok.fresh aF, ?_, nfr, fun v e => by cases e⟩
    show h'.objs.size ≠ h3.objs.size
    omega
  cases hf : codeAmong gpos ps.toList with
  | none =>
    refine wpAny_genexprCodeX hcode (cd.code hPs ht) (cd.tab hPs) hf fun c' h' tk hx hge hlt hco' _ htab' _ => ?_
    obtain ⟨o1, vs, f1, tf, fl, tg, inF, tx, tt, op, _, _, _, _, _, _, _, _, _, htr, _⟩ := hco'
    exact cont _ h' tk _ (fun b o hb e => hx b o hb e) htab'.2 htr
  | some cv =>
    refine wpAny_genexprCode_hit hcode (cd.code hPs ht) hf ?_
    exact cont cv s2.heap s2.toks #[] (fun _ _ _ e => e) (by rw [Array.append_empty]; exact hPs) (by rw [Array.append_empty]; exact ht)
/-- behind it -/
theorem gen_after {s3 s' : Shared} {H3 H' : Hp} {NG : List Str} {fp : List Addr} {cenv : Env} {pins' : List (Addr × Obj)} {σ' : L2.St} (I : Inv X pins σ H3 s3) (hf : ∀ b ∈ fp, FpOk X pins H3 b) (J : Inv (gCx X s3 H3 NG fp cenv) pins' σ' H' s') : Inv X pins σ H' s' :=
  I.call' J.os J.base J.hok J.bare fun b hb => ⟨(hf b hb).2.2.2.1, (hf b hb).2.1, (hf b hb).2.2.2.2.1, (hf b hb).2.2.2.2.2⟩
end
/-! ### any, all, sum -/
/-- what a generator's frame hangs on -/
structure GPar where
  s : Shared
  H : Hp
  fp : List Addr
  C : Addr
  code : Value
def tQG (al : Bool) (P : Addr) (js : List (Option Nat)) (wi : TI) (g : GPar → TG) (te : GPar → TE) : TE := fun σ H Q => wi σ H fun J H1 => TabG H1 P ∧ ∀ a H3, Tabbed P H1 H3 → ∃ (N : Nat) (Z : Nat → L2.St → Hp → Prop), Z 0 (capS js σ) H3 ∧
  ∀ i σ' H', Z i σ' H' → (J.stop i H' ∧ Q (.bl al) H') ∨ (J.go i H' ∧ i < N ∧ ∀ x H2, J.yld i H' x H2 → g a x σ' H2 fun σ2 H4 => te a σ2 H4 fun y H5 => (y = .bl al ∧ Z (i + 1) σ2 H5) ∨ (y = .bl (!al) ∧ Q (.bl (!al)) H5))
def tSumG (P : Addr) (js : List (Option Nat)) (wi : TI) (g : GPar → TG) (te : GPar → TE) : TE := fun σ H Q => wi σ H fun J H1 => TabG H1 P ∧ ∀ a H3, Tabbed P H1 H3 → ∃ (vals : List Int) (Z : Nat → L2.St → Hp → Prop), (∀ (j : Nat) (v : Int), vals[j]? = some v → InLong v ∧ InLong ((vals.take j).sum + v)) ∧ Z 0 (capS js σ) H3 ∧
  ∀ i σ' H', Z i σ' H' → (J.stop i H' ∧ i = vals.length ∧ Q (.int vals.sum) H') ∨ (J.go i H' ∧ i < vals.length ∧ ∀ x H2, J.yld i H' x H2 → g a x σ' H2 fun σ2 H4 => te a σ2 H4 fun y H5 => ∃ v, vals[i]? = some v ∧ y = .int v ∧ Z (i + 1) σ2 H5)
section
variable {X : Cx} {c P : Addr} {elt tg iter : Expr} {p gpos pos : Pos} {scope : Scope} {NG : List Str} {js : List (Option Nat)} {wi : TI} {g : GPar → TG} {te : GPar → TE} {k : Nat}
theorem gfix {s3 : Shared} {H3 : Hp} {pins : List (Addr × Obj)} {σ : L2.St} {fp : List Addr} {code : Value} {a : Addr} (I : Inv X pins σ H3 s3) (G : GSc X.env.scope scope) (f : ∀ b ∈ fp, FpOk X pins H3 b) (fl : ∀ b ∈ fp, b < s3.heap.objs.size) (ha : s3.heap.objs.size < a) {S : List Addr} (hS : ∀ b ∈ S, a < b) :
    GFix X s3 fp (gEnv X scope s3.heap.objs.size code) a S := by
  have hfree : ∀ y ∈ scope.names, y.2 = .free → ∃ c, X.env.cells.lookup y.1 = some c := fun y hy e => by
    rcases G.free y hy e with k | k
    · exact I.ok.has _ (.inl k)
    · exact I.ok.has _ (.inr k)
  have cm : ∀ {y c}, (cloFrom X.env.cells scope.names []).lookup y = some c → X.env.cells.lookup y = some c := fun {y c} e => by
    rcases cloFrom_mem (PySem.mem_of_lookup e) with hm | ⟨h1, h2⟩
    · cases hm
    · obtain ⟨c1, hc⟩ := hfree _ h1 rfl
      have hc : X.env.cells.lookup y = some c1 := hc
      have e2 : c = c1 := by
        rw [h2, hc] <;> rfl
      rw [e2]
      exact hc
  have nfr : ∀ b, s3.heap.objs.size ≤ b → b ∉ frs X.stack := fun b hb z => by
    rcases List.mem_cons.mp (I.stkSub _ z) with e | e
    · have h1 := I.lt
      rw [← e] at h1
      exact Nat.lt_irrefl _ (Nat.lt_of_lt_of_le h1 hb)
    · exact I.nofs hb e
  refine ⟨fun b hb => ⟨Nat.ne_of_lt (fl b hb), fun z => ?_, fun x c e => (f b hb).2.2.2.2.1 x c (cm e), Nat.ne_of_lt (Nat.lt_trans (fl b hb) ha), fun z => absurd (Nat.lt_trans (Nat.lt_trans (fl b hb) ha) (hS b z)) (Nat.lt_irrefl _)⟩,
    fun b hb => ⟨Nat.le_of_lt (Nat.lt_trans ha (hS b hb)), Nat.ne_of_gt (Nat.lt_trans ha (hS b hb)), nfr b (Nat.le_of_lt (Nat.lt_trans ha (hS b hb))), fun x c e z => ?_, Nat.ne_of_gt (hS b hb)⟩⟩
  · rcases List.mem_cons.mp (I.stkSub b z) with e | e
    · exact (f b hb).2.1 e
    · exact (f b hb).2.2.1 e
  · obtain ⟨v, q⟩ := I.cell x c (cm e)
    have h1 : c < s3.heap.objs.size := q.lt
    rw [z] at h1
    exact Nat.lt_irrefl _ (Nat.lt_trans (Nat.lt_trans ha (hS b hb)) h1)
theorem pe_allG (hr : Room (k + 1) X.A) (hgl : Gl X "all") (hm : X.mg "all" = none) (hb : bootBuiltins "all" = some (.builtin "all")) (TB : TabB X.base X.mg c P) (hcode : X.env.code = .ref c) (G : GSc X.env.scope scope) (hi : PI X tg iter wi) (hN : capB X.N NG scope js = true)
    (hg : ∀ a : GPar, PG (gCx X a.s a.H NG a.fp (gEnv X scope a.C a.code)) tg (g a)) (he : ∀ a : GPar, Room k (gA X (gEnv X scope a.C a.code)) → PE (gCx X a.s a.H NG a.fp (gEnv X scope a.C a.code)) elt (te a)) (hs : ∀ v, genFold iter X.env v = pure v)
    (hst : starEach [.GeneratorExp elt [⟨tg, iter, [], 0⟩] scope gpos] X.env = (false, eval (.GeneratorExp elt [⟨tg, iter, [], 0⟩] scope gpos) X.env) :: starEach [] X.env := by rfl) :
    PE X (.Call (.Name "all" p) [.GeneratorExp elt [⟨tg, iter, [], 0⟩] scope gpos] [] pos) (tQG true P js wi g te) := by
  refine ⟨fun pins s σ H Q I h => ?_⟩
  refine wpAny_Call_Name_kw (ld_blt I hgl hm hb ?_)
  refine PyProof.Rows.callWith_builtin1 ?_ hst (by rfl)
  rw [hst]
  show wpAny _ _ (spliced ((false, eval (.GeneratorExp elt [⟨tg, iter, [], 0⟩] scope gpos) X.env) :: backTo pos (starEach [] X.env))) _ _ s
  refine Calls.spliced_cons (gen_make hr TB hcode G hi hN hs I h fun J H1 H3 a s5 hT hR M => ?_)
  refine Calls.spliced_nil ?_
  obtain ⟨s3, it, fp, tn, C, code, ob, gn, I3, T, st5, f3, fl, rfl, ha, I5, hgs, hob⟩ := M
  obtain ⟨N, Z, z0, turn⟩ := hR ⟨s3, H3, fp, s3.heap.objs.size, code⟩ H3 hT
  have fx : GFix X s3 fp (gEnv X scope s3.heap.objs.size code) a [] := gfix I3 G f3 fl ha (fun b hb => absurd hb (by simp))
  have pa := I5.pin (a, ob) (List.mem_append_right _ (List.mem_singleton.mpr rfl))
  have g0 : GenSt X s3 H3 NG fp (gEnv X scope s3.heap.objs.size code) a ob gn [] tn N Z (fun i y σ H => (y = .bl true ∧ Z (i + 1) σ H) ∨ (y = .bl false ∧ Q (.bl false) H)) (fun _ _ H => Q (.bl true) H) 0 s5 :=
    ⟨_, _, Nat.zero_le _, z0, I5, st5, fun b hb => (f3 b hb).1, fun b hb => absurd hb (by simp), _, hgs, fun s'' J2 st2 so2 => ⟨rfl, seg_start rfl G.co fx T (hg ⟨s3, H3, fp, s3.heap.objs.size, code⟩) (he ⟨s3, H3, fp, s3.heap.objs.size, code⟩ (room_g hr)) turn s'' _ _ z0 J2 st2 (fun b hb => (f3 b hb).1) so2⟩⟩
  refine call_function_tree F.kind_all F.plain_all F.entry_all (F.args_all1 _) ?_
  unfold Builtin.«all»
  refine wpAny_bind (m := oneArg "all" _) (wpAny_pure ?_)
  refine wpAny_bind (wpAny_pyIter_gen (hob _ pa.1) ?_)
  refine wpAny_pure ⟨plainId_quiet F.plain_all_loop _, codeAny_mono (all_loop (Q := Q) T hob hr.hd (by have := hr.dp; omega) N 0 s5 rfl g0) fun r s' hq => ?_⟩
  obtain ⟨b, σ', H', rfl, J2, q⟩ := hq
  exact ⟨.bl b, H', gen_after I3 f3 J2, rfl, q⟩
theorem pe_anyG (hr : Room (k + 1) X.A) (hgl : Gl X "any") (hm : X.mg "any" = none) (hb : bootBuiltins "any" = some (.builtin "any")) (TB : TabB X.base X.mg c P) (hcode : X.env.code = .ref c) (G : GSc X.env.scope scope) (hi : PI X tg iter wi) (hN : capB X.N NG scope js = true)
    (hg : ∀ a : GPar, PG (gCx X a.s a.H NG a.fp (gEnv X scope a.C a.code)) tg (g a)) (he : ∀ a : GPar, Room k (gA X (gEnv X scope a.C a.code)) → PE (gCx X a.s a.H NG a.fp (gEnv X scope a.C a.code)) elt (te a)) (hs : ∀ v, genFold iter X.env v = pure v)
    (hst : starEach [.GeneratorExp elt [⟨tg, iter, [], 0⟩] scope gpos] X.env = (false, eval (.GeneratorExp elt [⟨tg, iter, [], 0⟩] scope gpos) X.env) :: starEach [] X.env := by rfl) :
    PE X (.Call (.Name "any" p) [.GeneratorExp elt [⟨tg, iter, [], 0⟩] scope gpos] [] pos) (tQG false P js wi g te) := by
  refine ⟨fun pins s σ H Q I h => ?_⟩
  refine wpAny_Call_Name_kw (ld_blt I hgl hm hb ?_)
  refine PyProof.Rows.callWith_builtin1 ?_ hst (by rfl)
  rw [hst]
  show wpAny _ _ (spliced ((false, eval (.GeneratorExp elt [⟨tg, iter, [], 0⟩] scope gpos) X.env) :: backTo pos (starEach [] X.env))) _ _ s
  refine Calls.spliced_cons (gen_make hr TB hcode G hi hN hs I h fun J H1 H3 a s5 hT hR M => ?_)
  refine Calls.spliced_nil ?_
  obtain ⟨s3, it, fp, tn, C, code, ob, gn, I3, T, st5, f3, fl, rfl, ha, I5, hgs, hob⟩ := M
  obtain ⟨N, Z, z0, turn⟩ := hR ⟨s3, H3, fp, s3.heap.objs.size, code⟩ H3 hT
  have fx : GFix X s3 fp (gEnv X scope s3.heap.objs.size code) a [] := gfix I3 G f3 fl ha (fun b hb => absurd hb (by simp))
  have pa := I5.pin (a, ob) (List.mem_append_right _ (List.mem_singleton.mpr rfl))
  have g0 : GenSt X s3 H3 NG fp (gEnv X scope s3.heap.objs.size code) a ob gn [] tn N Z (fun i y σ H => (y = .bl false ∧ Z (i + 1) σ H) ∨ (y = .bl true ∧ Q (.bl true) H)) (fun _ _ H => Q (.bl false) H) 0 s5 :=
    ⟨_, _, Nat.zero_le _, z0, I5, st5, fun b hb => (f3 b hb).1, fun b hb => absurd hb (by simp), _, hgs, fun s'' J2 st2 so2 => ⟨rfl, seg_start rfl G.co fx T (hg ⟨s3, H3, fp, s3.heap.objs.size, code⟩) (he ⟨s3, H3, fp, s3.heap.objs.size, code⟩ (room_g hr)) turn s'' _ _ z0 J2 st2 (fun b hb => (f3 b hb).1) so2⟩⟩
  refine call_function_tree F.kind_any F.plain_any F.entry_any (F.args_any1 _) ?_
  unfold Builtin.«any»
  refine wpAny_bind (m := oneArg "any" _) (wpAny_pure ?_)
  refine wpAny_bind (wpAny_pyIter_gen (hob _ pa.1) ?_)
  refine wpAny_pure ⟨plainId_quiet F.plain_any_loop _, codeAny_mono (any_loop (Q := Q) T hob hr.hd (by have := hr.dp; omega) N 0 s5 rfl g0) fun r s' hq => ?_⟩
  obtain ⟨b, σ', H', rfl, J2, q⟩ := hq
  exact ⟨.bl b, H', gen_after I3 f3 J2, rfl, q⟩
theorem pe_sumG (hr : Room (k + 1) X.A) (hgl : Gl X "sum") (hm : X.mg "sum" = none) (hb : bootBuiltins "sum" = some (.builtin "sum")) (TB : TabB X.base X.mg c P) (hcode : X.env.code = .ref c) (G : GSc X.env.scope scope) (hi : PI X tg iter wi) (hN : capB X.N NG scope js = true)
    (hg : ∀ a : GPar, PG (gCx X a.s a.H NG a.fp (gEnv X scope a.C a.code)) tg (g a)) (he : ∀ a : GPar, Room k (gA X (gEnv X scope a.C a.code)) → PE (gCx X a.s a.H NG a.fp (gEnv X scope a.C a.code)) elt (te a)) (hs : ∀ v, genFold iter X.env v = pure v)
    (hst : starEach [.GeneratorExp elt [⟨tg, iter, [], 0⟩] scope gpos] X.env = (false, eval (.GeneratorExp elt [⟨tg, iter, [], 0⟩] scope gpos) X.env) :: starEach [] X.env := by rfl) :
    PE X (.Call (.Name "sum" p) [.GeneratorExp elt [⟨tg, iter, [], 0⟩] scope gpos] [] pos) (tSumG P js wi g te) := by
  refine ⟨fun pins s σ H Q I h => ?_⟩
  refine wpAny_Call_Name_kw (ld_blt I hgl hm hb ?_)
  refine PyProof.Rows.callWith_builtin1 ?_ hst (by rfl)
  rw [hst]
  show wpAny _ _ (spliced ((false, eval (.GeneratorExp elt [⟨tg, iter, [], 0⟩] scope gpos) X.env) :: backTo pos (starEach [] X.env))) _ _ s
  refine Calls.spliced_cons (gen_make hr TB hcode G hi hN hs I h fun J H1 H3 a s5 hT hR M => ?_)
  refine Calls.spliced_nil ?_
  obtain ⟨s3, it, fp, tn, C, code, ob, gn, I3, T, st5, f3, fl, rfl, ha, I5, hgs, hob⟩ := M
  obtain ⟨vals, Z, hfit, z0, turn⟩ := hR ⟨s3, H3, fp, s3.heap.objs.size, code⟩ H3 hT
  have pa := I5.pin (a, ob) (List.mem_append_right _ (List.mem_singleton.mpr rfl))
  have ha5 : a < s5.heap.objs.size := Heap.lt_size pa.1
  have fx : GFix X s3 fp (gEnv X scope s3.heap.objs.size code) a [s5.heap.objs.size] := gfix I3 G f3 fl ha (fun b hb => by rw [List.mem_singleton.mp hb]; exact ha5)
  refine call_function_tree F.kind_sum F.plain_sum F.entry_sum (F.args_sum1 _) ?_
  unfold Builtin.«sum»
  simp only [List.length_cons, List.length_nil]
  rw [if_neg (by decide)]
  refine wpAny_bind (wpAny_of_eq (show Builtin.Builtins.bindParams "sum" ["start"] 0 { } = pure [none] from rfl) ?_)
  refine wpAny_bind (wpAny_pyIter_gen (hob _ pa.1) ?_)
  refine wpAny_bind (wpAny_mkInt ?_)
  refine wpAny_bind (wpAny_pure ?_)
  simp only [List.forIn_cons, List.forIn_nil]
  refine wpAny_bind (wpAny_bind (wpAny_bind (wpAny_isInstance (T := "int") (b := false) (typeIs_int _ _ _) PySem.sub_int_str ?_)))
  simp only [Bool.false_eq_true, if_false]
  refine wpAny_pure (wpAny_bind (wpAny_bind (wpAny_isInstance (T := "int") (b := false) (typeIs_int _ _ _) PySem.sub_int_bytes ?_)))
  simp only [Bool.false_eq_true, if_false]
  refine wpAny_pure (wpAny_bind (wpAny_bind (wpAny_isInstance (T := "int") (b := false) (typeIs_int _ _ _) PySem.sub_int_bytearray ?_)))
  simp only [Bool.false_eq_true, if_false]
  refine wpAny_pure (wpAny_pure ?_)
  refine wpAny_bind (wpAny_newObj_type ?_)
  have I6 : Inv (gCx X s3 H3 NG fp (gEnv X scope s3.heap.objs.size code)) [(a, ob)] (capS js σ) H3 { s5 with heap := s5.heap.push { cls := .type "list", data := .seq #[.int 0 s5.toks] }, toks := s5.toks + 1 } := I5.kept fun b o e => Heap.get?_push_of_some _ e
  have hS6 : (s5.heap.push { cls := .type "list", data := .seq #[.int 0 s5.toks] }).get? s5.heap.objs.size = some { cls := .type "list", data := .seq #[.int 0 s5.toks] } := Heap.get?_push_size _ rfl
  have g0 : GenSt X s3 H3 NG fp (gEnv X scope s3.heap.objs.size code) a ob gn [s5.heap.objs.size] tn vals.length Z (fun i y σ H => ∃ v, vals[i]? = some v ∧ y = .int v ∧ Z (i + 1) σ H) (fun i _ H => i = vals.length ∧ Q (.int vals.sum) H) 0 { s5 with heap := s5.heap.push { cls := .type "list", data := .seq #[.int 0 s5.toks] }, toks := s5.toks + 1 } :=
    ⟨_, _, Nat.zero_le _, z0, I6, T.keep _ _ _ st5 fun b _ o e => Heap.get?_push_of_some _ e, fun b hb => (f3 b hb).1, fun b hb => by
      rw [List.mem_singleton.mp hb]
      exact ⟨I5.hok.fresh (Nat.le_refl _), _, hS6, fun v e => by cases e⟩, _, hgs, fun s'' J2 st2 so2 => ⟨rfl, seg_start rfl G.co fx T (hg ⟨s3, H3, fp, s3.heap.objs.size, code⟩) (he ⟨s3, H3, fp, s3.heap.objs.size, code⟩ (room_g hr)) turn s'' _ _ z0 J2 st2 (fun b hb => (f3 b hb).1) so2⟩⟩
  have hfS := fx.s s5.heap.objs.size (List.mem_singleton.mpr rfl)
  refine wpAny_pure ⟨plainId_quiet F.plain_sum_loop _, codeAny_mono (sum_loop (Q := Q) (fun b hb z => (fx.f b hb).2.2.2.2 (by rw [z]; exact List.mem_singleton.mpr rfl)) hfS.2.2.2.2 T hob hr.hd (by have := hr.dp; omega) ⟨hfS.1, hfS.2.1, hfS.2.2.1, hfS.2.2.2.1⟩ hfit vals.length 0 _ s5.toks _ rfl g0 hS6) fun r s' hq => ?_⟩
  obtain ⟨t, σ', H', rfl, J2, q⟩ := hq
  exact ⟨.int vals.sum, H', gen_after I3 f3 J2, ⟨t, rfl⟩, q⟩
end
end L3G

namespace L3
open PySem L2
open Evl (Ex ex_rd ex_l ex_t sq_of st_of fresh_back)

/-! ### generator expressions -/
def allM {α : Type} (f : α → Option Bool) : List α → Option Bool
  | [] => some true
  | x :: xs => match f x with
    | some true => allM f xs
    | o => o
def anyM {α : Type} (f : α → Option Bool) : List α → Option Bool
  | [] => some false
  | x :: xs => match f x with
    | some false => anyM f xs
    | o => o
def quM {α : Type} (al : Bool) (f : α → Option Bool) : List α → Option Bool
  | [] => some al
  | x :: xs => match f x with
    | some b => if b = al then quM al f xs else some b
    | none => none
theorem quM_all {α : Type} (f : α → Option Bool) : ∀ xs : List α, quM true f xs = allM f xs
  | [] => rfl
  | x :: xs => by
    unfold quM allM
    cases f x with
    | none => rfl
    | some b => cases b with
      | true => exact quM_all f xs
      | false => rfl
theorem quM_any {α : Type} (f : α → Option Bool) : ∀ xs : List α, quM false f xs = anyM f xs
  | [] => rfl
  | x :: xs => by
    unfold quM anyM
    cases f x with
    | none => rfl
    | some b => cases b with
      | false => exact quM_any f xs
      | true => rfl
def mapO {α β : Type} (f : α → Option β) : List α → Option (List β)
  | [] => some []
  | x :: xs => match f x, mapO f xs with
    | some y, some ys => some (y :: ys)
    | _, _ => none
theorem mapO_get {α β : Type} {f : α → Option β} : ∀ {xs : List α} {ys : List β}, mapO f xs = some ys → xs.length = ys.length ∧ ∀ (i : Nat) (x : α), xs[i]? = some x → ∃ y, f x = some y ∧ ys[i]? = some y
  | [], ys, h => by
    obtain rfl : [] = ys := Option.some.inj h
    exact ⟨rfl, fun i x e => by simp at e⟩
  | x :: xs, ys, h => by
    unfold mapO at h
    split at h
    · rename_i y ys' e1 e2
      obtain rfl := Option.some.inj h
      obtain ⟨h1, h2⟩ := mapO_get e2
      refine ⟨congrArg (· + 1) h1, fun i z e => ?_⟩
      cases i with
      | zero => obtain rfl : x = z := by simpa using e
                exact ⟨y, e1, rfl⟩
      | succ i => exact h2 i z (by simpa using e)
    · cases h
def longI (i : Int) : Bool := decide (-(2 ^ 63) ≤ i) && decide (i < 2 ^ 63)
def fits (acc : Int) : List Int → Bool
  | [] => true
  | v :: vs => longI v && longI (acc + v) && fits (acc + v) vs
def sumM {α : Type} (f : α → Option Int) (xs : List α) : Option Int := match mapO f xs with
  | some vs => if fits 0 vs = true then some vs.sum else none
  | none => none
theorem longI_ok {i : Int} (h : longI i = true) : InLong i := by
  unfold longI at h
  rw [Bool.and_eq_true, decide_eq_true_eq, decide_eq_true_eq] at h
  exact h
theorem fits_ok : ∀ {vs : List Int} {acc : Int}, fits acc vs = true → ∀ (j : Nat) (v : Int), vs[j]? = some v → InLong v ∧ InLong (acc + (vs.take j).sum + v)
  | [], _, _, _, _, e => by simp at e
  | w :: vs, acc, h, j, v, e => by
    unfold fits at h
    rw [Bool.and_eq_true, Bool.and_eq_true] at h
    cases j with
    | zero =>
      obtain rfl : w = v := by simpa using e
      exact ⟨longI_ok h.1.1, by simpa using longI_ok h.1.2⟩
    | succ j =>
      have := fits_ok h.2 j v (by simpa using e)
      refine ⟨this.1, ?_⟩
      rw [List.take_succ_cons, List.sum_cons, ← Int.add_assoc]
      exact this.2
section
variable {K : Fg} {M : Fr} {σ : St} {B : Hp} {L L1 L2 L' : List Cell} {α β γ δ : Type} {r : Rep α} {s : Rep β} {t : Rep γ} {ta tb tc te : TE} {tt tu : TT} {tA : TA} {i j k : Int} {b c : Bool} {P : Addr} {js : List (Option Nat)} {wi : TI} {g : L3G.GPar → TG} {ge : L3G.GPar → TE}
theorem Own.tabbed {H H' : Hp} (w : Own K B M L H) (hP : P ∈ M.T) (h : GxR.Tabbed P H H') : Own K B M L H' := by
  obtain ⟨h1, h2⟩ := h
  obtain ⟨t1, t2, t3, t4⟩ := w.t P hP
  refine ⟨fun a u e => ?_, fun a u e => ?_, w.bm, fun x hx => ?_, w.nd, fun R hR => ?_⟩
  · rw [h2 a (ne_of_none e t2)]; exact w.b a u e
  · rw [h2 a (ne_of_none e t3)]; exact w.m a u e
  · obtain ⟨⟨o, a1, a2⟩, a3, a4⟩ := w.l x hx
    exact ⟨⟨o, by rw [h2 x.p (fun e => t4 (by rw [← e]; exact List.mem_map.mpr ⟨x, hx, rfl⟩))]; exact a1, a2⟩, a3, a4⟩
  · obtain ⟨s1, s2, s3, s4⟩ := w.t R hR
    refine ⟨?_, s2, s3, s4⟩
    by_cases e : R = P
    · rw [e]; exact h1
    · obtain ⟨ps, q1, q2⟩ := s1
      exact ⟨ps, by rw [h2 R e]; exact q1, q2⟩
theorem ev_quG (al : Bool) {xs : List α} (hP : P ∈ M.T) (hi : EI K M wi σ B L r xs L1) (f : α → Option Bool) (Sg : St → Prop) (h0 : Sg (L3G.capS js σ)) (hm : quM al f xs = some b)
    (hs : ∀ a x c v B' H' σ', f x = some c → Ex B B' → Sg σ' → Own K B' M L1 H' → r.is K B' v x → ∀ Q : St → VK, (∀ σ2 B2 H2, Sg σ2 → Ex B' B2 → Own K B2 M L1 H2 → Q σ2 (.bl c) H2) → g a v σ' H' fun σ2 H2 => ge a σ2 H2 (Q σ2)) :
    EV K M (L3G.tQG al P js wi g ge) σ B L rBool b L1 := fun B1 H e w Q q =>
  hi B1 H e w _ fun J B2 H2 e2 w2 wk => by
    refine ⟨(w2.t P hP).1, fun a H3 hT => ?_⟩
    have w3 := w2.tabbed hP hT
    refine ⟨xs.length, fun i σ' H' => Sg σ' ∧ (∃ B', Ex B2 B' ∧ Own K B' M L1 H') ∧ i ≤ xs.length ∧ quM al f (xs.drop i) = some b, ⟨h0, ⟨B2, Ex.refl _, w3⟩, Nat.zero_le _, hm⟩, ?_⟩
    rintro i σ' H' ⟨sg, ⟨B', eb, w'⟩, hi, hq⟩
    by_cases hl : i = xs.length
    · subst hl
      refine .inl ⟨wk.stop B' L1 H' eb w', ?_⟩
      rw [List.drop_length] at hq
      obtain rfl : al = b := Option.some.inj hq
      exact q _ B' H' (e2.trans eb) w' rfl
    · have hlt : i < xs.length := by omega
      rw [List.drop_eq_getElem_cons hlt] at hq
      have hx : xs[i]? = some xs[i] := List.getElem?_eq_getElem hlt
      obtain ⟨g1, g2⟩ := wk.go i xs[i] B' L1 H' eb w' hx
      unfold quM at hq
      cases hf : f xs[i] with
      | none => rw [hf] at hq; cases hq
      | some c =>
        rw [hf] at hq
        refine .inr ⟨g1, hlt, fun x H4 hy => ?_⟩
        obtain ⟨B4, e4, w4, hr⟩ := g2 x H4 hy
        refine hs a xs[i] c x B4 H4 σ' hf ((e.trans e2).trans (eb.trans e4)) sg w4 hr _ fun σ2 B5 H5 sg5 e5 w5 => ?_
        have hq : (if c = al then quM al f (xs.drop (i + 1)) else some c) = some b := hq
        by_cases hc : c = al
        · rw [if_pos hc] at hq
          exact .inl ⟨by rw [hc], sg5, ⟨B5, (eb.trans e4).trans e5, w5⟩, hlt, hq⟩
        · rw [if_neg hc] at hq
          obtain rfl : c = b := Option.some.inj hq
          have hn : c = !al := by revert hc; cases c <;> cases al <;> simp
          exact .inr ⟨by rw [hn], hn ▸ q _ B5 H5 (((e2.trans eb).trans e4).trans e5) w5 rfl⟩
theorem ev_allG {xs : List α} (hP : P ∈ M.T) (hi : EI K M wi σ B L r xs L1) (f : α → Option Bool) (Sg : St → Prop) (h0 : Sg (L3G.capS js σ)) (hm : allM f xs = some b)
    (hs : ∀ a x c v B' H' σ', f x = some c → Ex B B' → Sg σ' → Own K B' M L1 H' → r.is K B' v x → ∀ Q : St → VK, (∀ σ2 B2 H2, Sg σ2 → Ex B' B2 → Own K B2 M L1 H2 → Q σ2 (.bl c) H2) → g a v σ' H' fun σ2 H2 => ge a σ2 H2 (Q σ2)) :
    EV K M (L3G.tQG true P js wi g ge) σ B L rBool b L1 := ev_quG true hP hi f Sg h0 (by rw [quM_all]; exact hm) hs
theorem ev_anyG {xs : List α} (hP : P ∈ M.T) (hi : EI K M wi σ B L r xs L1) (f : α → Option Bool) (Sg : St → Prop) (h0 : Sg (L3G.capS js σ)) (hm : anyM f xs = some b)
    (hs : ∀ a x c v B' H' σ', f x = some c → Ex B B' → Sg σ' → Own K B' M L1 H' → r.is K B' v x → ∀ Q : St → VK, (∀ σ2 B2 H2, Sg σ2 → Ex B' B2 → Own K B2 M L1 H2 → Q σ2 (.bl c) H2) → g a v σ' H' fun σ2 H2 => ge a σ2 H2 (Q σ2)) :
    EV K M (L3G.tQG false P js wi g ge) σ B L rBool b L1 := ev_quG false hP hi f Sg h0 (by rw [quM_any]; exact hm) hs
theorem ev_sumG {xs : List α} (hP : P ∈ M.T) (hi : EI K M wi σ B L r xs L1) (f : α → Option Int) (Sg : St → Prop) (h0 : Sg (L3G.capS js σ)) (hm : sumM f xs = some k)
    (hs : ∀ a x c v B' H' σ', f x = some c → Ex B B' → Sg σ' → Own K B' M L1 H' → r.is K B' v x → ∀ Q : St → VK, (∀ σ2 B2 H2, Sg σ2 → Ex B' B2 → Own K B2 M L1 H2 → Q σ2 (.int c) H2) → g a v σ' H' fun σ2 H2 => ge a σ2 H2 (Q σ2)) :
    EV K M (L3G.tSumG P js wi g ge) σ B L rInt k L1 := fun B1 H e w Q q =>
  hi B1 H e w _ fun J B2 H2 e2 w2 wk => by
    unfold sumM at hm
    split at hm
    · rename_i vs hvs
      split at hm
      · rename_i hfit
        obtain rfl := Option.some.inj hm
        obtain ⟨hlen, hget⟩ := mapO_get hvs
        refine ⟨(w2.t P hP).1, fun a H3 hT => ?_⟩
        have w3 := w2.tabbed hP hT
        refine ⟨vs, fun i σ' H' => Sg σ' ∧ (∃ B', Ex B2 B' ∧ Own K B' M L1 H') ∧ i ≤ vs.length, fun j v hv => by simpa using fits_ok hfit j v hv, ⟨h0, ⟨B2, Ex.refl _, w3⟩, Nat.zero_le _⟩, ?_⟩
        rintro i σ' H' ⟨sg, ⟨B', eb, w'⟩, hi⟩
        by_cases hl : i = vs.length
        · subst hl
          refine .inl ⟨by rw [← hlen]; exact wk.stop B' L1 H' eb w', rfl, q _ B' H' (e2.trans eb) w' rfl⟩
        · have hlt : i < vs.length := by omega
          have hlt' : i < xs.length := by omega
          have hx : xs[i]? = some xs[i] := List.getElem?_eq_getElem hlt'
          obtain ⟨g1, g2⟩ := wk.go i xs[i] B' L1 H' eb w' hx
          obtain ⟨y, f1, f2⟩ := hget i _ hx
          refine .inr ⟨g1, hlt, fun x H4 hy => ?_⟩
          obtain ⟨B4, e4, w4, hr⟩ := g2 x H4 hy
          refine hs a xs[i] y x B4 H4 σ' f1 ((e.trans e2).trans (eb.trans e4)) sg w4 hr _ fun σ2 B5 H5 sg5 e5 w5 => ?_
          exact ⟨y, f2, rfl, sg5, ⟨B5, (eb.trans e4).trans e5, w5⟩, hlt⟩
      · cases hm
    · cases hm
end
/-! ### a def with its code object -/
structure FunC (K : Fg) (x : Str) (st : Stmt) (f : Addr) (fd : FuncData) (c : Addr) : Prop where
  ex : ∃ (oc : Value) (od : Option Addr) (kV doc pm : Value) (an : Option Addr) (ct : Value) (osl : Array (Option Value)),
    fd = PySem.W.fnOf x x (defArgs st) (defBody st) (defScope st) .none kV doc pm an (.ref c) ct ∧ K.lookup f = some ⟨oc, od, .func fd, osl⟩ ∧ PySem.W.codeIn K (.ref c) x = true
  kp : PySem.W.keepIn K (.ref f) = true
theorem FunC.ok {P : Program} {w : World} {K : Fg} {mg : Str → Option Value} {base : Heap} {x : Str} {st : Stmt} {f : Addr} {fd : FuncData} {c : Addr} {N ps : List Str} {k : Nat} {sp : Sp} (F : FunC K x st f fd c) (S : FnScope N ps (defScope st)) (len : ∀ vs H Q E, sp vs H Q E → vs.length = ps.length)
    (hbody : ∀ (A : Around) (outer : List Env) (s : Shared) (H : Hp) (vs : List V) (Q : VK) (E : XK), Room k (A.deeper (PyProof.Rows.envOfC x (defScope st) s.heap.objs.size f (.ref c))) → sp vs H Q E →
      ∃ t, PSs (cxOf CX0 P w K mg base N x (defScope st) f (.ref c) A outer s H E).nox (defBody st) t ∧ t { nx := fun _ H' => Q .non H', rt := Q } (start N vs) H) : FnOk P w K mg base CX0 (k + 1) f fd ps sp := by
  obtain ⟨oc, od, kV, doc, pm, an, ct, osl, rfl, lk, hcd⟩ := F.ex
  refine fn_of lk hcd S len fun A outer s H vs Q E hr hsp => ?_
  obtain ⟨t, h, q⟩ := hbody A outer s H vs Q E hr hsp
  exact ⟨t, h.nox, q⟩
theorem FunC.binds {K : Fg} {x : Str} {st : Stmt} {f : Addr} {fd : FuncData} {c : Addr} {ps : List Str} (F : FunC K x st f fd c)
    (h : ∀ (kV doc pm : Value) (an : Option Addr) (cdv ct : Value) (us : List Value), us.length = ps.length → bindArgs (PySem.W.fnOf x x (defArgs st) (defBody st) (defScope st) .none kV doc pm an cdv ct) ⟨us, []⟩ = pure (ps.zip us)) : Binds K fd ps [] := by
  obtain ⟨oc, od, kV, doc, pm, an, ct, osl, rfl, lk, hcd⟩ := F.ex
  exact .all (h kV doc pm an _ ct)
theorem FunC.bindsA {K : Fg} {x : Str} {st : Stmt} {f : Addr} {fd : FuncData} {c : Addr} {ps : List Str} (F : FunC K x st f fd c)
    (h : ∀ (kV doc pm : Value) (an : Option Addr) (cdv ct : Value) (us : List Value), us.length = ps.length → bindArgs (PySem.W.fnOf x x (defArgs st) (defBody st) (defScope st) .none kV doc pm an cdv ct) ⟨us, []⟩ = pure (ps.zip us)) (s : Shared) (us : List Value) (hl : us.length = ps.length) : PySem.BindsTo s fd ⟨us, []⟩ (ps.zip us) := by
  obtain ⟨oc, od, kV, doc, pm, an, ct, osl, rfl, lk, hcd⟩ := F.ex
  exact .of_eq (h kV doc pm an _ ct us hl)
theorem funC_of {K : Fg} {x : Str} {st : Stmt} {fd : FuncData} (F : FunD K x x (defArgs st) (defBody st) (defScope st) [] [] (He.fAd K (x, none)) fd) : FunC K x st (He.fAd K (x, none)) fd (He.codeOf K (x, none)) := by
  obtain ⟨oc, od, dV, kV, doc, pm, an, cdv, ct, osl, rfl, lk, hcd, hD, hK⟩ := F.ex
  obtain ⟨c, rfl⟩ := He.codeIn_ref hcd
  rcases hD with ⟨_, rfl⟩ | ⟨e, _⟩
  · have e := He.codeOf_eq (p := (x, none)) lk (c := c) rfl
    rw [e]
    exact ⟨⟨oc, od, kV, doc, pm, an, ct, osl, rfl, lk, hcd⟩, F.kp⟩
  · exact absurd rfl e
end L3

/-! enumerate of a tuple -/
namespace L3G
open PySem PySem.Spec PyProof.Rows L2
set_option maxHeartbeats 4000000 in
theorem meets_enumT (t : Addr) (items : Array Value) :
    Meets (Builtin.«enumerate.__new__» ⟨[.type "enumerate", .ref t], []⟩) (fun _ R s => s.heap.IsTuple t items ∧
      R (.ok (.ret (.ref (s.heap.push { cls := .type "tuple_iterator", data := .fields #[.ref t, .int 0 0] }).objs.size)))
        { s with heap := (s.heap.push { cls := .type "tuple_iterator", data := .fields #[.ref t, .int 0 0] }).push { cls := .type "enumerate", data := .fields #[.none, .bool false, .ref s.heap.objs.size, rawInt 0, .none, .none] } }) :=
  .of_wp fun prog w A R s h => by
    obtain ⟨hp, g, d, tk, os⟩ := s; obtain ⟨hL, h⟩ := h
    have hsub := sub_enumerate
    obtain ⟨o, hl, hc, n, hd⟩ := id hL
    obtain ⟨oc, od, odt, osl⟩ := o
    replace hc : oc = .type "tuple" := hc
    replace hd : odt = .seq items n := hd
    subst hc hd
    wp_walk using wpAny_loadPart' hl
    refine wpAny_stack_any fun st => wpAny_pure ?_
    split
    · rename_i c _ _ _ _ _
      cases (c == Value.type "enumerate")
      · wp_walk using wpAny_loadPart' hl, wpAny_pyIter_tuple hL
        exact ⟨_, rfl, h⟩
      · wp_walk using wpAny_loadPart' hl, wpAny_pyIter_tuple hL
        exact ⟨_, rfl, h⟩
    · wp_walk using wpAny_loadPart' hl, wpAny_pyIter_tuple hL
      exact ⟨_, rfl, h⟩
section
variable {prog : Program} {w : World} {A : Around} {E : Value → Shared → Prop} {s : Shared}
theorem call_enumT {l : Addr} {items : Array Value} {Q : Value → Shared → Prop} (hL : s.heap.IsTuple l items)
    (h : ∀ h', IsEnum h' (s.heap.objs.size + 1) s.heap.objs.size 0 .none → h'.IsTupleIter s.heap.objs.size l 0 → h'.objs.size = s.heap.objs.size + 2 →
      (∀ b o, s.heap.get? b = some o → h'.get? b = some o) → Q (.ref (s.heap.objs.size + 1)) { s with heap := h' }) :
    wpAny (model prog w) A (call (.type "enumerate") [.ref l]) Q E s := by
  refine callType_new F.called_enumerate (by decide) (F.typeCall_enumerate_1 _) (F.newCall_enumerate_1 _) (fun obj => F.args_object_init_2 obj _) F.entry_enumerate_new
    (meets_enumT l items) ⟨hL, ?_⟩
  have hz : (s.heap.push { cls := .type "tuple_iterator", data := .fields #[.ref l, .int 0 0] }).objs.size = s.heap.objs.size + 1 := Heap.size_push ..
  show _ ∧ _
  rw [hz]
  have he : IsEnum ((s.heap.push { cls := .type "tuple_iterator", data := .fields #[.ref l, .int 0 0] }).push
      { cls := .type "enumerate", data := .fields #[.none, .bool false, .ref s.heap.objs.size, rawInt 0, .none, .none] }) (s.heap.objs.size + 1) s.heap.objs.size 0 .none := by
    have := Heap.get?_push_size (s.heap.push { cls := .type "tuple_iterator", data := .fields #[.ref l, .int 0 0] })
      (o := { cls := .type "enumerate", data := .fields #[.none, .bool false, .ref s.heap.objs.size, rawInt 0, .none, .none] }) rfl
    rw [hz] at this; exact this
  refine ⟨⟨_, he, rfl⟩, h _ he ⟨_, Heap.get?_push_of_some _ (Heap.get?_push_size _ rfl), rfl, rfl⟩ (by rw [Heap.size_push, hz]) fun b o x => Heap.get?_push_of_some _ (Heap.get?_push_of_some _ x)⟩
end
def IteT (K : PySem.W.Frag) (a : Addr) : It :=
  ⟨fun i H => ∃ (xs : List V) (x : V), SqT K H a xs ∧ xs[i]? = some x, fun i H v H' => ∃ T x, v = .ref T ∧ H T = none ∧ H' = upd H T (.tup [.int (i : Nat), x]) ∧ ∀ xs, SqT K H a xs → xs[i]? = some x, fun i H => ∃ xs : List V, SqT K H a xs ∧ xs.length ≤ i⟩
theorem turn_enumT {P : Program} {w : World} {K : PySem.W.Frag} {elts : List Expr} {kk : Nat} {tpos : Pos} (a e it : Addr) :
    Turn P w K (.Tuple elts kk tpos) (IteT K a) [e, it] e (fun i h => (∃ old, IsEnum h e it ((i : Nat) : Int) old) ∧ h.IsTupleIter it a i ∧ e ≠ it) where
  mem := by simp
  obj := fun i h st b hb => by
    obtain ⟨⟨old, he⟩, ⟨o, ho, hc, hd⟩, _⟩ := st
    have e' : b = e ∨ b = it := by simpa using hb
    rcases e' with z | z
    · rw [z]; exact ⟨_, he, fun v q => nomatch q⟩
    · rw [z]; exact ⟨o, ho, fun v q => by rw [hd] at q; cases q⟩
  keep := fun i h h' st k => let ⟨⟨old, he⟩, hi, hne⟩ := st; ⟨⟨old, k e (by simp) _ he⟩, hi.at fun o q => k it (by simp) o q, hne⟩
  item := by
    intro X hP hw hK hc i pins s σ H E I hf st hg
    subst hP hw hK
    obtain ⟨⟨old, he⟩, hit, hne⟩ := st
    obtain ⟨xs, x, hq, hx⟩ := hg
    obtain ⟨its, rv, p, hz⟩ := I.tuple hq
    obtain ⟨u, hu, ru⟩ := rv.get hx
    have p' : s.heap.IsTuple a its.toArray := p
    have hel : e < s.heap.objs.size := Heap.lt_size he
    have hil : it < s.heap.objs.size := by obtain ⟨_, q, _⟩ := hit; exact Heap.lt_size q
    have hai : a ≠ it := fun z => by
      obtain ⟨o1, q1, c1, _⟩ := hit
      obtain ⟨o2, q2, c2, _⟩ := p'
      rw [z, q1] at q2; cases q2
      rw [c1] at c2; exact absurd (Value.type.inj c2) (by decide)
    have hea : e ≠ a := fun z => by
      obtain ⟨o2, q2, c2, _⟩ := p'
      have he' : s.heap.get? e = some _ := he
      rw [z, q2] at he'; cases he'
      exact absurd (Value.type.inj c2) (by decide)
    have hsz : i < its.toArray.size := by
      have := (List.getElem?_eq_some_iff.mp hu).1
      simpa using this
    refine wpAny_pyNext_enum_itemD (PySem.Draws.tuple (A := X.A.in1) (I.ok.hd hc) it a hai its.toArray) he ⟨hit, p'⟩ hsz hne (by simp [hne, hea]) fun x' h' tk' hPx ho hit' hT hsz' hk => ?_
    have hPx : its[i]? = some x' := by simpa using hPx
    rw [hu] at hPx
    obtain rfl := Option.some.inj hPx
    refine ⟨_, rfl, wpAny_letOwnedTupleGo_enum (s := { s with heap := h', toks := tk' + 1 }) ho fun h'' he' sb => ?_⟩
    have hT2 : h''.get? s.heap.objs.size = some { cls := .type "tuple", data := .seq #[.int i tk', u] } := (sb.2 _ (Nat.ne_of_gt hel)).trans hT
    have new : ObjOk X.prog X.w (upd H s.heap.objs.size (.tup [.int (i : Nat), x])) h'' s.heap.objs.size (.tup [.int (i : Nat), x]) :=
      ⟨by show 2 ≤ sizeLine; decide, [.int i tk', u], .cons ⟨_, rfl⟩ (.cons ru .nil), ⟨_, hT2, rfl, _, rfl⟩⟩
    have I1 : Inv X pins σ (upd H s.heap.objs.size (.tup [.int (i : Nat), x])) { s with heap := h'', toks := tk' + 1 } :=
      I.turnedNew (ch := [e, it]) (fun b ob hb q => (sb.2 b (fun z => hb (by simp [z]))).trans (hk b ob (fun z => hb (by simp [z])) (fun z => hb (by simp [z])) q)) hf (Nat.le_refl _) new
    refine ⟨.ref s.heap.objs.size, _, I1, rfl, ⟨_, x, rfl, I.hok.fresh (Nat.le_refl _), rfl, fun ys hy => by rw [I.tuple_inj hy hq]; exact hx⟩, ⟨⟨u, ?_⟩, hit'.1.at fun o q => (sb.2 it (Ne.symm hne)).trans q, hne⟩, fun b hb => ?_⟩
    · have e1 : ((i + 1 : Nat) : Int) = (i : Int) + 1 := by omega
      rw [e1]; exact he'
    · have hb' : b < s.heap.objs.size := by
        have e' : b = e ∨ b = it := by simpa using hb
        rcases e' with z | z
        · rw [z]; exact hel
        · rw [z]; exact hil
      rw [upd_ne (Nat.ne_of_lt hb')]
      exact (hf b hb).1
  done := by
    intro X hP hw hK hc i pins s σ H E I hf st hg
    subst hP hw hK
    obtain ⟨⟨old, he⟩, hit, hne⟩ := st
    obtain ⟨xs, hq, hx⟩ := hg
    obtain ⟨its, rv, p, hz⟩ := I.tuple hq
    have p' : s.heap.IsTuple a its.toArray := p
    obtain ⟨f0, f1, f2, f3, f4, f5⟩ := hf it (by simp)
    have hl := rv.length
    have hT : s.TypeIs (.ref e) "enumerate" := ⟨_, he, rfl⟩
    unfold pyNext
    refine wpAny_bind (wpAny_attempt (wpAny_callSpecial?_slot (name := Str.ofString "__next__") hT F.slot_enumerate_next
      (wpAny_call_entry F.slot_enumerate_next hT F.entry_enumerate_next ?_ (F.args_enumerate_next_1 _))))
    show wpAny _ _ (field (.ref e) 2 >>= _) _ _ _
    refine wpAny_bind (wpAny_field he rfl (x := .ref it) rfl ?_)
    refine wpAny_bind (wpAny_nextOf_tuple_end (I.ok.hd hc) hit p' (by simp; omega) fun h' x he' hx' => ?_)
    obtain ⟨o, ho, hc'⟩ := hx'
    refine wpAny_bind (wpAny_isInstance (T := "StopIteration") (b := true) ⟨o, ho, hc'⟩ isSubtype_stop ?_)
    exact wpAny_pure ⟨rfl, I.turned (t' := s.toks) (fun b o hb q => he' b o hb q) f0 f1 f3 f4 f5⟩
  self := fun A i s Q E st h => let ⟨⟨_, he⟩, _⟩ := st; wpAny_pyIter_enum he h
def iEnumT (K : PySem.W.Frag) (ta : TA) : TI := fun σ H R => ta σ H fun vs H1 => ∃ a xs, vs = [.ref a] ∧ SqT K H1 a xs ∧ R (IteT K a) H1
theorem pi_enumT {X : Cx} {e : Expr} {ta : TA} {p pos tpos : Pos} {elts : List Expr} {kk : Nat} (hg : Gl X "enumerate") (hm : X.mg "enumerate" = none) (ha : PA X [e] ta) (hs : starEach [e] X.env = [(false, eval e X.env)] := by rfl) :
    PI X (.Tuple elts kk tpos) (.Call (.Name "enumerate" p) [e] [] pos) (iEnumT X.K ta) := by
  refine ⟨fun pins s σ H R I h => ?_⟩
  refine Call_ (ld_blt I hg hm boot_enumerate (PyProof.Rows.callWith_type1 (thn (ha.run pos pins s σ H _ I h) fun us s1 ⟨vs, H1, I1, r1, q1⟩ => ?_) hs rfl))
  obtain ⟨a, xs, ex, hq, q⟩ := q1
  subst ex
  cases r1 with
  | cons r rr =>
    cases rr
    cases r
    obtain ⟨its, rv, p', hz⟩ := I1.tuple hq
    refine call_enumT (show s1.heap.IsTuple a its.toArray from p') fun h' he hit hsz hk => wpAny_pyIter_enum he ?_
    have I2 : Inv X pins σ H1 { s1 with heap := h' } := I1.kept (t' := s1.toks) hk
    refine ⟨s1.heap.objs.size + 1, [s1.heap.objs.size + 1, s1.heap.objs.size], _, _, H1, rfl, I2, turn_enumT a (s1.heap.objs.size + 1) s1.heap.objs.size, ⟨⟨.none, he⟩, hit, Nat.succ_ne_self _⟩, fun b hb => ?_, q⟩
    have e' : b = s1.heap.objs.size + 1 ∨ b = s1.heap.objs.size := by simpa using hb
    have hle : s1.heap.objs.size ≤ b := by
      rcases e' with z | z
      · rw [z]; exact Nat.le_add_right _ _
      · rw [z]; exact Nat.le_refl _
    exact I1.fpOk hle (I1.hok.fresh hle)
end L3G
namespace L3
open PySem L2
open Evl (Ex ex_rd ex_l ex_t sq_of st_of fresh_back)
/-- (0, x), (1, y), .. -/
def enumI {α : Type} : Nat → List α → List (Int × α)
  | _, [] => []
  | n, x :: xs => ((n : Int), x) :: enumI (n + 1) xs
theorem enumI_len {α : Type} : ∀ (n : Nat) (xs : List α), (enumI n xs).length = xs.length
  | _, [] => rfl
  | n, _ :: xs => congrArg (· + 1) (enumI_len (n + 1) xs)
theorem enumI_get {α : Type} : ∀ {n i : Nat} {xs : List α} {q : Int × α}, (enumI n xs)[i]? = some q → q.1 = ((n + i : Nat) : Int) ∧ xs[i]? = some q.2
  | _, _, [], _, h => by simp [enumI] at h
  | n, 0, x :: xs, q, h => by
    obtain rfl : ((n : Int), x) = q := by simpa [enumI] using h
    exact ⟨rfl, rfl⟩
  | n, i + 1, x :: xs, q, h => by
    obtain ⟨h1, h2⟩ := enumI_get (n := n + 1) (i := i) (xs := xs) (q := q) (by simpa [enumI] using h)
    refine ⟨h1.trans ?_, h2⟩
    congr 1
    omega
section
variable {K : Fg} {M : Fr} {σ : St} {B : Hp} {L L1 L2 L' : List Cell} {α β γ δ : Type} {r : Rep α} {te : TE}
theorem ei_enumT {xs : List α} (h : EV K M te σ B L (rTup r) xs L') : EI K M (L3G.iEnumT K (tCons te tNil)) σ B L (rT2 rInt r) (enumI 0 xs) L' := fun B1 H e w R q => h B1 H e w _ fun v B2 H2 e2 w2 hv => by
  obtain ⟨p, vs, rfl, hs, hp⟩ := hv
  refine ⟨p, vs, rfl, ex_t w2.b hs, q _ B2 H2 e2 w2 ⟨fun i a B' L' H' e' w' hi => ?_, fun B' L' H' e' w' => ⟨vs, ex_t (e'.trans w'.b) hs, by rw [enumI_len, paired_len hp]; exact Nat.le_refl _⟩⟩⟩
  obtain ⟨h1, h2⟩ := enumI_get hi
  obtain ⟨x, hx, hr⟩ := paired_get hp h2
  refine ⟨⟨vs, x, ex_t (e'.trans w'.b) hs, hx⟩, fun y H3 hy => ?_⟩
  obtain ⟨T, z, rfl, hT, rfl, hy⟩ := hy
  have := hy vs (ex_t (e'.trans w'.b) hs)
  rw [hx] at this
  cases this
  have eN := Ex.new (o := HO.tup [.int (i : Nat), x]) (fresh_back w'.b hT)
  exact ⟨upd B' T _, eN, w'.ext hT, ⟨T, _, _, rfl, st_of upd_same, by rw [h1]; show V.int _ = V.int _; congr 1; simp, r.mono (e'.trans eN) hr⟩⟩
theorem ei_enumL {xs : List α} (h : EV K M te σ B L (rLst r) xs L') : EI K M (iEnum K (tCons te tNil)) σ B L (rT2 rInt r) (enumI 0 xs) L' := fun B1 H e w R q => h B1 H e w _ fun v B2 H2 e2 w2 hv => by
  obtain ⟨p, vs, rfl, hs, hp⟩ := rl_sc hv
  refine ⟨p, vs, rfl, ex_l w2.b hs, q _ B2 H2 e2 w2 ⟨fun i a B' L' H' e' w' hi => ?_, fun B' L' H' e' w' => ⟨vs, ex_l (e'.trans w'.b) hs, by rw [enumI_len, paired_len hp]; exact Nat.le_refl _⟩⟩⟩
  obtain ⟨h1, h2⟩ := enumI_get hi
  obtain ⟨x, hx, hr⟩ := paired_get hp h2
  refine ⟨⟨vs, x, ex_l (e'.trans w'.b) hs, hx⟩, fun y H3 hy => ?_⟩
  obtain ⟨T, z, rfl, hT, rfl, hy⟩ := hy
  have := hy vs (ex_l (e'.trans w'.b) hs)
  rw [hx] at this
  cases this
  have eN := Ex.new (o := HO.tup [.int (i : Nat), x]) (fresh_back w'.b hT)
  exact ⟨upd B' T _, eN, w'.ext hT, ⟨T, _, _, rfl, st_of upd_same, by rw [h1]; show V.int _ = V.int _; congr 1; simp, r.mono (e'.trans eN) hr⟩⟩
end
end L3

/-! a tuple backwards -/
namespace L3G
open PySem PySem.Spec PyProof.Rows L2 HT
section
variable {prog : Program} {w : World} {A : Around} {E : Value → Shared → Prop} {s : Shared}
theorem adjust_back (n : Nat) : Builtin.Slice.sliceAdjust none none (-1) (n : Int) = ((n : Int) - 1, -1) := by
  unfold Builtin.Slice.sliceAdjust
  simp
theorem places_back (n : Nat) : Builtin.Slice.slicePlaces ((n : Int) - 1) (-1) (-1) = n := by
  unfold Builtin.Slice.slicePlaces
  simp
  omega
theorem fm_some {α β : Type} {f : α → Option β} {g : α → β} : ∀ {l : List α}, (∀ m ∈ l, f m = some (g m)) → l.filterMap f = l.map g
  | [], _ => rfl
  | x :: l, h => by
    rw [List.filterMap_cons, h x List.mem_cons_self, List.map_cons, fm_some fun m hm => h m (List.mem_cons_of_mem _ hm)]
theorem pick_back (xs : Array Value) : ((List.range xs.size).filterMap fun (m : Nat) => xs[(((xs.size : Int) - 1) + (m : Int) * (-1)).toNat]?).toArray = xs.toList.reverse.toArray := by
  congr 1
  have e : ∀ m ∈ List.range xs.size, xs[(((xs.size : Int) - 1) + (m : Int) * (-1)).toNat]? = some ((xs.toList.reverse).getD m .none) := fun m hm => by
    have hm := List.mem_range.mp hm
    have e1 : (((xs.size : Int) - 1) + (m : Int) * (-1)).toNat = xs.size - 1 - m := by omega
    rw [e1, List.getD_eq_getElem?_getD, List.getElem?_reverse (by simpa using hm), Array.length_toList, Array.getElem?_toList]
    cases q : xs[xs.size - 1 - m]? with
    | none => have := Array.getElem?_eq_none_iff.mp q; omega
    | some v => rfl
  rw [fm_some e]
  refine List.ext_getElem? fun i => ?_
  rw [List.getElem?_map]
  by_cases hi : i < xs.size
  · rw [List.getElem?_range hi]
    have hl : i < xs.toList.reverse.length := by simpa using hi
    simp only [Option.map_some]
    rw [List.getD_eq_getElem?_getD, List.getElem?_eq_getElem hl]
    rfl
  · rw [List.getElem?_eq_none (by simpa using hi), List.getElem?_eq_none (by simpa using hi)]
    rfl
theorem sliceApplied_back {sl : Addr} {n : Nat} {vs : Value} {Q : Int × Int × Nat → Shared → Prop} (hs : s.heap.IsSliceOf sl .none .none vs) (pv : IsPart vs (some (-1)))
    (h : Q ((n : Int) - 1, -1, n) s) : wpAny (model prog w) A (Builtin.Slice.sliceApplied (.ref sl) (pure (n : Int))) Q E s := by
  obtain ⟨os, hos, hcs, hds⟩ := id hs
  unfold Builtin.Slice.sliceApplied Builtin.Slice.sliceFields
  refine wpAny_bind (wpAny_bind (wpAny_field hos hds (x := .none) rfl (wpAny_bind (wpAny_field hos hds (x := .none) rfl (wpAny_bind (wpAny_field hos hds (x := vs) rfl (wpAny_pure ?_)))))))
  refine wpAny_bind (slicePart_ pv ?_)
  show wpAny _ _ (if ((-1 : Int) == 0) = true then _ else _) _ _ s
  rw [if_neg (by decide)]
  refine wpAny_bind (slicePart_ (o := none) .none (wpAny_bind (slicePart_ (o := none) .none (wpAny_bind (wpAny_pure ?_)))))
  show wpAny _ _ (match Builtin.Slice.sliceAdjust none none (-1) (n : Int) with | (lo, hi) => pure (lo, (-1 : Int), Builtin.Slice.slicePlaces lo hi (-1))) _ _ s
  rw [adjust_back]
  show wpAny _ _ (pure ((n : Int) - 1, (-1 : Int), Builtin.Slice.slicePlaces ((n : Int) - 1) (-1) (-1))) _ _ s
  rw [places_back]
  exact wpAny_pure h
theorem getItem_tuple_back {t sl : Addr} {items : Array Value} {vs : Value} {Q : Value → Shared → Prop} (ht : IsTup s.heap t items) (hs : s.heap.IsSliceOf sl .none .none vs) (pv : IsPart vs (some (-1)))
    (h : Q (.ref s.heap.objs.size) { s with heap := s.heap.push { cls := .type "tuple", data := .seq items.toList.reverse.toArray } })
    (hsz : items.size ≤ sizeLine) : wpAny (model prog w) A (getItem (.ref t) (.ref sl)) Q E s := by
  have htake : sizeOk (.seq items.toList.reverse.toArray) := by
    show items.toList.reverse.toArray.size ≤ sizeLine
    rw [List.size_toArray, List.length_reverse, Array.length_toList]
    exact hsz
  obtain ⟨os, hos, hcs, hds⟩ := id hs
  have hTs : s.TypeIs (.ref sl) "slice" := ⟨os, hos, hcs⟩
  unfold getItem
  try with_reducible refine wpAny_holding ?_
  first | refine wpAny_bind (wpAny_pure ?_) | skip
  refine wpAny_bind (wpAny_sequenceKey ht.typeIs (by decide) ?_)
  refine wpAny_bind (wpAny_callSpecial?_slot (name := Str.ofString "__getitem__") ht.typeIs PyProof.Rows.slot_tuple_getitem
    (wpAny_call_entry PyProof.Rows.slot_tuple_getitem ht.typeIs PyProof.Rows.entry_tuple_getitem ?_ (PyProof.Rows.args_tuple_getitem _ _)))
  show wpAny _ _ (Builtin.Tuple.tupleItemsOf (.ref t) >>= _) _ _ s
  refine wpAny_bind (tupleItemsOf_ ht ?_)
  refine wpAny_bind (wpAny_typeOf hTs ?_)
  rw [if_pos (by decide)]
  refine wpAny_bind (sliceApplied_back hs pv ?_)
  have hno : ¬ ((((items.size : Int) - 1) == 0 && (-1 : Int) == 1 && items.size == items.size) = true) := by
    intro q
    rw [Bool.and_eq_true, Bool.and_eq_true] at q
    exact absurd q.1.2 (by decide)
  show wpAny _ _ (if (((items.size : Int) - 1) == 0 && (-1 : Int) == 1 && items.size == items.size) = true then _ else _) _ _ s
  rw [if_neg hno, pick_back]
  first
    | exact wpAny_bind (m := Builtin.Tuple.tupleExact _) (wpAny_newObj_type (wpAny_pure ⟨_, rfl, wpAny_pure h⟩) htake)
    | exact wpAny_bind (m := Builtin.Tuple.tupleExact _) (wpAny_newObj_type (wpAny_bind (wpAny_pure (wpAny_pure ⟨_, rfl, wpAny_pure h⟩))) htake)
    | exact wpAny_bind (wpAny_bind (m := Builtin.Tuple.tupleExact _) (wpAny_newObj_type (wpAny_pure (wpAny_pure ⟨_, rfl, wpAny_pure h⟩)) htake))
    | exact wpAny_bind (wpAny_bind (m := Builtin.Tuple.tupleExact _) (wpAny_newObj_type (wpAny_pure ⟨_, rfl, wpAny_pure h⟩) htake))
end
def tRevT (K : PySem.W.Frag) (te : TE) : TE := fun σ H Q => te σ H fun x H1 => ∃ a xs, x = .ref a ∧ SqT K H1 a xs ∧ ∀ p, H1 p = none → Q (.ref p) (upd H1 p (.tup xs.reverse))
theorem pe_revT {X : Cx} {e : Expr} {te : TE} {k : Nat} {p1 p2 p3 pos : Pos} (he : PE X e te) : PE X (.Subscript e (.Slice none none (some (.UnaryOp .USub (.Constant (.int 1) k p1) p2)) p3) pos) (tRevT X.K te) := by
  refine ⟨fun pins s σ H Q I h => ?_⟩
  refine Subscript_ (thn (he.run pins s σ H _ I h) fun v s1 ⟨x, H1, I1, r1, q1⟩ => ?_)
  obtain ⟨a, xs, ex, hx, q⟩ := q1
  subst ex
  cases r1
  have hst : PO X (some (.UnaryOp .USub (.Constant (.int 1) k p1) p2)) (tPart (tUn (rU fun i => .int (-i)) (tC (.int 1)))) := po_some (pe_un un_neg pe_int)
  refine wpAny_Slice ?_
  rw [evalPart_none]
  refine wpAny_pure ?_
  refine wpAny_pure ?_
  refine thn (hst.run pins s1 σ H1 (fun o H4 => o = some (-1) ∧ H4 = H1) I1 ⟨1, rfl, -1, rfl, rfl, rfl⟩) fun vs s4 ⟨o, H4, I4, ps, eo, e4⟩ => ?_
  subst eo e4
  have I5 : Inv X pins σ H4 { s4 with heap := s4.heap.push { cls := .type "slice", data := .fields #[.none, .none, vs] } } := I4.kept (t' := s4.toks) fun b ob q => Heap.get?_push_of_some _ q
  obtain ⟨its, r, ht, hz⟩ := I5.tuple hx
  have hlen := r.length
  show wpAny (model X.prog X.w) X.A (subscriptTail e (.Slice none none (some (.UnaryOp .USub (.Constant (.int 1) k p1) p2)) p3) (.ref a) (.ref s4.heap.objs.size)) (EP X pins σ Q) X.xe { s4 with heap := s4.heap.push { cls := .type "slice", data := .fields #[.none, .none, vs] } }
  refine tail_any (ops := [.ref a, .ref s4.heap.objs.size]) ht.typeIs (PyProof.Rows.slot_tuple_getitem.lookup) ?_ (by with_unfolding_all rfl)
  refine getItem_tuple_back ht (Heap.IsSliceOf.new _ .none .none vs) ps ?_ (by rw [List.size_toArray]; omega)
  refine ⟨.ref _, _, I5.laid (t' := s4.toks) (o := .tup xs.reverse) (fun b ob q => Heap.get?_push_of_some _ q) (Nat.le_refl _) ?_, rfl, q _ (I5.hok.fresh (Nat.le_refl _))⟩
  exact ⟨by rw [List.length_reverse]; exact hz, _, r.reverse, IsTup.new _ _⟩
end L3G
namespace L3
open PySem L2
open Evl (Ex ex_rd ex_l ex_t sq_of st_of fresh_back)

/-! ### comprehensions -/
def compM {S α β : Type} (f : S → α → Option (Option β × S)) : S → List α → Option (List β × S)
  | s, [] => some ([], s)
  | s, x :: xs => match f s x with
    | some (o, s') => (match compM f s' xs with
      | some (ys, s2) => some (o.toList ++ ys, s2)
      | none => none)
    | none => none
section
variable {K : Fg} {M : Fr} {σ : St} {B : Hp} {L L1 L2 L' : List Cell} {α β γ δ : Type} {r : Rep α} {s : Rep β} {t : Rep γ} {ta tb tc te : TE} {tt tu : TT} {tA : TA} {i j k : Int} {b c : Bool} {wi : TI} {g : TG}
theorem compM_len {S : Type} {f : S → α → Option (Option β × S)} : ∀ {xs : List α} {s0 s1 : S} {ys : List β}, compM f s0 xs = some (ys, s1) → ys.length ≤ xs.length
  | [], _, _, _, h => by obtain ⟨rfl, _⟩ := Prod.mk.inj (Option.some.inj h); exact Nat.le_refl _
  | x :: xs, s0, s1, ys, h => by
    unfold compM at h
    cases e : f s0 x with
    | none => rw [e] at h; cases h
    | some q =>
      obtain ⟨o, s'⟩ := q
      rw [e] at h
      dsimp only at h
      cases e2 : compM f s' xs with
      | none => rw [e2] at h; cases h
      | some q2 =>
        obtain ⟨zs, s2⟩ := q2
        rw [e2] at h
        obtain ⟨rfl, _⟩ := Prod.mk.inj (Option.some.inj h)
        have := compM_len e2
        cases o <;> simp <;> omega
theorem lc_yes {PY : VK} {PN : Hp → Prop} {H : Hp} (h : te σ H PY) : tYes σ H fun b H3 => if b = true then te σ H3 PY else PN H3 := by
  show (if true = true then te σ H PY else PN H)
  rw [if_pos rfl]
  exact h
theorem lc_if {b : Bool} {X Y : Prop} (h1 : b = true → X) (h2 : b = false → Y) : if b = true then X else Y := by
  cases b with
  | true => rw [if_pos rfl]; exact h1 rfl
  | false => rw [if_neg Bool.false_ne_true]; exact h2 rfl
theorem el_lc {S : Type} {vs : List Nat} {σ' : St} {xs : List α} {ys : List β} {s0 s1 : S} (s : Rep β) (hi : EI K M wi σ B L r xs L1) (f : S → α → Option (Option β × S)) (Lf : S → List Cell) (hL : Lf s0 = L1) (hm : compM f s0 xs = some (ys, s1)) (hr : room xs.length = some ()) (hw : wipe σ vs = σ')
    (hs : ∀ st x o st' v D acc B' H', f st x = some (o, st') → Ex B B' → Own K B' M (⟨D, cLst s, acc⟩ :: Lf st) H' → r.is K B' v x → ∀ (PY : VK) (PN : Hp → Prop),
      (∀ y B2 H2 b, o = some b → Ex B' B2 → Own K B2 M (⟨D, cLst s, acc⟩ :: Lf st') H2 → s.is K B2 y b → PY y H2) → (∀ B2 H2, o = none → Ex B' B2 → Own K B2 M (⟨D, cLst s, acc⟩ :: Lf st') H2 → PN H2) →
      g v σ' H' fun σ2 H2 => wipe σ2 vs = σ' ∧ tt σ2 H2 fun b H3 => if b = true then te σ2 H3 PY else PN H3) :
    EVL K M (tLc wi g tt te vs) σ B L s ys (Lf s1) := fun B1 H e w Q q => by
  refine hi B1 H e w _ fun J B2 H2 e2 w2 wk => ?_
  intro D hD
  subst hL
  subst hw
  have w3 : Own K B2 M (⟨D, cLst s, []⟩ :: Lf s0) (upd H2 D (.lst [])) := w2.new hD ⟨[], rfl, .nil⟩
  refine ⟨fun i m H' => m = xs.length - i ∧ i ≤ xs.length ∧ ∃ st acc B', Ex B2 B' ∧ Own K B' M (⟨D, cLst s, acc⟩ :: Lf st) H' ∧ acc.length ≤ i ∧ ∃ zs, compM f st (xs.drop i) = some (zs, s1) ∧ acc ++ zs = ys,
    ⟨_, rfl, Nat.zero_le _, s0, [], B2, Ex.refl _, w3, Nat.zero_le _, ys, hm, rfl⟩, ?_⟩
  rintro i m H' ⟨rfl, hil, st, acc, B', eb, w', hacc, zs, hz, hzs⟩
  by_cases hl : i = xs.length
  · subst hl
    rw [List.drop_length] at hz
    obtain ⟨rfl, rfl⟩ := Prod.mk.inj (Option.some.inj hz)
    rw [List.append_nil] at hzs
    subst hzs
    exact .inl ⟨wk.stop B' _ H' eb w', q D B' H' (e2.trans eb) w'⟩
  · have hlt : i < xs.length := by omega
    rw [List.drop_eq_getElem_cons hlt] at hz
    have hx : xs[i]? = some xs[i] := List.getElem?_eq_getElem hlt
    obtain ⟨g1, g2⟩ := wk.go i xs[i] B' _ H' eb w' hx
    unfold compM at hz
    cases hf : f st xs[i] with
    | none => rw [hf] at hz; cases hz
    | some q2 =>
      obtain ⟨o, st'⟩ := q2
      rw [hf] at hz
      dsimp only at hz
      cases hc : compM f st' (xs.drop (i + 1)) with
      | none => rw [hc] at hz; cases hz
      | some q3 =>
        obtain ⟨zs', s2⟩ := q3
        rw [hc] at hz
        obtain ⟨rfl, rfl⟩ := Prod.mk.inj (Option.some.inj hz)
        refine .inr ⟨g1, fun H5 => i + 1 ≤ xs.length ∧ ∃ st acc B', Ex B2 B' ∧ Own K B' M (⟨D, cLst s, acc⟩ :: Lf st) H5 ∧ acc.length ≤ i + 1 ∧ ∃ zs, compM f st (xs.drop (i + 1)) = some (zs, s2) ∧ acc ++ zs = ys, fun H5 h5 => ⟨xs.length - (i + 1), by omega, rfl, h5⟩, fun x H4 hy => ?_⟩
        obtain ⟨B4, e4, w4, hrx⟩ := g2 x H4 hy
        have hb := (e.trans e2).trans (eb.trans e4)
        refine hs st xs[i] o st' x D acc B4 H4 hf hb w4 hrx (fun y H6 => ∃ acc', H6 D = some (.lst acc') ∧ acc'.length < sizeLine ∧ (fun H5 => i + 1 ≤ xs.length ∧ ∃ st acc B', Ex B2 B' ∧ Own K B' M (⟨D, cLst s, acc⟩ :: Lf st) H5 ∧ acc.length ≤ i + 1 ∧ ∃ zs, compM f st (xs.drop (i + 1)) = some (zs, s2) ∧ acc ++ zs = ys) (upd H6 D (.lst (acc' ++ [y])))) _ (fun y B5 H5 b' ho e5 w5 hyb => ?_) fun B5 H5 ho e5 w5 => ?_
        · subst ho
          obtain ⟨⟨o', a1, vs', a2, a3⟩, _⟩ := w5.at (i := 0) rfl
          have a1 : H5 D = some o' := a1
          refine ⟨vs', by rw [a1, a2], ?_, hlt, st', acc ++ [b'], B5, (eb.trans e4).trans e5, w5.set (i := 0) rfl (c' := cLst s) ⟨_, rfl, paired_app a3 (.cons hyb .nil)⟩, by simp; omega, zs', hc, by simpa using hzs⟩
          have hq := room_some hr
          have := paired_len a3
          have : vs'.length = acc.length := this
          omega
        · subst ho
          exact ⟨hlt, st', acc, B5, (eb.trans e4).trans e5, w5, by omega, zs', hc, by simpa using hzs⟩
/-! ### tuple(..), list(..) -/
theorem ev_tupOfL {xs : List α} (h : EV K M te σ B L (rLst r) xs L') : EV K M (tCB (fun xs H Q => ∃ p ys, xs = [.ref p] ∧ ((SqL K H p ys ∧ ∀ l, H l = none → Q (.ref l) (upd H l (.tup ys))) ∨ (SqT K H p ys ∧ Q (.ref p) H))) (tCons te tNil)) σ B L (rTup r) xs L' := fun B1 H e w Q q =>
  h B1 H e w _ fun v B2 H2 e2 w2 hv => by
    obtain ⟨p, vs, rfl, hs, hp⟩ := rl_sc hv
    refine ⟨p, vs, rfl, .inl ⟨ex_l w2.b hs, fun l hl => ?_⟩⟩
    have eN := Ex.new (o := HO.tup vs) (fresh_back w2.b hl)
    exact q _ (upd B2 l _) _ (e2.trans eN) (w2.ext hl) ⟨l, vs, rfl, st_of upd_same, paired_mono eN hp⟩
theorem ev_tupOfT {xs : List α} (h : EV K M te σ B L (rTup r) xs L') : EV K M (tCB (fun xs H Q => ∃ p ys, xs = [.ref p] ∧ ((SqL K H p ys ∧ ∀ l, H l = none → Q (.ref l) (upd H l (.tup ys))) ∨ (SqT K H p ys ∧ Q (.ref p) H))) (tCons te tNil)) σ B L (rTup r) xs L' := fun B1 H e w Q q =>
  h B1 H e w _ fun v B2 H2 e2 w2 hv => by
    obtain ⟨p, vs, rfl, hs, hp⟩ := hv
    exact ⟨p, vs, rfl, .inr ⟨ex_t w2.b hs, q _ B2 H2 e2 w2 ⟨p, vs, rfl, hs, hp⟩⟩⟩
theorem el_listOf {xs : List α} (h : EV K M te σ B L (rSeq r) xs L') : EVL K M (tCB (fun xs H Q => ∃ p ys, xs = [.ref p] ∧ (SqL K H p ys ∨ SqT K H p ys) ∧ ∀ l, H l = none → Q (.ref l) (upd H l (.lst ys))) (tCons te tNil)) σ B L r xs L' := fun B1 H e w Q q =>
  h B1 H e w _ fun v B2 H2 e2 w2 hv => by
    obtain ⟨p, vs, rfl, hs, hp⟩ := hv
    exact ⟨p, vs, rfl, hs.imp (ex_l w2.b) (ex_t w2.b), fun l hl => q l B2 _ e2 (w2.new hl ⟨vs, rfl, hp⟩)⟩
theorem el_listOfC {n : Nat} {p : Addr} {xs : List α} (h : EV K M te σ B L rRef p L') (hc : L'[n]? = some ⟨p, cLst r, xs⟩) : EVL K M (tCB (fun xs H Q => ∃ p ys, xs = [.ref p] ∧ (SqL K H p ys ∨ SqT K H p ys) ∧ ∀ l, H l = none → Q (.ref l) (upd H l (.lst ys))) (tCons te tNil)) σ B L r xs L' := fun B1 H e w Q q =>
  h B1 H e w _ fun v B2 H2 e2 w2 hv => by
    have hv : v = .ref p := hv
    subst hv
    obtain ⟨⟨o, h1, vs, h2, hp⟩, _⟩ := w2.at hc
    have h1 : H2 p = some o := h1
    exact ⟨p, vs, rfl, .inl (sq_of (by rw [h1, h2])), fun l hl => q l B2 _ e2 (w2.new hl ⟨vs, rfl, hp⟩)⟩
theorem ev_tupOfC {n : Nat} {p : Addr} {xs : List α} (h : EV K M te σ B L rRef p L') (hc : L'[n]? = some ⟨p, cLst r, xs⟩) : EV K M (tCB (fun xs H Q => ∃ p ys, xs = [.ref p] ∧ ((SqL K H p ys ∧ ∀ l, H l = none → Q (.ref l) (upd H l (.tup ys))) ∨ (SqT K H p ys ∧ Q (.ref p) H))) (tCons te tNil)) σ B L (rTup r) xs L' := fun B1 H e w Q q =>
  h B1 H e w _ fun v B2 H2 e2 w2 hv => by
    have hv : v = .ref p := hv
    subst hv
    obtain ⟨⟨o, h1, vs, h2, hp⟩, _⟩ := w2.at hc
    have h1 : H2 p = some o := h1
    refine ⟨p, vs, rfl, .inl ⟨sq_of (by rw [h1, h2]), fun l hl => ?_⟩⟩
    have eN := Ex.new (o := HO.tup vs) (fresh_back w2.b hl)
    exact q _ (upd B2 l _) _ (e2.trans eN) (w2.ext hl) ⟨l, vs, rfl, st_of upd_same, paired_mono eN hp⟩
/-! ### slices -/
def cutL (xs : List α) (lo hi : Option Int) : List α := (xs.drop (HT.sIx xs.length 0 lo)).take (HT.sIx xs.length xs.length hi - HT.sIx xs.length 0 lo)
theorem paired_cut {F : V → α → Prop} {xs : List V} {as : List α} (h : Paired F xs as) (lo hi : Option Int) : Paired F (cutV xs lo hi) (cutL as lo hi) := by
  unfold cutV cutL
  rw [paired_len h]
  exact paired_take _ (paired_drop _ h)
def EO (K : Fg) (M : Fr) (t : TO) (σ : St) (B : Hp) (L : List Cell) (o : Option Int) (L' : List Cell) : Prop :=
  ∀ B1 H, Ex B B1 → Own K B1 M L H → ∀ Q : Option Int → Hp → Prop, (∀ B2 H2, Ex B1 B2 → Own K B2 M L' H2 → Q o H2) → t σ H Q
theorem eo_none : EO K M tNoPart σ B L none L := fun B1 H e w Q q => q B1 H (Ex.refl _) w
theorem eo_some (h : EV K M te σ B L rInt i L') : EO K M (tPart te) σ B L (some i) L' := fun B1 H e w Q q => h B1 H e w _ fun v B2 H2 e2 w2 hv => ⟨i, hv, q B2 H2 e2 w2⟩
theorem cut_all {xs : List α} {lo hi : Option Int} (h1 : HT.sIx xs.length 0 lo = 0) (h2 : HT.sIx xs.length xs.length hi = xs.length) : cutL xs lo hi = xs := by
  unfold cutL
  rw [h1, h2]
  simp
theorem ev_slT {xs : List α} {tl th : TO} {lo hi : Option Int} (h : EV K M te σ B L (rTup r) xs L1) (hl : EO K M tl σ B L1 lo L2) (hh : EO K M th σ B L2 hi L') : EV K M (tSl (rSlA K) te tl th) σ B L (rTup r) (cutL xs lo hi) L' := fun B1 H e w Q q =>
  h B1 H e w _ fun v B2 H2 e2 w2 hv => hl B2 H2 (e.trans e2) w2 _ fun B3 H3 e3 w3 => hh B3 H3 ((e.trans e2).trans e3) w3 _ fun B4 H4 e4 w4 => by
    obtain ⟨p, vs, rfl, hs, hp⟩ := hv
    have e34 := e3.trans e4
    have hp4 := paired_mono e34 hp
    refine ⟨p, vs, rfl, ex_t w4.b (ex_t e34 hs), fun ⟨h1, h2⟩ => ?_, fun _ l hl => ?_⟩
    · refine q _ B4 H4 (e2.trans e34) w4 ⟨p, vs, rfl, ex_t e34 hs, ?_⟩
      rw [paired_len hp] at h1 h2
      rw [cut_all h1 h2]
      exact hp4
    · have eN := Ex.new (o := HO.tup (cutV vs lo hi)) (fresh_back w4.b hl)
      exact q _ (upd B4 l _) _ ((e2.trans e34).trans eN) (w4.ext hl) ⟨l, _, rfl, st_of upd_same, paired_mono eN (paired_cut hp4 lo hi)⟩
theorem el_slL {xs : List α} {tl th : TO} {lo hi : Option Int} (h : EV K M te σ B L (rLst r) xs L1) (hl : EO K M tl σ B L1 lo L2) (hh : EO K M th σ B L2 hi L') : EVL K M (tSl (rSlL K) te tl th) σ B L r (cutL xs lo hi) L' := fun B1 H e w Q q =>
  h B1 H e w _ fun v B2 H2 e2 w2 hv => hl B2 H2 (e.trans e2) w2 _ fun B3 H3 e3 w3 => hh B3 H3 ((e.trans e2).trans e3) w3 _ fun B4 H4 e4 w4 => by
    obtain ⟨p, vs, rfl, hs, hp⟩ := rl_sc hv
    have e34 := e3.trans e4
    exact ⟨p, vs, rfl, ex_l w4.b (ex_l e34 hs), fun l hl => q l B4 _ (e2.trans e34) (w4.new hl ⟨_, rfl, paired_cut (paired_mono e34 hp) lo hi⟩)⟩
theorem el_revL {xs : List α} (h : EV K M te σ B L (rLst r) xs L') : EVL K M (tRevL K te) σ B L r xs.reverse L' := fun B1 H e w Q q =>
  h B1 H e w _ fun v B2 H2 e2 w2 hv => by
    obtain ⟨p, vs, rfl, hs, hp⟩ := rl_sc hv
    exact ⟨p, vs, rfl, ex_l w2.b hs, fun l hl => q l B2 _ e2 (w2.new hl ⟨_, rfl, paired_rev hp⟩)⟩
theorem el_revC {n : Nat} {p : Addr} {xs : List α} (h : EV K M te σ B L rRef p L') (hc : L'[n]? = some ⟨p, cLst r, xs⟩) : EVL K M (tRevL K te) σ B L r xs.reverse L' := fun B1 H e w Q q =>
  h B1 H e w _ fun v B2 H2 e2 w2 hv => by
    have hv : v = .ref p := hv
    subst hv
    obtain ⟨⟨o, h1, vs, h2, hp⟩, _⟩ := w2.at hc
    have h1 : H2 p = some o := h1
    exact ⟨p, vs, rfl, sq_of (by rw [h1, h2]), fun l hl => q l B2 _ e2 (w2.new hl ⟨_, rfl, paired_rev hp⟩)⟩
theorem ev_revT {xs : List α} (h : EV K M te σ B L (rTup r) xs L') : EV K M (L3G.tRevT K te) σ B L (rTup r) xs.reverse L' := fun B1 H e w Q q =>
  h B1 H e w _ fun v B2 H2 e2 w2 hv => by
    obtain ⟨p, vs, rfl, hs, hp⟩ := hv
    refine ⟨p, vs, rfl, ex_t w2.b hs, fun l hl => ?_⟩
    have eN := Ex.new (o := HO.tup vs.reverse) (fresh_back w2.b hl)
    exact q _ (upd B2 l _) _ (e2.trans eN) (w2.ext hl) ⟨l, _, rfl, st_of upd_same, paired_mono eN (paired_rev hp)⟩
/-! ### tuples: +, * -/
def catT (xs ys : List α) : Option (List α) := if xs.length + ys.length ≤ 1000000 then some (xs ++ ys) else none
theorem ev_catT {xs ys zs : List α} (h : EV K M ta σ B L (rTup r) xs L1) (h' : EV K M tb σ B L1 (rTup r) ys L2) (hc : catT xs ys = some zs) : EV K M (tOp (rCatA K) ta tb) σ B L (rTup r) zs L2 := fun B1 H e w Q q =>
  h B1 H e w _ fun v B2 H2 e2 w2 hv => h' B2 H2 (e.trans e2) w2 _ fun u B3 H3 e3 w3 hu => by
    obtain ⟨p, vs, rfl, hs, hp⟩ := hv
    obtain ⟨p', us, rfl, hs', hp'⟩ := hu
    unfold catT at hc
    split at hc
    · rename_i hl
      obtain rfl := Option.some.inj hc
      have hp3 := paired_mono e3 hp
      have l1 := paired_len hp
      have l2 := paired_len hp'
      refine ⟨p, p', vs, us, rfl, rfl, ex_t w3.b (ex_t e3 hs), ex_t w3.b hs', Nat.le_trans (by omega) (show 1000000 ≤ sizeLine by decide), fun hz => ?_, fun _ hz => ?_, fun _ _ l hl => ?_⟩
      · subst hz
        have : xs = [] := List.length_eq_zero_iff.mp l1.symm
        subst this
        exact q _ B3 H3 (e2.trans e3) w3 ⟨p', us, rfl, hs', hp'⟩
      · subst hz
        have : ys = [] := List.length_eq_zero_iff.mp l2.symm
        subst this
        exact q _ B3 H3 (e2.trans e3) w3 ⟨p, vs, rfl, ex_t e3 hs, by rw [List.append_nil]; exact hp3⟩
      · have eN := Ex.new (o := HO.tup (vs ++ us)) (fresh_back w3.b hl)
        exact q _ (upd B3 l _) _ ((e2.trans e3).trans eN) (w3.ext hl) ⟨l, _, rfl, st_of upd_same, paired_mono eN (paired_app hp3 hp')⟩
    · cases hc
def repT (xs : List α) (k : Int) : Option (List α) := if xs ≠ [] ∧ 2 ≤ k ∧ k ≤ 1000 ∧ xs.length ≤ 1000 then some (List.replicate k.toNat xs).flatten else none
theorem paired_rep {F : V → α → Prop} {xs : List V} {as : List α} (h : Paired F xs as) : ∀ n : Nat, Paired F (List.replicate n xs).flatten (List.replicate n as).flatten
  | 0 => .nil
  | n + 1 => by
    rw [List.replicate_succ, List.replicate_succ, List.flatten_cons, List.flatten_cons]
    exact paired_app h (paired_rep h n)
theorem ev_repT {xs zs : List α} (h : EV K M ta σ B L (rTup r) xs L1) (h' : EV K M tb σ B L1 rInt k L2) (hc : repT xs k = some zs) : EV K M (tOp (rRepT K) ta tb) σ B L (rTup r) zs L2 := fun B1 H e w Q q =>
  h B1 H e w _ fun v B2 H2 e2 w2 hv => h' B2 H2 (e.trans e2) w2 _ fun u B3 H3 e3 w3 hu => by
    obtain ⟨p, vs, rfl, hs, hp⟩ := hv
    unfold repT at hc
    split at hc
    · rename_i hl
      obtain ⟨l0, l1, l2, l3⟩ := hl
      obtain rfl := Option.some.inj hc
      have hp3 := paired_mono e3 hp
      have ll := paired_len hp
      refine ⟨p, k, vs, rfl, hu, ex_t w3.b (ex_t e3 hs), fun hz => l0 (by subst hz; exact List.length_eq_zero_iff.mp ll.symm), l1, l2, by omega, fun l hl => ?_⟩
      have eN := Ex.new (o := HO.tup (List.replicate k.toNat vs).flatten) (fresh_back w3.b hl)
      exact q _ (upd B3 l _) _ ((e2.trans e3).trans eN) (w3.ext hl) ⟨l, _, rfl, st_of upd_same, paired_mono eN (paired_rep hp3 _)⟩
    · cases hc
/-! ### typed values as data -/
def DQ (r : Rep α) (f : α → PyData) : Prop := ∀ K B v a, r.is K B v a → Dp K B v (f a)
theorem dq_int : DQ rInt PyData.int := dr_int.dp
theorem dq_bool : DQ rBool PyData.bool := dr_bool.dp
theorem dq_non : DQ rNon dNon := dr_non.dp
theorem dq_str : DQ rStr PyData.str := fun _ _ _ a h => by have h : _ = V.str a := h; subst h; exact .str a
theorem dq_dat : DQ rDat id := fun _ _ _ _ h => h
theorem dq_tup {f : α → PyData} (d : DQ r f) : DQ (rTup r) (dTup f) := fun K B v a ⟨p, xs, h1, h2, h3⟩ => by subst h1; exact .tup h2 (dpAll_of (d K B) h3)
theorem dq_lst {f : α → PyData} (d : DQ r f) : DQ (rLst r) (dLst f) := fun K B v a ⟨p, xs, h1, h2, h3⟩ => by subst h1; exact .lst (sq_of h2) (dpAll_of (d K B) h3)
theorem dq_T2 {f : α → PyData} {g : β → PyData} (d : DQ r f) (e : DQ s g) : DQ (rT2 r s) (dT2 f g) := fun K B v a ⟨p, x, y, h1, h2, h3, h4⟩ => by subst h1; exact .tup h2 (.cons (d _ _ _ _ h3) (.cons (e _ _ _ _ h4) .nil))
theorem dq_T3 {f : α → PyData} {g : β → PyData} {h : γ → PyData} (d : DQ r f) (e : DQ s g) (c : DQ t h) : DQ (rT3 r s t) (dT3 f g h) := fun K B v a ⟨p, x, y, z, h1, h2, h3, h4, h5⟩ => by subst h1; exact .tup h2 (.cons (d _ _ _ _ h3) (.cons (e _ _ _ _ h4) (.cons (c _ _ _ _ h5) .nil)))
theorem dq_opt {f : α → PyData} (d : DQ r f) : DQ (rOpt r) (dOpt f) := fun K B v a h => by
  cases a with
  | none => have h : v = .non := h; subst h; exact .non
  | some a => exact d _ _ _ _ h
theorem ev_dq {f : α → PyData} {a : α} (h : EV K M te σ B L r a L') (D : DQ r f) : EV K M te σ B L rDat (f a) L' := ev_as h fun _ _ h => D _ _ _ _ h
theorem ev_notND {d : PyData} (ha : EV K M ta σ B L rDat d L1) : EV K M (tNotN ta) σ B L rBool (!isNoneD d) L1 := fun B1 H e w Q q =>
  ha B1 H e w _ fun x B2 H2 e2 w2 hx => q _ B2 H2 e2 w2 (by
    show V.bl _ = V.bl _
    congr 1
    have hx : Dp K B2 x d := hx
    cases hx <;> rfl)
end
/-- a slot that may not be set yet -/
def slotIs {α : Type} (r : Rep α) (K : Fg) (B : Hp) (o : Option V) (x : Option α) : Prop := match x with
  | none => True
  | some a => ∃ v, o = some v ∧ r.is K B v a
theorem slot_mono {α : Type} {r : Rep α} {K : Fg} {B B' : Hp} {o : Option V} {x : Option α} (e : Ex B B') (h : slotIs r K B o x) : slotIs r K B' o x := by
  cases x with
  | none => trivial
  | some a => obtain ⟨v, h1, h2⟩ := h; exact ⟨v, h1, r.mono e h2⟩
theorem slot_get {α : Type} {r : Rep α} {K : Fg} {B : Hp} {o : Option V} {x : Option α} {a : α} (h : slotIs r K B o x) (e : x = some a) : ∃ v, o = some v ∧ r.is K B v a := by
  subst e; exact h
end L3

/-! () * k -/
namespace L3G
open PySem PySem.Spec PyProof.Rows L2
theorem tuple_mul0 (l : Addr) (n : Nat) (dd : Option Addr) (sl : Array (Option Value)) (x : Int) (u : Tok) (c0 : (decide (x < -(2 ^ 63)) || decide (x ≥ 2 ^ 63)) = false) :
    Meets (Builtin.«tuple.__mul__» ⟨[.ref l, .int x u], []⟩) (fun _ R s => s.heap.get? l = some { cls := .type "tuple", dict := dd, data := .seq #[] n, slots := sl } ∧
      R (.ok (.ret (Value.ref l))) s) :=
  .of_wp fun prog w A R s h => by
    obtain ⟨hp, g, d, tk, os⟩ := s
    obtain ⟨hl, h⟩ := h
    have f1 := AutoSeq1.idx_int
    wp_walk using wpAny_loadPart' hl
    repeat (first
      | (refine wpAny_ite_false (decide_eq_false (by rw [c0]; exact Bool.false_ne_true)) ?_; wp_walk using wpAny_loadPart' hl)
      | (refine wpAny_ite_true (decide_eq_true (by rfl)) ?_; wp_walk using wpAny_loadPart' hl))
    exact ⟨_, rfl, h⟩
def rRepA (K : PySem.W.Frag) : R2 := fun x y H Q => rRepT K x y H Q ∨ ∃ l k, x = .ref l ∧ y = .int k ∧ SqT K H l [] ∧ 0 ≤ k ∧ k ≤ 1000 ∧ Q (.ref l) H
theorem op_repA {X : Cx} : OpR X (binaryOp .Mult) (rRepA X.K) := by
  intro pins s σ H x y v u Q I rx ry h
  rcases h with h | h
  · exact op_repT pins s σ H x y v u Q I rx ry h
  · obtain ⟨l, k, rfl, rfl, hT, h1, h2, q⟩ := h
    cases rx
    obtain ⟨t, rfl⟩ := ry
    obtain ⟨its, r, ⟨⟨cls, dd, data, sl⟩, ho, hc, n, hd⟩, hs⟩ := I.tuple hT
    simp only at hc hd
    subst hc hd
    cases r
    have c0 : (decide (k < -(2 ^ 63)) || decide (k ≥ 2 ^ 63)) = false := by
      rw [decide_eq_false (by omega), decide_eq_false (by omega)] <;> rfl
    refine wpAny_binaryOp_repeat_ref (T := "tuple") (U := "int") (by decide) ⟨_, ho, rfl⟩ (fun s' => typeIs_int s' k t) noFill_tuple_mul F.fills_int_mul F.slot_int_rmul repeat_tuple F.slot_int_index.lookup
      (call_meets F.slot_int_rmul (typeIs_int s k t) F.entry_int_rmul (F.args_int_rmul_2 _ _) (int_rmul_tuple k t l #[] n dd sl)
        ⟨ho, rfl, ⟨_, ho, rfl⟩, call_meets F.slot_tuple_mul ⟨_, ho, rfl⟩ F.entry_tuple_mul (F.args_tuple_mul_2 _ _) (tuple_mul0 l n dd sl k t c0) ⟨ho, ?_⟩⟩)
    exact ⟨.ref l, H, I, rfl, q⟩
end L3G
namespace L3
open PySem L2
open Evl (Ex ex_rd ex_l ex_t sq_of st_of fresh_back)
section
variable {K : Fg} {M : Fr} {σ : St} {B : Hp} {L L1 L2 L' : List Cell} {α : Type} {r : Rep α} {ta tb : TE} {k : Int}
def repA (xs : List α) (k : Int) : Option (List α) := if 2 ≤ k ∧ k ≤ 1000 ∧ xs.length ≤ 1000 then some (List.replicate k.toNat xs).flatten else none
theorem rep_nil : ∀ n : Nat, (List.replicate n ([] : List α)).flatten = []
  | 0 => rfl
  | n + 1 => by rw [List.replicate_succ, List.flatten_cons, rep_nil n]; rfl
theorem ev_repA {xs zs : List α} (h : EV K M ta σ B L (rTup r) xs L1) (h' : EV K M tb σ B L1 rInt k L2) (hc : repA xs k = some zs) : EV K M (tOp (L3G.rRepA K) ta tb) σ B L (rTup r) zs L2 := fun B1 H e w Q q =>
  h B1 H e w _ fun v B2 H2 e2 w2 hv => h' B2 H2 (e.trans e2) w2 _ fun u B3 H3 e3 w3 hu => by
    obtain ⟨p, vs, rfl, hs, hp⟩ := hv
    unfold repA at hc
    split at hc
    · rename_i hl
      obtain ⟨l1, l2, l3⟩ := hl
      obtain rfl := Option.some.inj hc
      have hp3 := paired_mono e3 hp
      have ll := paired_len hp
      by_cases hn : vs = []
      · subst hn
        have hx : xs = [] := List.length_eq_zero_iff.mp ll.symm
        subst hx
        refine .inr ⟨p, k, rfl, hu, ex_t w3.b (ex_t e3 hs), by omega, l2, ?_⟩
        rw [rep_nil] at q
        exact q _ B3 H3 (e2.trans e3) w3 ⟨p, [], rfl, ex_t e3 hs, .nil⟩
      · refine .inl ⟨p, k, vs, rfl, hu, ex_t w3.b (ex_t e3 hs), hn, l1, l2, by omega, fun l hl => ?_⟩
        have eN := Ex.new (o := HO.tup (List.replicate k.toNat vs).flatten) (fresh_back w3.b hl)
        exact q _ (upd B3 l _) _ ((e2.trans e3).trans eN) (w3.ext hl) ⟨l, _, rfl, st_of upd_same, paired_mono eN (paired_rep hp3 _)⟩
    · cases hc
end
end L3

/-! dicts of ints by ints; sorted(d.items()) -/
namespace L3G
open PySem PySem.Spec PyProof.Rows L2
abbrev encI (kvs : List (Int × Int)) : List (Key × V) := kvs.map fun q => (Sum.inl q.1, V.int q.2)
def rSortI : V → Hp → VK → Prop := fun x H Q => ∃ (d : Addr) (kvs : List (Int × Int)), x = .ref d ∧ H d = some (.dK (encI kvs)) ∧
  ∀ (H' : Hp) (p : Addr) (ts : List Addr) (ys : List (Int × Int)), (∀ b o, H b = some o → H' b = some o) → (∀ t ∈ ts, H t = none) → H' p = none → Paired (fun (t : Addr) (q : Int × Int) => H' t = some (.tup [.int q.1, .int q.2])) ts ys →
    ys.Perm kvs → ys.Pairwise (fun a b => SrtO.lexB b a = false) → Q (.ref p) (upd H' p (.lst (ts.map V.ref)))
def tSortI (te : TE) : TE := fun σ H Q => te σ H fun x H1 => rSortI x H1 Q
def ofH (H : Hp) (v : Value) : Int × Int := match v with
  | .ref a => (match H a with
    | some (.tup [.int x, .int y]) => (x, y)
    | _ => (0, 0))
  | _ => (0, 0)
section
variable {X : Cx} {e : Expr} {te : TE} {p apos cpos pos : Pos}
theorem tups_laid {pins : List (Addr × Obj)} {σ : L2.St} {H : Hp} {s : Shared} {h' : Heap} {tk lo : Nat} {kvs : List (Key × V)} {vs : List (Key × Value)} {as : List Addr} (I : Inv X pins σ H s) (hlo : s.heap.objs.size ≤ lo) (kv : KV kvs vs)
    (hk : ∀ b o, s.heap.get? b = some o → h'.get? b = some o) (hl : as.length = vs.length) (hG : PySem.W.KdxG (mixKind X.prog X.w) vs lo h' as) :
    ∃ H' : Hp, (∀ b o, H b = some o → H' b = some o) ∧ (∀ t ∈ as, H t = none) ∧ Paired (fun (t : Addr) (q : Key × V) => H' t = some (.tup [kV q.1, q.2])) as kvs ∧ Inv X pins σ H' { s with heap := h', toks := tk } := by
  have lk : kvs.length = vs.length := Paired.length kv
  have nd : as.Nodup := List.Pairwise.imp (fun {a b} (h : a < b) => Nat.ne_of_lt h) hG.rise
  have ge : ∀ t ∈ as, s.heap.objs.size ≤ t := fun t ht => Nat.le_trans hlo (Nat.le_of_lt (hG.above t ht))
  have new : ∀ t ∈ as, H t = none := fun t ht => I.hok.fresh (ge t ht)
  have atP := LiI.putT_at as kvs H (by omega) nd
  have off : ∀ b, b ∉ as → LiI.putT H as kvs b = H b := fun b h1 => LiI.putT_off as kvs _ h1
  have low : ∀ b o, s.heap.get? b = some o → b ∉ as := fun b o e z => absurd (Heap.lt_size e) (Nat.not_lt.mpr (ge b z))
  have kp : ∀ b u, H b = some u → (LiI.putT H as kvs) b = some u := fun b u e => by
    rw [off b (fun z => by rw [new b z] at e; cases e)]
    exact e
  refine ⟨LiI.putT H as kvs, kp, new, atP, ?_⟩
  refine I.call' (ch := []) rfl ⟨fun b o q _ _ _ => hk b o q, fun b o q _ _ _ => ⟨o.slots, hk b o q⟩, fun b o q n _ => ?_, fun b o q _ => ⟨o, hk b o q⟩, fun b xs q => kp b _ q, fun b o u q => kp b _ q, fun b ps q => ⟨#[], by rw [kp b _ q]; simp⟩⟩ (fun b u q => ?_) I.bare fun b z => by simp at z
  · rw [off b (low b o q)]
    exact n
  · by_cases hb : b ∈ as
    · obtain ⟨j, pk, e1, e2, e3⟩ := LiI.paired_ix atP hb
      rw [e3] at q
      cases q
      obtain ⟨key, k, x, f1, f2, f3⟩ := hG.pairs j b e1
      obtain ⟨qv, g1, g2, g3⟩ := LiI.paired_get kv e2
      rw [f1] at g1
      cases g1
      have rk : RelV (kV pk.1) key := by
        rw [g2]
        exact relV_key (show keyIs k key = true from f2)
      exact ⟨by show 2 ≤ sizeLine; decide, [key, x], .cons rk (.cons g3 .nil), ⟨_, f3, rfl, _, rfl⟩⟩
    · rw [off b hb] at q
      exact (I.hok b u q).stay (fun d v _ y => hk d v y) (fun d y => kp d _ y) fun d xs y => kp d _ y
theorem ofH_eq {H : Hp} {a : Addr} {q : Int × Int} (h : H a = some (.tup [.int q.1, .int q.2])) : ofH H (.ref a) = q := by
  show (match H a with | some (.tup [.int x, .int y]) => (x, y) | _ => (0, 0)) = q
  rw [h]
theorem ofH_is {H : Hp} : ∀ {as : List Addr} {kvs : List (Int × Int)}, Paired (fun (t : Addr) (q : Key × V) => H t = some (.tup [kV q.1, q.2])) as (encI kvs) → (as.map Value.ref).map (ofH H) = kvs
  | [], [], _ => rfl
  | [], _ :: _, h => by cases h
  | _ :: _, [], h => by cases h
  | a :: as, q :: kvs, h => by
    cases h with
    | cons h1 h2 =>
      rw [List.map_cons, List.map_cons, ofH_is h2]
      have h1 : H a = some (.tup [.int q.1, .int q.2]) := h1
      show ofH H (.ref a) :: kvs = _
      rw [ofH_eq h1]
theorem ofH_at {H : Hp} : ∀ {as : List Addr} {kvs : List (Int × Int)}, Paired (fun (t : Addr) (q : Key × V) => H t = some (.tup [kV q.1, q.2])) as (encI kvs) → ∀ {a}, a ∈ as → H a = some (.tup [.int (ofH H (.ref a)).1, .int (ofH H (.ref a)).2])
  | [], _, _, a, h => absurd h (by simp)
  | _ :: _, [], h, _, _ => by cases h
  | b :: as, q :: kvs, h, a, ha => by
    cases h with
    | cons h1 h2 =>
      rcases List.mem_cons.mp ha with e | ha
      · subst e
        have h1 : H a = some (.tup [.int q.1, .int q.2]) := h1
        have e : ofH H (.ref a) = q := ofH_eq h1
        rw [e]; exact h1
      · exact ofH_at h2 ha
theorem paired_self {H : Hp} : ∀ {ts : List Addr}, (∀ t ∈ ts, H t = some (.tup [.int (ofH H (.ref t)).1, .int (ofH H (.ref t)).2])) → Paired (fun (t : Addr) (q : Int × Int) => H t = some (.tup [.int q.1, .int q.2])) ts ((ts.map Value.ref).map (ofH H))
  | [], _ => .nil
  | t :: ts, h => .cons (h t List.mem_cons_self) (paired_self fun u hu => h u (List.mem_cons_of_mem _ hu))
theorem refs_of : ∀ {us : List Value}, (∀ u ∈ us, ∃ a, u = Value.ref a) → ∃ ts : List Addr, us = ts.map Value.ref
  | [], _ => ⟨[], rfl⟩
  | u :: us, h => by
    obtain ⟨a, rfl⟩ := h u List.mem_cons_self
    obtain ⟨ts, rfl⟩ := refs_of fun v hv => h v (List.mem_cons_of_mem _ hv)
    exact ⟨a :: ts, rfl⟩
/-- sorted(e.items()) -/
theorem pe_sortI (hc : X.calm = true) (he : PE X e te) (hg : Gl X "sorted") (hm : X.mg "sorted" = none) (hv : bootBuiltins "sorted" = some (.builtin "sorted")) (hbase : attributeBase e "items" X.env (eval e X.env) = eval e X.env := by rfl) (hline : (apos.endLine == cpos.line) = true := by rfl)
    (hs : starEach [.Call (.Attribute e "items" apos) [] [] cpos] X.env = (false, eval (.Call (.Attribute e "items" apos) [] [] cpos) X.env) :: starEach [] X.env := by rfl) :
    PE X (.Call (.Name "sorted" p) [.Call (.Attribute e "items" apos) [] [] cpos] [] pos) (tSortI te) := by
  refine ⟨fun pins s σ H Q I hq => ?_⟩
  refine wpAny_Call_Name_kw (ld_blt I hg hm hv ?_)
  refine PyProof.Rows.callWith_builtin1 ?_ hs (by rfl)
  rw [hs]
  show wpAny _ _ (spliced ((false, eval (.Call (.Attribute e "items" apos) [] [] cpos) X.env) :: backTo pos (starEach [] X.env))) _ _ s
  refine Calls.spliced_cons ?_
  refine wpAny_Call_method (T := "dict") (id := "dict.items") hbase rfl hline F.plainAttrs_dict F.slot_dict_items F.type_dict_items (thn (he.run pins s σ H _ I hq) fun u s1 ⟨x, H1, I1, rx, d, kvs, ex, hd, q⟩ => ?_)
  subst ex
  obtain rfl : u = Value.ref d := rx
  obtain ⟨hz, hs0, vs, kv, hdo⟩ := I1.hok d _ hd
  obtain ⟨ep, hat⟩ := hdo.dictAt
  have lk : (encI kvs).length = vs.length := Paired.length kv
  have I2 : Inv X pins σ H1 { s1 with heap := s1.heap.push { cls := .type "dict_items", data := .fields #[.ref d] } } := I1.kept (t' := s1.toks) fun b ob q => Heap.get?_push_of_some _ q
  refine ⟨hdo.typeIs, hdo.mapOf.noDict, ?_⟩
  show wpAny _ _ (callWith cpos (.builtin "dict.items") [.ref d] [] []) _ X.xe s1
  refine method_meetsIn F.slot_dict_items F.entry_dict_items rfl (PySem.evalArgs_none ⟨rfl, hdo.typeIs, F.args_dict_items_1 _, _, meets_dict_items (mixKind X.prog X.w) d hs0, ⟨vs, hdo⟩, ?_⟩)
  refine Calls.spliced_nil ?_
  refine Calls.call_function_entry kind_sorted plain_sorted entry_sorted (args_sorted1 _) ?_
  unfold Builtin.«sorted»
  refine wpAny_bind (m := checkCount "sorted" 1 1 _) (wpAny_pure ?_)
  have hh : X.A.in1.handled = none := I1.ok.hd hc
  refine wpAny_bind (PySem.W.kdx_collect (A := X.A.in1) (knd := mixKind X.prog X.w) (kvs := vs) (ep := ep) hh ⟨_, Heap.get?_push_size _ rfl, rfl, rfl⟩ (hat.push _) (by omega) fun h' tk as hk hl hG => ?_)
  obtain ⟨H', k1, k3, k6, J⟩ := tups_laid (tk := tk) I2 (Nat.le_refl _) kv hk hl hG
  have hz2 : (as.map Value.ref).length ≤ sizeLine := by rw [List.length_map, hl]; omega
  refine wpAny_bind (wpAny_newList ?_ hz2)
  have hoL : (h'.push (seqObj "list" (as.map Value.ref).toArray 0)).get? h'.objs.size = some (seqObj "list" (as.map Value.ref).toArray 0) := Heap.get?_push_size _ rfl
  have isP : ∀ v ∈ as.map Value.ref, Srt.IsPair h' v (ofH H' v).1 (ofH H' v).2 := fun v hv => by
    obtain ⟨t, ht, rfl⟩ := List.mem_map.mp hv
    have ha := ofH_at k6 ht
    obtain ⟨_, its2, r2, o, ho, hc, n, hd⟩ := J.hok _ _ ha
    obtain ⟨u1, u2, rfl, ri, rj⟩ := vals2 r2
    obtain ⟨t1, rfl⟩ := ri
    obtain ⟨t2, rfl⟩ := rj
    exact ⟨t, o, t1, t2, n, rfl, ho, hc, hd⟩
  refine wpAny_bind (wpAny_holding (wpAny_call_entry slot_list_sort ⟨_, hoL, rfl⟩ entry_list_sort (SrtO.list_sort_ord (n := 0) (SrtO.swo_lex (ofH H')) hoL hz2 (fun h2 => SrtO.pairs_sortableO (by omega) (fun v hm => (isP v hm).keeps fun b o e _ => Heap.get?_push_of_some _ e) fun o e => ?_) fun out hs hb => ⟨_, rfl, ?_⟩) (args_list_sort _)))
  · have e' : some o = some (seqObj "list" (as.map Value.ref).toArray 0) := e.symm.trans hoL
    cases e'
    intro c
    exact absurd (Value.type.inj c) (by decide)
  · refine wpAny_pure ⟨_, rfl, ?_⟩
    obtain ⟨ts, rfl⟩ := refs_of (us := out) fun u hu => by
      obtain ⟨t, _, e⟩ := List.mem_map.mp (hb.perm.mem_iff.mp hu)
      exact ⟨t, e.symm⟩
    have mem : ∀ t ∈ ts, t ∈ as := fun t ht => by
      obtain ⟨t', h1, h2⟩ := List.mem_map.mp (hb.perm.mem_iff.mp (List.mem_map.mpr ⟨t, ht, rfl⟩))
      cases h2
      exact h1
    have hl2 := hb.perm.length_eq
    have e1 := ofH_is k6
    obtain ⟨n, hn⟩ := sortedHeap_at (out := (ts.map Value.ref).toArray) hoL
    have old : ∀ b o, h'.get? b = some o → (sortedHeap (h'.push (seqObj "list" (as.map Value.ref).toArray 0)) h'.objs.size (as.map Value.ref) (ts.map Value.ref).toArray).get? b = some o := fun b o e => by
      have := Heap.lt_size e
      rw [sortedHeap_old (Nat.ne_of_lt this) (by rw [size_push']; exact Nat.lt_succ_of_lt this)]
      exact Heap.get?_push_of_some _ e
    refine ⟨.ref h'.objs.size, _, J.laid (a := h'.objs.size) (o := .lst (ts.map V.ref)) (t' := tk) old (Nat.le_refl _) ?_, rfl, q H' h'.objs.size ts ((ts.map Value.ref).map (ofH H')) k1 (fun t ht => k3 t (mem t ht)) (J.hok.fresh (Nat.le_refl _)) (paired_self fun t ht => ofH_at k6 (mem t ht)) ?_ ?_⟩
    · refine ⟨by rw [List.length_map]; rw [List.length_map] at hl2; rw [hl2]; exact hz2, ts.map Value.ref, n, LiI.vals_refs ts, hn⟩
    · rw [← e1]
      exact hb.perm.map _
    · exact SrtO.srtd_map (lt := SrtO.lexB) hs
end
end L3G
namespace L3
open PySem L2
open Evl (Ex ex_rd ex_l ex_t sq_of st_of fresh_back)

/-! ### dicts of ints by ints -/
def putI : List (Int × Int) → Int → Int → List (Int × Int)
  | [], k, v => [(k, v)]
  | q :: kvs, k, v => if q.1 = k then (q.1, v) :: kvs.map (fun q => if q.1 = k then (q.1, v) else q) else q :: putI kvs k v
def leI (a b : Int × Int) : Bool := !SrtO.lexB b a
def sortI (l : List (Int × Int)) : List (Int × Int) := l.mergeSort leI
def cDk : CRep (List (Int × Int)) := ⟨fun _ _ o a => o = .dK (L3G.encI a), fun _ h => h⟩
theorem putI_cons_ne {q : Int × Int} {kvs : List (Int × Int)} {k v : Int} (h : q.1 ≠ k) : putI (q :: kvs) k v = q :: putI kvs k v := by
  show (if q.1 = k then _ else _) = _
  rw [if_neg h]
theorem enc_map (k v : Int) : ∀ kvs : List (Int × Int), (L3G.encI kvs).map (fun kv => if kv.1 = (Sum.inl k : Key) then (kv.1, V.int v) else kv) = L3G.encI (kvs.map fun q => if q.1 = k then (q.1, v) else q)
  | [] => rfl
  | q :: kvs => by
    have ih := enc_map k v kvs
    by_cases h : q.1 = k
    · show (if (Sum.inl q.1 : Key) = Sum.inl k then _ else _) :: (L3G.encI kvs).map _ = L3G.encI ((if q.1 = k then (q.1, v) else q) :: _)
      rw [ih, if_pos (by rw [h]), if_pos h]; rfl
    · show (if (Sum.inl q.1 : Key) = Sum.inl k then _ else _) :: (L3G.encI kvs).map _ = L3G.encI ((if q.1 = k then (q.1, v) else q) :: _)
      rw [ih, if_neg (fun z => h (Sum.inl.inj z)), if_neg h]; rfl
theorem enc_put (k v : Int) : ∀ kvs : List (Int × Int), putK (L3G.encI kvs) (Sum.inl k) (V.int v) = L3G.encI (putI kvs k v)
  | [] => rfl
  | q :: kvs => by
    by_cases h : q.1 = k
    · have e1 : ((L3G.encI (q :: kvs)).any fun kv => decide (kv.1 = (Sum.inl k : Key))) = true := by
        show (decide ((Sum.inl q.1 : Key) = Sum.inl k) || _) = true
        rw [h, decide_eq_true rfl, Bool.true_or]
      unfold putK
      rw [if_pos e1, enc_map]
      unfold putI
      rw [if_pos h, List.map_cons, if_pos h]
    · have ne : ¬ (Sum.inl q.1 : Key) = Sum.inl k := fun z => h (Sum.inl.inj z)
      have ih := enc_put k v kvs
      rw [putI_cons_ne h]
      unfold putK at ih ⊢
      have e0 : ((L3G.encI (q :: kvs)).any fun kv => decide (kv.1 = (Sum.inl k : Key))) = ((L3G.encI kvs).any fun kv => decide (kv.1 = (Sum.inl k : Key))) := by
        show (decide ((Sum.inl q.1 : Key) = Sum.inl k) || _) = _
        rw [decide_eq_false ne, Bool.false_or]
      rw [e0]
      by_cases ha : ((L3G.encI kvs).any fun kv => decide (kv.1 = (Sum.inl k : Key))) = true
      · rw [if_pos ha] at ih ⊢
        show (if (Sum.inl q.1 : Key) = Sum.inl k then _ else _) :: (L3G.encI kvs).map _ = _
        rw [if_neg ne, ih]
        rfl
      · rw [if_neg ha] at ih ⊢
        show _ :: (L3G.encI kvs ++ _) = _
        rw [ih]
        rfl
theorem sortI_eq {ys l : List (Int × Int)} (hp : ys.Perm l) (hs : ys.Pairwise (fun a b => SrtO.lexB b a = false)) : ys = sortI l := by
  refine List.Perm.eq_of_pairwise (le := fun a b => SrtO.lexB b a = false) (fun a b _ _ h1 h2 => ?_) hs ?_ (hp.trans (List.mergeSort_perm l leI).symm)
  · have a1 := SrtO.lexB_no.mp h1
    have a2 := SrtO.lexB_no.mp h2
    exact Prod.ext (by omega) (by omega)
  · refine (List.pairwise_mergeSort (le := leI) (fun a b c h1 h2 => ?_) (fun a b => ?_) l).imp fun {a b} h => ?_
    · unfold leI at *
      rw [Bool.not_eq_true'] at *
      have a1 := SrtO.lexB_no.mp h1
      have a2 := SrtO.lexB_no.mp h2
      refine SrtO.lexB_no.mpr ?_
      omega
    · unfold leI
      cases e : SrtO.lexB b a with
      | false => rfl
      | true =>
        have a1 := SrtO.lexB_iff.mp e
        have a2 : SrtO.lexB a b = false := SrtO.lexB_no.mpr (by omega)
        rw [a2]; rfl
    · unfold leI at h
      rwa [Bool.not_eq_true'] at h
theorem sortI_perm (l : List (Int × Int)) : (sortI l).Perm l := List.mergeSort_perm l leI
def rSetD : V → V → V → Hp → (Hp → Prop) → Prop := fun o i v H Q => ∃ a H4, o = .ref a ∧ DPut H a i v H4 ∧ Q H4
theorem set_dict {X : Cx} (hu : X.A.units + 1 < cLine) : PSet X rSetD := by
  intro pins s σ H o i v ov iv u Q I ro ri rv h
  obtain ⟨a, H4, rfl, g, q⟩ := h
  cases ro
  exact d_setItem hu I g ri rv fun s4 I4 => ⟨H4, I4, q⟩
section
variable {K : Fg} {M : Fr} {σ : St} {B H H' : Hp} {L L1 L2 L' : List Cell} {α β γ δ : Type} {r : Rep α} {s : Rep β} {ta tb tc te : TE} {tt tu : TT} {tA : TA} {i j k : Int} {D : Ends} {tz : TS}
theorem Own.grow (w : Own K B M L H) (k : ∀ b o, H b = some o → H' b = some o) : Own K B M L H' :=
  ⟨fun b u e => k b u (w.b b u e), fun b u e => k b u (w.m b u e), w.bm, fun x hx => by
    obtain ⟨⟨o, h1, h2⟩, h3⟩ := w.l x hx
    exact ⟨⟨o, k _ _ h1, h2⟩, h3⟩, w.nd, fun P hP => by
    obtain ⟨⟨ps, h1, h2⟩, h3⟩ := w.t P hP
    exact ⟨⟨ps, k _ _ h1, h2⟩, h3⟩⟩
/-- new things that stay -/
theorem Own.join {ts : List Addr} (w : Own K B M L H) (k : ∀ b o, H b = some o → H' b = some o) (new : ∀ t ∈ ts, H t = none) : Ex B (fun a => if a ∈ ts then H' a else B a) ∧ Own K (fun a => if a ∈ ts then H' a else B a) M L H' := by
  have off : ∀ {b u}, B b = some u → b ∉ ts := fun {b u} e z => by
    have := w.b b u e
    rw [new b z] at this
    cases this
  have e0 : Ex B (fun a => if a ∈ ts then H' a else B a) := fun b u e => by
    show (if b ∈ ts then H' b else B b) = some u
    rw [if_neg (off e)]; exact e
  refine ⟨e0, fun b u e => ?_, fun b u e => k b u (w.m b u e), fun b => ?_, fun x hx => ?_, w.nd, fun P hP => ?_⟩
  · have e : (if b ∈ ts then H' b else B b) = some u := e
    by_cases hb : b ∈ ts
    · rw [if_pos hb] at e; exact e
    · rw [if_neg hb] at e; exact k b u (w.b b u e)
  · by_cases hb : b ∈ ts
    · right
      exact fresh_back w.m (new b hb)
    · rcases w.bm b with h | h
      · left
        show (if b ∈ ts then H' b else B b) = none
        rw [if_neg hb]; exact h
      · exact .inr h
  · obtain ⟨⟨o, h1, h2⟩, h3, h4⟩ := w.l x hx
    refine ⟨⟨o, k _ _ h1, x.c.mono e0 h2⟩, ?_, h4⟩
    show (if x.p ∈ ts then H' x.p else B x.p) = none
    rw [if_neg (fun z => by rw [new _ z] at h1; cases h1)]; exact h3
  · obtain ⟨⟨ps, h1, h2⟩, h3, h4⟩ := w.t P hP
    refine ⟨⟨ps, k _ _ h1, h2⟩, ?_, h4⟩
    show (if P ∈ ts then H' P else B P) = none
    rw [if_neg (fun z => by rw [new _ z] at h1; cases h1)]; exact h3
theorem q_asgD {n : Nat} (w : Own K B M L H) (q : ∀ p H', Own K B M (⟨p, cDk, []⟩ :: L) H' → tz D (σ.set n (some (.ref p))) H') : tSeq (tAsg tDNewK (gName n)) tz D σ H :=
  fun p hp => q p _ (w.new hp rfl)
theorem q_setD {n m : Nat} {p : Addr} {as : List (Int × Int)} (w : Own K B M L H) (h : EV K M te σ B L rInt j L1) (hs : σ[m]? = some (some (.ref p))) (hb : EV K M tb σ B L1 rInt i L2) (hc : L2[n]? = some ⟨p, cDk, as⟩) (hr : room as.length = some ())
    (q : ∀ B' H', Ex B B' → Own K B' M (L2.set n ⟨p, cDk, putI as i j⟩) H' → tz D σ H') : tSeq (tAsg te (gSub (tVar m) tb rSetD)) tz D σ H :=
  h B H (Ex.refl _) w _ fun v B1 H1 e1 w1 hv => ⟨_, hs, hb B1 H1 e1 w1 _ fun y B2 H2 e2 w2 hy => by
    obtain ⟨⟨o', g1, g2⟩, _⟩ := w2.at hc
    have g1 : H2 p = some o' := g1
    have g2 : o' = .dK (L3G.encI as) := g2
    have hv : v = .int j := hv
    have hy : y = kV (Sum.inl i) := hy
    subst hv hy
    refine ⟨p, _, rfl, DPut.k (kvs := L3G.encI as) (by rw [g1, g2]) (by rw [List.length_map]; exact room_some hr), q B2 _ (e1.trans e2) (w2.set hc ?_)⟩
    show _ = HO.dK (L3G.encI (putI as i j))
    rw [← enc_put]⟩
theorem el_sortI {n m : Nat} {p : Addr} {as : List (Int × Int)} (hs : σ[m]? = some (some (.ref p))) (hc : L[n]? = some ⟨p, cDk, as⟩) : EVL K M (L3G.tSortI (tVar m)) σ B L (rT2 rInt rInt) (sortI as) L := fun B1 H e w Q q => by
  obtain ⟨⟨o', g1, g2⟩, _⟩ := w.at hc
  have g1 : H p = some o' := g1
  have g2 : o' = .dK (L3G.encI as) := g2
  refine ⟨_, hs, p, as, rfl, by rw [g1, g2], fun H' l ts ys k new hl hp pm st => ?_⟩
  obtain ⟨e2, w2⟩ := w.join k new
  have ey := sortI_eq pm st
  subst ey
  refine q l _ _ e2 (w2.new hl ⟨ts.map V.ref, rfl, ?_⟩)
  have go : ∀ (ts' : List Addr) (ys : List (Int × Int)), (∀ t ∈ ts', t ∈ ts) → Paired (fun (t : Addr) (q : Int × Int) => H' t = some (.tup [.int q.1, .int q.2])) ts' ys → Paired ((rT2 rInt rInt).is K fun a => if a ∈ ts then H' a else B1 a) (ts'.map V.ref) ys := fun ts' => by
    induction ts' with
    | nil => intro ys _ h; cases h; exact .nil
    | cons t ts' ih =>
      intro ys hm h
      cases h with
      | cons h1 h2 =>
        refine .cons ⟨t, _, _, rfl, st_of ?_, rfl, rfl⟩ (ih _ (fun u hu => hm u (List.mem_cons_of_mem _ hu)) h2)
        show (if t ∈ ts then H' t else B1 t) = _
        rw [if_pos (hm t List.mem_cons_self)]
        exact h1
  exact go ts _ (fun _ h => h) hp
theorem ints_of {K : Fg} {B : Hp} : ∀ {vs : List V} {xs : List Int}, Paired (rInt.is K B) vs xs → vs = xs.map V.int
  | _, _, .nil => rfl
  | _, _, .cons h t => by
    have h : _ = V.int _ := h
    rw [h, ints_of t]; rfl
theorem ev_sumL {xs : List Int} (h : EV K M te σ B L (rLst rInt) xs L') : EV K M (tCB (rSum K) (tCons te tNil)) σ B L rInt xs.sum L' := fun B1 H e w Q q =>
  h B1 H e w _ fun v B2 H2 e2 w2 hv => by
    obtain ⟨p, vs, rfl, hs, hp⟩ := rl_sc hv
    exact ⟨p, xs, rfl, by rw [← ints_of hp]; exact ex_l w2.b hs, q _ B2 H2 e2 w2 rfl⟩
end
end L3

namespace L3
open PySem L2
open Evl (Ex ex_rd ex_l ex_t sq_of st_of fresh_back)
/-! ### [..] * k -/
section
variable {K : Fg} {M : Fr} {σ : St} {B H H' : Hp} {L L1 L2 L' : List Cell} {α β γ δ : Type} {r : Rep α} {s : Rep β} {ta tb tc te : TE} {i j k : Int}
def repL (xs : List α) (k : Int) : Option (List α) := if -(2 ^ 62) ≤ k ∧ k < 2 ^ 62 ∧ xs.length * k.toNat ≤ sizeLine then some (List.replicate k.toNat xs).flatten else none
theorem el_rep {xs zs : List α} (h : EVL K M ta σ B L r xs L1) (h' : ∀ p, EV K M tb σ B (⟨p, cLst r, xs⟩ :: L1) rInt k (⟨p, cLst r, xs⟩ :: L2)) (hc : repL xs k = some zs) : EVL K M (tOp rRep ta tb) σ B L r zs L2 := fun B1 H e w Q q =>
  h B1 H e w _ fun p B2 H2 e2 w2 => h' p B2 H2 (e.trans e2) w2 _ fun u B3 H3 e3 w3 hu => by
    unfold repL at hc
    split at hc
    · rename_i hl
      obtain ⟨l1, l2, l3⟩ := hl
      obtain rfl := Option.some.inj hc
      obtain ⟨⟨o, g1, vs, g2, hp⟩, _⟩ := w3.at (i := 0) rfl
      have g1 : H3 p = some o := g1
      have ll := paired_len hp
      have ll : vs.length = xs.length := ll
      refine ⟨p, k, vs, rfl, hu, by rw [g1, g2], by omega, by omega, by rw [ll]; exact l3, fun l hl => ?_⟩
      exact q l B3 _ (e2.trans e3) (w3.tail.new hl ⟨_, rfl, paired_rep hp _⟩)
    · cases hc
theorem nn_rT2 {B : Hp} (v : V) (x : α × β) (h : (rT2 r s).is K B v x) : v ≠ .non := by
  obtain ⟨p, _, _, rfl, _⟩ := h
  exact fun z => by cases z
theorem nn_rTup {B : Hp} (v : V) (x : List α) (h : (rTup r).is K B v x) : v ≠ .non := by
  obtain ⟨p, _, rfl, _⟩ := h
  exact fun z => by cases z
theorem nn_rLst {B : Hp} (v : V) (x : List α) (h : (rLst r).is K B v x) : v ≠ .non := by
  obtain ⟨p, _, rfl, _⟩ := h
  exact fun z => by cases z
abbrev rTupOf (K : Fg) : List V → Hp → VK → Prop := fun xs H Q => ∃ p ys, xs = [.ref p] ∧ ((SqL K H p ys ∧ ∀ l, H l = none → Q (.ref l) (upd H l (.tup ys))) ∨ (SqT K H p ys ∧ Q (.ref p) H))
abbrev rListOf (K : Fg) : List V → Hp → VK → Prop := fun xs H Q => ∃ p ys, xs = [.ref p] ∧ (SqL K H p ys ∨ SqT K H p ys) ∧ ∀ l, H l = none → Q (.ref l) (upd H l (.lst ys))
/-! ### a def at an address -/
structure ClA (P : Program) (w : World) (K : Fg) (mg : Str → Option Value) (base : Heap) (k : Nat) (f : Addr) (sp : Sp) (dvs : List V) : Prop where
  ex : ∃ (fd : FuncData) (ps : List Str) (ds : List Value), FnOk P w K mg base CX0 k f fd ps sp ∧ PySem.W.keepIn K (.ref f) = true ∧ Binds K fd ps ds ∧ Vals dvs ds
theorem Cl.at {P : Program} {w : World} {mg : Str → Option Value} {base : Heap} {k : Nat} {x : Str} {sp : Sp} {dvs : List V} (c : Cl P w K mg base k x sp dvs) : ∃ f, mg x = some (.ref f) ∧ PySem.W.keepIn K (.ref f) = true ∧ ClA P w K mg base k f sp dvs := by
  obtain ⟨f, fd, ps, ds, F, hm, kp, b, d⟩ := c.ex
  exact ⟨f, hm, kp, fd, ps, ds, F, kp, b, d⟩
theorem pe_cL {X : Cx} {k j i : Nat} {f : Addr} {x : Str} {sp : Sp} {dvs : List V} {p pos : Pos} {e : Expr} {es : List Expr} {t : TA} (c : ClA X.prog X.w X.K X.mg X.base k f sp dvs) (hr : Room j X.A) (hk : k ≤ j) (hN : X.N[i]? = some x) (hv : Vis X.env.scope x) (ha : PA X (e :: es) t)
    (hdb : (x == ("__debug__" : Str)) = false := by decide) (hcd : (x == ("__classdict__" : Str)) = false := by decide) (he : starEach (e :: es) X.env = (false, eval e X.env) :: starEach es X.env := by rfl) (hpl : (backTo pos (starEach es X.env)).any (·.1) = false := by rfl) :
    PE X (.Call (.Name x p) (e :: es) [] pos) (tCallL i f sp dvs E0 t) := by
  obtain ⟨fd, ps, ds, F, kp, b, d⟩ := c.ex
  exact pe_callL F (hr.mono hk) hN hv kp b d pass0 ha hdb hcd he hpl
theorem ev_callL {i : Nat} {f : Addr} {sp : Sp} {dvs : List V} {E : XK} {tA : TA} {a : α} (hs : σ[i]? = some (some (.ref f))) (h : EV K M (tCall sp dvs E tA) σ B L r a L') : EV K M (tCallL i f sp dvs E tA) σ B L r a L' :=
  fun B1 H e w Q q => ⟨hs, h B1 H e w Q q⟩
/-- list(range(..)) -/
def rgO (a b : Int) : Option (List Int) := if -(2 ^ 62) ≤ a ∧ a < 2 ^ 62 ∧ -(2 ^ 62) ≤ b ∧ b < 2 ^ 62 ∧ (b - a).toNat ≤ 2 ^ 24 then some (rng a b) else none
theorem rg_paired {K : Fg} {B : Hp} (a b : Int) : Paired (rInt.is K B) (rgV a b) (rng a b) := by
  unfold rgV rng
  exact paired_map (F := rInt.is K B) (f := fun (i : Nat) => V.int (a + (i : Int))) (g := fun (k : Nat) => a + (k : Int)) (fun _ => rfl) _
theorem el_listRg1 {xs : List Int} (h : EV K M ta σ B L rInt k L') (hc : rgO 0 k = some xs) : EVL K M (tLstRg (tRg1 ta)) σ B L rInt xs L' := fun B1 H e w Q q =>
  h B1 H e w _ fun v B2 H2 e2 w2 hv => by
    unfold rgO at hc
    split at hc
    · rename_i ok
      obtain rfl := Option.some.inj hc
      exact ⟨k, hv, ok, fun l hl => q l B2 _ e2 (w2.new hl ⟨_, rfl, rg_paired 0 k⟩)⟩
    · cases hc
theorem el_listRg2 {xs : List Int} (h : EV K M ta σ B L rInt j L1) (h' : EV K M tb σ B L1 rInt k L') (hc : rgO j k = some xs) : EVL K M (tLstRg (tRg2 ta tb)) σ B L rInt xs L' := fun B1 H e w Q q =>
  h B1 H e w _ fun v B2 H2 e2 w2 hv => h' B2 H2 (e.trans e2) w2 _ fun u B3 H3 e3 w3 hu => by
    unfold rgO at hc
    split at hc
    · rename_i ok
      obtain rfl := Option.some.inj hc
      exact ⟨j, k, hv, hu, ok, fun l hl => q l B3 _ (e2.trans e3) (w3.new hl ⟨_, rfl, rg_paired j k⟩)⟩
    · cases hc
/-- a store as a part of a target -/
theorem g_setC {n m l : Nat} {p : Addr} {as : List α} {a : α} {v : V} {G : St → Hp → Prop} (w : Own K B M L H) (hv : r.is K B v a) (hs : σ[m]? = some (some (.ref p))) (hb : EV K M tb σ B L rInt i L2) (hc : L2[n]? = some ⟨p, cLst r, as⟩) (hi : ixO as.length i = some l)
    (q : ∀ B' H', Ex B B' → Own K B' M (L2.set n ⟨p, cLst r, as.set l a⟩) H' → G σ H') : gSub (tVar m) tb rSetL v σ H G :=
  ⟨_, hs, hb B H (Ex.refl _) w _ fun y B2 H2 e2 w2 hy => by
    obtain ⟨⟨o', g1, xs, g2, g3⟩, _⟩ := w2.at hc
    have g1 : H2 p = some o' := g1
    exact ⟨p, xs, i, l, rfl, hy, by rw [g1, g2], by rw [paired_len g3]; exact hi, q B2 _ e2 (w2.set hc ⟨_, rfl, paired_set (r.mono e2 hv) l g3⟩)⟩⟩
/-! ### k in xs, of ints -/
theorem flat_ints : ∀ xs : List Int, (xs.map V.int).all flatV = true
  | [] => rfl
  | x :: xs => by rw [List.map_cons, List.all_cons, flat_ints xs]; rfl
theorem inV_ints (k : Int) : ∀ xs : List Int, inV (.int k) (xs.map V.int) = decide (k ∈ xs)
  | [] => rfl
  | x :: xs => by
    have ih := inV_ints k xs
    unfold inV at ih ⊢
    rw [List.map_cons, List.any_cons, ih]
    have e : eqV (.int x) (.int k) = decide (x = k) := rfl
    rw [e]
    clear ih e
    by_cases h : x = k
    · subst h
      rw [decide_eq_true rfl, Bool.true_or, decide_eq_true (List.mem_cons_self)]
    · rw [decide_eq_false h, Bool.false_or]
      by_cases h2 : k ∈ xs
      · rw [decide_eq_true h2, decide_eq_true (List.mem_cons_of_mem _ h2)]
      · rw [decide_eq_false h2, decide_eq_false fun z => (List.mem_cons.mp z).elim (fun q => h q.symm) h2]
theorem sq_ints {B H : Hp} {v : V} {xs : List Int} (e : Ex B H) (h : (rSeq rInt).is K B v xs) : ∃ p, v = .ref p ∧ (SqL K H p (xs.map V.int) ∨ SqT K H p (xs.map V.int)) := by
  obtain ⟨p, vs, h1, h2, h3⟩ := h
  have ev := ints_of h3
  subst ev
  exact ⟨p, h1, h2.imp (ex_l e) (ex_t e)⟩
theorem ev_inI {xs : List Int} (h : EV K M ta σ B L rInt k L1) (h' : EV K M tb σ B L1 (rSeq rInt) xs L2) : EV K M (tOp (rIn K false) ta tb) σ B L rBool (decide (k ∈ xs)) L2 := fun B1 H e w Q q =>
  h B1 H e w _ fun v B2 H2 e2 w2 hv => h' B2 H2 (e.trans e2) w2 _ fun u B3 H3 e3 w3 hu => by
    have hv : v = .int k := hv
    subst hv
    obtain ⟨p, rfl, hs⟩ := sq_ints w3.b hu
    refine ⟨p, _, rfl, hs, rfl, flat_ints xs, ?_⟩
    rw [inV_ints]
    exact q _ B3 H3 (e2.trans e3) w3 rfl
theorem ev_niI {xs : List Int} (h : EV K M ta σ B L rInt k L1) (h' : EV K M tb σ B L1 (rSeq rInt) xs L2) : EV K M (tOp (rIn K true) ta tb) σ B L rBool (!decide (k ∈ xs)) L2 := fun B1 H e w Q q =>
  h B1 H e w _ fun v B2 H2 e2 w2 hv => h' B2 H2 (e.trans e2) w2 _ fun u B3 H3 e3 w3 hu => by
    have hv : v = .int k := hv
    subst hv
    obtain ⟨p, rfl, hs⟩ := sq_ints w3.b hu
    refine ⟨p, _, rfl, hs, rfl, flat_ints xs, ?_⟩
    rw [inV_ints]
    exact q _ B3 H3 (e2.trans e3) w3 rfl
theorem cell_ints {n : Nat} {p : Addr} {xs : List Int} (w : Own K B M L H) (hc : L[n]? = some ⟨p, cLst rInt, xs⟩) : SqL K H p (xs.map V.int) := by
  obtain ⟨⟨o, h1, vs, h2, h3⟩, _⟩ := w.at hc
  have h1 : H p = some o := h1
  have ev := ints_of h3
  subst ev
  exact sq_of (by rw [h1, h2])
theorem ev_inC {n : Nat} {p : Addr} {xs : List Int} (h : EV K M ta σ B L rInt k L1) (h' : EV K M tb σ B L1 rRef p L2) (hc : L2[n]? = some ⟨p, cLst rInt, xs⟩) : EV K M (tOp (rIn K false) ta tb) σ B L rBool (decide (k ∈ xs)) L2 := fun B1 H e w Q q =>
  h B1 H e w _ fun v B2 H2 e2 w2 hv => h' B2 H2 (e.trans e2) w2 _ fun u B3 H3 e3 w3 hu => by
    have hv : v = .int k := hv
    have hu : u = .ref p := hu
    subst hv hu
    refine ⟨p, _, rfl, .inl (cell_ints w3 hc), rfl, flat_ints xs, ?_⟩
    rw [inV_ints]
    exact q _ B3 H3 (e2.trans e3) w3 rfl
theorem ev_niC {n : Nat} {p : Addr} {xs : List Int} (h : EV K M ta σ B L rInt k L1) (h' : EV K M tb σ B L1 rRef p L2) (hc : L2[n]? = some ⟨p, cLst rInt, xs⟩) : EV K M (tOp (rIn K true) ta tb) σ B L rBool (!decide (k ∈ xs)) L2 := fun B1 H e w Q q =>
  h B1 H e w _ fun v B2 H2 e2 w2 hv => h' B2 H2 (e.trans e2) w2 _ fun u B3 H3 e3 w3 hu => by
    have hv : v = .int k := hv
    have hu : u = .ref p := hu
    subst hv hu
    refine ⟨p, _, rfl, .inl (cell_ints w3 hc), rfl, flat_ints xs, ?_⟩
    rw [inV_ints]
    exact q _ B3 H3 (e2.trans e3) w3 rfl
/-- a list of ours that stays from now on -/
theorem ev_frzC {te : TE} {n : Nat} {p : Addr} {xs : List α} (h : EV K M te σ B L rRef p L') (hc : L'[n]? = some ⟨p, cLst r, xs⟩) : EV K M te σ B L (rLst r) xs (L'.eraseIdx n) := fun B1 H e w Q q =>
  h B1 H e w _ fun v B2 H2 e2 w2 hv => by
    have hv : v = .ref p := hv
    subst hv
    obtain ⟨o, h1, ⟨vs, h2, hp⟩, hB, w3⟩ := w2.freeze hc
    have h1 : H2 p = some o := h1
    have eN := Ex.new (o := o) hB
    refine q _ _ H2 (e2.trans eN) w3 ⟨p, vs, rfl, upd_same.trans (congrArg some h2), paired_mono eN hp⟩
/-- a value that may be None, where it is none -/
theorem ev_get {te : TE} {o : Option α} {a : α} (h : EV K M te σ B L (rOpt r) o L') (e : o = some a) : EV K M te σ B L r a L' := by
  subst e
  exact h
end
/-! ### a global that is a pair of ints -/
def pairAt (K : Fg) (a : Addr) (i j : Int) : Bool := match K.lookup a with
  | some o => decide (o.cls = .type "tuple") && (match o.data with
    | .seq its _ => (match its.toList with
      | [.int x _, .int y _] => decide (x = i) && decide (y = j)
      | _ => false)
    | _ => false)
  | none => false
theorem pairAt_ok {K : Fg} {a : Addr} {i j : Int} (h : pairAt K a i j = true) (B : Hp) : (rT2 rInt rInt).is K B (.ref a) (i, j) := by
  unfold pairAt at h
  split at h
  · rename_i o ho
    rw [Bool.and_eq_true] at h
    obtain ⟨hc, h⟩ := h
    split at h
    · rename_i its n hd
      split at h
      · rename_i x tx y ty hi
        rw [Bool.and_eq_true] at h
        have e1 := of_decide_eq_true h.1
        have e2 := of_decide_eq_true h.2
        subst e1 e2
        refine ⟨a, .int x, .int y, rfl, .inr ⟨o, its, n, ho, of_decide_eq_true hc, hd, ?_, ?_⟩, rfl, rfl⟩
        · rw [← Array.length_toList, hi]; show 2 ≤ sizeLine; decide
        · rw [hi]; exact .cons ⟨_, rfl⟩ (.cons ⟨_, rfl⟩ .nil)
      · cases h
    · cases h
  · cases h
def pairG (K : Fg) (x : Str) (i j : Int) : Bool := match PySem.W.nsIn K mainGlobals x with
  | some (some (.ref a)) => pairAt K a i j
  | _ => false
theorem pairG_ok {K : Fg} {h : Heap} {mg : Str → Option Value} {x : Str} {i j : Int} (X : K.In h) (G : h.Ns mainGlobals mg) (e : pairG K x i j = true) : GV K mg x (rT2 rInt rInt) (i, j) := by
  unfold pairG at e
  split at e
  · rename_i a ha
    exact ⟨.ref a, .ref a, PySem.W.mg_of X G ha, rfl, pairAt_ok e⟩
  · cases e
end L3

namespace L3
open PySem L2
open Evl (Ex ex_rd ex_l ex_t sq_of st_of fresh_back)
/-! ### while -/
def iterM {S R : Type} (f : S → Option (Stp S R)) : Nat → S → Option (S ⊕ R)
  | 0, _ => none
  | n + 1, s => match f s with
    | some (.nx s') => iterM f n s'
    | some (.bk s') => some (.inl s')
    | some (.rt r) => some (.inr r)
    | none => none
open Classical in
noncomputable def whileR {S R : Type} (f : S → Option (Stp S R)) (s : S) : Option (S ⊕ R) :=
  if h : ∃ n o, iterM f n s = some o then some (choose (choose_spec h)) else none
theorem whileR_some {S R : Type} {f : S → Option (Stp S R)} {s : S} {o : S ⊕ R} (h : whileR f s = some o) : ∃ n, iterM f n s = some o := by
  unfold whileR at h
  split at h
  · rename_i h'
    rw [← h]
    exact ⟨_, Classical.choose_spec (Classical.choose_spec h')⟩
  · cases h
theorem iterM_up {S R : Type} {f : S → Option (Stp S R)} : ∀ {n m : Nat} {s : S} {o : S ⊕ R}, iterM f n s = some o → n ≤ m → iterM f m s = some o
  | 0, _, _, _, h, _ => by cases h
  | n + 1, 0, _, _, _, h => by omega
  | n + 1, m + 1, s, o, h, l => by
    unfold iterM at h ⊢
    cases hf : f s with
    | none => rw [hf] at h; cases h
    | some t =>
      rw [hf] at h
      cases t with
      | nx s' => exact iterM_up (n := n) h (by omega)
      | bk s' => exact h
      | rt r => exact h
theorem whileR_of {S R : Type} {f : S → Option (Stp S R)} {s : S} {o : S ⊕ R} {n : Nat} (h : iterM f n s = some o) : whileR f s = some o := by
  unfold whileR
  have e : ∃ n o, iterM f n s = some o := ⟨n, o, h⟩
  rw [dif_pos e]
  obtain ⟨m, hm⟩ : ∃ m, iterM f m s = some (Classical.choose (Classical.choose_spec e)) := ⟨_, Classical.choose_spec (Classical.choose_spec e)⟩
  have h1 := iterM_up h (Nat.le_max_left n m)
  have h2 := iterM_up hm (Nat.le_max_right n m)
  rw [h1] at h2
  exact h2.symm
noncomputable def whileB {S : Type} (f : S → Option (Stp S Empty)) (s : S) : Option S := (whileR f s).map fun o => match o with
  | .inl s => s
  | .inr r => nomatch r
section
variable {K : Fg} {M : Fr} {σ : St} {B B' H H' : Hp} {L L1 L2 L' : List Cell} {α β γ δ : Type} {r : Rep α} {s : Rep β} {t : Rep γ} {ta tb tc te : TE} {tt tu : TT} {tA : TA} {i j k : Int} {b c : Bool} {D : Ends} {tz t1 t2 : TS}
theorem q_wt {Q : Bool → Hp → Prop} (w : Own K B M L H) (h : ET K M tt σ B L b L') (h1 : b = true → ∀ B' H', Ex B B' → Own K B' M L' H' → Q true H') (h2 : b = false → ∀ B' H', Ex B B' → Own K B' M L' H' → Q false H') : tt σ H Q :=
  h B H (Ex.refl _) w _ fun B' H' e w' => by
    cases b with
    | true => exact h1 rfl B' H' e w'
    | false => exact h2 rfl B' H' e w'
theorem q_whileR {S R : Type} {tb : TS} (w : Own K B M L H) (f : S → Option (Stp S R)) (P : S → Hp → St → Prop) (Lf : S → List Cell) (s0 : S) {o : S ⊕ R} (hm : whileR f s0 = some o)
    (h0 : ∀ B', Ex B B' → P s0 B' σ) (hL : Lf s0 = L)
    (hs : ∀ s st B0 B' H' σ', f s = some st → Ex B B0 → P s B0 σ' → Ex B0 B' → Own K B' M (Lf s) H' → (∀ q, st = .rt q → o = .inr q) → ∀ (N : St → Hp → Prop) (BK : St → Hp → Prop),
      (∀ s3 B3 H3 σ3, st = .nx s3 → Ex B' B3 → Own K B3 M (Lf s3) H3 → P s3 B3 σ3 → N σ3 H3) → (∀ s3 B3 H3 σ3, st = .bk s3 → Ex B' B3 → Own K B3 M (Lf s3) H3 → P s3 B3 σ3 → BK σ3 H3) →
      ∀ Q : Bool → Hp → Prop, (∀ H1, tb { D with nx := N, ct := N, bk := BK } σ' H1 → Q true H1) → (∀ H1, BK σ' H1 → Q false H1) → tt σ' H' Q)
    (hd : ∀ s B' H' σ', o = .inl s → Ex B B' → Own K B' M (Lf s) H' → P s B' σ' → tz D σ' H') : tSeq (tWhile tt tb) tz D σ H := by
  obtain ⟨n, hn⟩ := whileR_some hm
  refine ⟨fun m σ' H' => ∃ s B', Ex B B' ∧ Own K B' M (Lf s) H' ∧ P s B' σ' ∧ iterM f m s = some o, ⟨n, s0, B, Ex.refl _, by rw [hL]; exact w, h0 B (Ex.refl _), hn⟩, ?_⟩
  rintro m σ' H' ⟨s, B', e', w', hP, hl⟩
  cases m with
  | zero => cases hl
  | succ m =>
    unfold iterM at hl
    cases hst : f s with
    | none => rw [hst] at hl; cases hl
    | some st =>
      rw [hst] at hl
      refine hs s st B' B' H' σ' hst e' hP (Ex.refl _) w' (fun q e => by rw [e] at hl; exact (Option.some.inj hl).symm) (fun σ3 H3 => ∃ s3 B3, st = .nx s3 ∧ Ex B B3 ∧ Own K B3 M (Lf s3) H3 ∧ P s3 B3 σ3) (tz D)
        (fun s3 B3 H3 σ3 e3 e4 w3 p3 => ⟨s3, B3, e3, e'.trans e4, w3, p3⟩) (fun s3 B3 H3 σ3 e3 e4 w3 p3 => by
          rw [e3] at hl
          exact hd s3 B3 H3 σ3 (Option.some.inj hl).symm (e'.trans e4) w3 p3) _ (fun H1 hb => ?_) (fun H1 hb => ?_)
      · refine (if_pos rfl).mpr ⟨_, ?_, hb⟩
        rintro σ3 H3 ⟨s3, B3, e3, a1, a2, a3⟩
        subst e3
        exact ⟨m, Nat.lt_succ_self m, s3, B3, a1, a2, a3, hl⟩
      · exact (if_neg Bool.false_ne_true).mpr hb
theorem q_whileB {S : Type} {tb : TS} (w : Own K B M L H) (f : S → Option (Stp S Empty)) (P : S → Hp → St → Prop) (Lf : S → List Cell) (s0 : S) {s1 : S} (hm : whileB f s0 = some s1)
    (h0 : ∀ B', Ex B B' → P s0 B' σ) (hL : Lf s0 = L)
    (hs : ∀ s st B0 B' H' σ', f s = some st → Ex B B0 → P s B0 σ' → Ex B0 B' → Own K B' M (Lf s) H' → ∀ (N : St → Hp → Prop) (BK : St → Hp → Prop),
      (∀ s3 B3 H3 σ3, st = .nx s3 → Ex B' B3 → Own K B3 M (Lf s3) H3 → P s3 B3 σ3 → N σ3 H3) → (∀ s3 B3 H3 σ3, st = .bk s3 → Ex B' B3 → Own K B3 M (Lf s3) H3 → P s3 B3 σ3 → BK σ3 H3) →
      ∀ Q : Bool → Hp → Prop, (∀ H1, tb { D with nx := N, ct := N, bk := BK } σ' H1 → Q true H1) → (∀ H1, BK σ' H1 → Q false H1) → tt σ' H' Q)
    (hd : ∀ B' H' σ', Ex B B' → Own K B' M (Lf s1) H' → P s1 B' σ' → tz D σ' H') : tSeq (tWhile tt tb) tz D σ H := by
  unfold whileB at hm
  cases h : whileR f s0 with
  | none => rw [h] at hm; cases hm
  | some o =>
    rw [h] at hm
    refine q_whileR w f P Lf s0 h h0 hL (fun s st B0 B' H' σ' a1 a2 a3 a4 a5 _ => hs s st B0 B' H' σ' a1 a2 a3 a4 a5) fun s B' H' σ' a1 => ?_
    subst a1
    have e : s = s1 := Option.some.inj hm
    subst e
    exact hd B' H' σ'
/-! ### calls that read lists of ours -/
def nTup : HO → Prop
  | .lst _ => True
  | .dK _ => True
  | _ => False
structure NT {α : Type} (c : CRep α) : Prop where
  nt : ∀ {K : Fg} {B : Hp} {o : HO} {a : α}, c.is K B o a → nTup o
theorem nt_lst {r : Rep α} : NT (cLst r) := ⟨fun ⟨xs, h, _⟩ => by subst h; trivial⟩
theorem nt_l2 {r : Rep α} {s : Rep β} : NT (cL2 r s) := ⟨fun ⟨x, y, h, _⟩ => by subst h; trivial⟩
theorem nt_dk : NT cDk := ⟨fun h => by
  have h : _ = HO.dK _ := h
  subst h; trivial⟩
def NTs (L : List Cell) : Prop := ∀ x ∈ L, NT x.c
theorem nts_nil : NTs [] := fun _ h => absurd h (by simp)
theorem nts_cons {x : Cell} (h : NT x.c) (h' : NTs L) : NTs (x :: L) := fun y hy => (List.mem_cons.mp hy).elim (fun e => e ▸ h) (h' y)
/-- without some addresses -/
def era (B : Hp) (ps : List Addr) : Hp := fun a => if a ∈ ps then none else B a
/-- with lists of ours -/
def frz (B : Hp) (L : List Cell) (H : Hp) : Hp := fun a => if a ∈ L.map (·.p) then H a else B a
structure TO {α : Type} (r : Rep α) : Prop where
  to : ∀ {K : Fg} {B : Hp} {ps : List Addr} {v : V} {a : α}, (∀ p ∈ ps, ∃ o, B p = some o ∧ nTup o) → r.is K B v a → r.is K (era B ps) v a
theorem era_t {ps : List Addr} {p : Addr} {xs : List V} (h : ∀ p ∈ ps, ∃ o, B p = some o ∧ nTup o) (hs : SqT K B p xs) : SqT K (era B ps) p xs := by
  have out : ∀ o, B p = some o → ¬ nTup o → era B ps p = some o := fun o e n => by
    unfold era
    rw [if_neg fun hp => ?_]
    · exact e
    · obtain ⟨u, e1, e2⟩ := h p hp
      rw [e] at e1
      cases e1
      exact n e2
  rcases hs with (e | ⟨o, e⟩) | e
  · exact .inl (.inl (out _ e id))
  · exact .inl (.inr ⟨o, out _ e id⟩)
  · exact .inr e
theorem to_int : TO rInt := ⟨fun _ h => h⟩
theorem to_bool : TO rBool := ⟨fun _ h => h⟩
theorem to_str : TO rStr := ⟨fun _ h => h⟩
theorem to_non : TO rNon := ⟨fun _ h => h⟩
theorem to_opt {r : Rep α} (h : TO r) : TO (rOpt r) := ⟨fun {K B ps v a} q e => by
  cases a with
  | none => exact e
  | some a => exact h.to q e⟩
theorem to_T2 {r : Rep α} {s : Rep β} (h : TO r) (g : TO s) : TO (rT2 r s) := ⟨fun q ⟨p, x, y, e1, e2, e3, e4⟩ => ⟨p, x, y, e1, era_t q e2, h.to q e3, g.to q e4⟩⟩
theorem to_T3 {r : Rep α} {s : Rep β} {t : Rep γ} (h : TO r) (g : TO s) (f : TO t) : TO (rT3 r s t) := ⟨fun q ⟨p, x, y, z, e1, e2, e3, e4, e5⟩ => ⟨p, x, y, z, e1, era_t q e2, h.to q e3, g.to q e4, f.to q e5⟩⟩
theorem paired_to {F G : V → α → Prop} (h : ∀ v a, F v a → G v a) {xs : List V} {as : List α} (e : Paired F xs as) : Paired G xs as := paired_imp h e
theorem to_tup {r : Rep α} (h : TO r) : TO (rTup r) := ⟨fun q ⟨p, xs, e1, e2, e3⟩ => ⟨p, xs, e1, era_t q e2, paired_to (fun _ _ => h.to q) e3⟩⟩
def AF (K : Fg) (M : Fr) (L : List Cell) (as as' : List Arg) : Prop := ∀ B H vs, Own K B M L H → ArgsIs K B vs as → ArgsIs K (frz B L H) vs as'
theorem ex_frz (w : Own K B M L H) : Ex B (frz B L H) := fun a u e => by
  unfold frz
  split
  · exact w.b a u e
  · exact e
theorem af_nil : AF K M L [] [] := fun B H vs w h => by
  match vs, h with
  | [], _ => trivial
theorem af_same {a : Arg} {as as' : List Arg} (h : AF K M L as as') : AF K M L (a :: as) (a :: as') := fun B H vs w g => by
  match vs, g with
  | _ :: _, ⟨g1, g2⟩ => exact ⟨a.r.mono (ex_frz w) g1, h B H _ w g2⟩
theorem af_cell {n : Nat} {p : Addr} {r : Rep α} {xs : List α} {as as' : List Arg} (hc : L[n]? = some ⟨p, cLst r, xs⟩) (h : AF K M L as as') : AF K M L (⟨rRef, p⟩ :: as) (⟨rLst r, xs⟩ :: as') := fun B H vs w g => by
  match vs, g with
  | v :: _, ⟨g1, g2⟩ =>
    obtain ⟨⟨o, h1, ys, h2, h3⟩, _⟩ := w.at hc
    have h1 : H p = some o := h1
    have g1 : v = .ref p := g1
    refine ⟨⟨p, ys, g1, ?_, paired_mono (ex_frz w) h3⟩, h B H _ w g2⟩
    unfold frz
    rw [if_pos (List.mem_map.mpr ⟨_, List.mem_of_getElem? hc, rfl⟩), h1, h2]
theorem Own.frzAll (w : Own K B M L H) : Own K (frz B L H) M [] H := by
  refine ⟨fun a u e => ?_, w.m, fun a => ?_, fun _ h => absurd h (by simp), by simp, fun P hP => ?_⟩
  · unfold frz at e
    split at e
    · exact e
    · exact w.b a u e
  · unfold frz
    split
    · rename_i h
      obtain ⟨x, hx, rfl⟩ := List.mem_map.mp h
      exact .inr (w.l x hx).2.2
    · exact w.bm a
  · obtain ⟨t1, t2, t3, t4⟩ := w.t P hP
    exact ⟨t1, by unfold frz; rw [if_neg t4]; exact t2, t3, by simp⟩
theorem Own.unfrz {B3 H3 : Hp} (w : Own K B M L H) (e : Ex (frz B L H) B3) (w3 : Own K B3 M [] H3) : Ex B (era B3 (L.map (·.p))) ∧ Own K (era B3 (L.map (·.p))) M L H3 := by
  have hex : Ex B (era B3 (L.map (·.p))) := fun a u h => by
    have hn : a ∉ L.map (·.p) := fun hm => by
      obtain ⟨x, hx, rfl⟩ := List.mem_map.mp hm
      rw [(w.l x hx).2.1] at h
      cases h
    unfold era
    rw [if_neg hn]
    exact e a u (ex_frz w a u h)
  refine ⟨hex, fun a u h => ?_, w3.m, fun a => ?_, fun x hx => ?_, w.nd, fun P hP => ?_⟩
  · unfold era at h
    split at h
    · cases h
    · exact w3.b a u h
  · unfold era
    split
    · exact .inl rfl
    · exact w3.bm a
  · obtain ⟨⟨o, h1, h2⟩, h3, h4⟩ := w.l x hx
    have hm : x.p ∈ L.map (·.p) := List.mem_map.mpr ⟨x, hx, rfl⟩
    refine ⟨⟨o, w3.b _ _ (e _ _ ?_), x.c.mono hex h2⟩, by unfold era; rw [if_pos hm], h4⟩
    unfold frz
    rw [if_pos hm, h1]
  · obtain ⟨t1, t2, t3, _⟩ := w3.t P hP
    obtain ⟨_, _, _, t4⟩ := w.t P hP
    exact ⟨t1, by unfold era; rw [if_neg t4]; exact t2, t3, t4⟩
theorem ev_callF {C : List Arg → List Cell → Arg → List Cell → Prop} {E : XK} {as as' : List Arg} {a : α} (ha : EA K M tA σ B L as L1) (hf : AF K M L1 as as') (hn : NTs L1) (hr : TO r) (h : C as' [] ⟨r, a⟩ []) : EV K M (tCall (spV K M.T C) [] E tA) σ B L r a L1 := fun B1 H e w Q q =>
  ha B1 H e w _ fun vs B2 H2 e2 w2 hv => by
    show spV K M.T C (vs ++ []) H2 Q E
    rw [List.append_nil]
    refine ⟨frz B2 L1 H2, M, [], as', ⟨r, a⟩, [], rfl, w2.frzAll, hf B2 H2 vs w2 hv, h, fun v B' H' e3 w3 hr3 => ?_⟩
    obtain ⟨e4, w4⟩ := w2.unfrz e3 w3
    refine q v _ H' (e2.trans e4) w4 (hr.to (fun p hp => ?_) hr3)
    obtain ⟨x, hx, rfl⟩ := List.mem_map.mp hp
    obtain ⟨⟨o, h1, h2⟩, _⟩ := w2.l x hx
    refine ⟨o, e3 _ _ ?_, (hn x hx).nt h2⟩
    unfold frz
    rw [if_pos hp, h1]
/-- a list of ours stays from now on -/
theorem frz_step {n : Nat} {p : Addr} {xs : List α} (w : Own K B M L H) (hc : L[n]? = some ⟨p, cLst r, xs⟩) : ∃ B', Ex B B' ∧ Own K B' M (L.eraseIdx n) H ∧ (rLst r).is K B' (.ref p) xs := by
  obtain ⟨o, h1, ⟨vs, h2, h3⟩, h4, w'⟩ := w.freeze hc
  have h4 : B p = none := h4
  refine ⟨_, Ex.new h4, w', p, vs, rfl, ?_, paired_mono (Ex.new h4) h3⟩
  show upd B p o p = _
  rw [upd_same, h2]
end
/-! ### defs that return a new list -/
def spN (K : Fg) (T : List Addr) {α : Type} (r : Rep α) (C : List Arg → List Cell → List α → List Cell → Prop) : Sp := fun vs H Q _ => ∃ B M L as xs L', M.T = T ∧ Own K B M L H ∧ ArgsIs K B vs as ∧ C as L xs L' ∧
  ∀ p B' H', Ex B B' → Own K B' M (⟨p, cLst r, xs⟩ :: L') H' → Q (.ref p) H'
section
variable {K : Fg} {M : Fr} {σ : St} {B B' H H' : Hp} {L L1 L2 L' : List Cell} {α β γ δ : Type} {r : Rep α} {s : Rep β} {t : Rep γ} {ta tb tc te : TE} {tt tu : TT} {tA : TA} {i j k : Int} {b c : Bool} {D : Ends} {tz t1 t2 : TS}
theorem Own.pick {n d : Nat} {x : Cell} (w : Own K B M L H) (hc : L[n]? = some x) (h : n < d) : Own K B M (x :: L.drop d) H := by
  have hx : x ∈ L.take d := by
    refine List.mem_of_getElem? (i := n) ?_
    rw [List.getElem?_take, if_pos h]; exact hc
  have sub : (x :: L.drop d).Sublist L := by
    have := (List.singleton_sublist.mpr hx).append (List.Sublist.refl (L.drop d))
    rwa [List.take_append_drop] at this
  exact w.perm (fun y hy => sub.subset hy) (w.nd.sublist (sub.map _))
theorem back_new {L2 : List Cell} {B1 B3 H1 H3 : Hp} {x : Cell} (w : Own K B1 M L2 H1) (e : Ex B1 B3) (w3 : Own K B3 (absorb M L2 H1) [x] H3) : Own K B3 M (x :: L2) H3 := by
  have hx := w3.l x (List.mem_singleton.mpr rfl)
  refine w.back (L := L2) (L1' := [x]) (L2 := L2) (fun _ h => h) w.nd e w3 fun y hy => ?_
  rw [List.mem_singleton.mp hy]
  intro hm
  obtain ⟨z, hz, ez⟩ := List.mem_map.mp hm
  have h1 := hx.2.2
  obtain ⟨⟨o, g1, _⟩, _⟩ := w.l z hz
  have e2 : absorb M L2 H1 z.p = H1 z.p := absorb_in hz
  rw [ez] at e2
  rw [e2] at h1
  rw [← ez, g1] at h1
  cases h1
theorem el_call {C : List Arg → List Cell → List α → List Cell → Prop} {E : XK} {as : List Arg} {xs : List α} (ha : EA K M tA σ B L as L1) (h : C as [] xs []) : EVL K M (tCall (spN K M.T r C) [] E tA) σ B L r xs L1 := fun B1 H e w Q q =>
  ha B1 H e w _ fun vs B2 H2 e2 w2 hv => by
    show spN K M.T r C (vs ++ []) H2 Q E
    rw [List.append_nil]
    refine ⟨B2, absorb M L1 H2, [], as, xs, [], rfl, w2.lend (L1 := []) (L2 := L1) (fun _ h => absurd h (by simp)) (fun _ h => h) (by simp) (fun _ h => absurd h (by simp)), hv, h, fun p B' H' e3 w3 => ?_⟩
    exact q p B' H' (e2.trans e3) (back_new w2 e3 w3)
theorem el_callF {C : List Arg → List Cell → List α → List Cell → Prop} {E : XK} {as as' : List Arg} {xs : List α} (ha : EA K M tA σ B L as L1) (hf : AF K M L1 as as') (hn : NTs L1) (hr : TO r) (h : C as' [] xs []) : EVL K M (tCall (spN K M.T r C) [] E tA) σ B L r xs L1 := fun B1 H e w Q q =>
  ha B1 H e w _ fun vs B2 H2 e2 w2 hv => by
    show spN K M.T r C (vs ++ []) H2 Q E
    rw [List.append_nil]
    refine ⟨frz B2 L1 H2, M, [], as', xs, [], rfl, w2.frzAll, hf B2 H2 vs w2 hv, h, fun p B' H' e3 w3 => ?_⟩
    have hx := w3.l _ (List.mem_singleton.mpr rfl)
    obtain ⟨e4, w4⟩ := w2.unfrz e3 w3.tail
    have nt : ∀ q ∈ L1.map (·.p), ∃ o, B' q = some o ∧ nTup o := fun q hq => by
      obtain ⟨x, hx, rfl⟩ := List.mem_map.mp hq
      obtain ⟨⟨o, h1, h2⟩, _⟩ := w2.l x hx
      refine ⟨o, e3 _ _ ?_, (hn x hx).nt h2⟩
      unfold frz
      rw [if_pos hq, h1]
    obtain ⟨⟨o, g1, ys, g2, g3⟩, gB, gM⟩ := hx
    have pn : p ∉ L1.map (·.p) := fun hp => by
      obtain ⟨o, e5, _⟩ := nt p hp
      have gB : B' p = none := gB
      rw [e5] at gB
      cases gB
    refine q p _ H' (e2.trans e4) ⟨w4.b, w4.m, w4.bm, fun x hx => ?_, ?_, fun P hP => ?_⟩
    · rcases List.mem_cons.mp hx with rfl | hx
      · refine ⟨⟨o, g1, ys, g2, paired_imp (fun v a => hr.to nt) g3⟩, ?_, gM⟩
        show era B' _ p = none
        unfold era
        rw [if_neg pn]
        exact gB
      · exact w4.l x hx
    · rw [List.map_cons, List.nodup_cons]
      exact ⟨pn, w4.nd⟩
    · obtain ⟨t1, t2, t3, t4⟩ := w4.t P hP
      obtain ⟨_, _, _, t5⟩ := w3.t P hP
      refine ⟨t1, t2, t3, fun z => ?_⟩
      rcases List.mem_cons.mp z with e | z
      · exact t5 (by rw [e]; simp)
      · exact t4 z
theorem q_retCN {n m : Nat} {p : Addr} {as : List α} (w : Own K B M L H) (hs : σ[m]? = some (some (.ref p))) (hc : L[n]? = some ⟨p, cLst r, as⟩) (q : D.rt (.ref p) H) : tSeq (tRet (tVar m)) tz D σ H := ⟨_, hs, q⟩
theorem q_retL {as : List α} (w : Own K B M L H) (h : EVL K M te σ B L r as L') (q : ∀ p B' H', Ex B B' → Own K B' M (⟨p, cLst r, as⟩ :: L') H' → D.rt (.ref p) H') : tSeq (tRet te) tz D σ H := h B H (Ex.refl _) w _ q
end
/-! ### lists: + -/
section
variable {K : Fg} {M : Fr} {σ : St} {B B' H H' : Hp} {L L1 L2 L' : List Cell} {α β γ δ : Type} {r : Rep α} {s : Rep β} {t : Rep γ} {ta tb tc te : TE} {tt tu : TT} {tA : TA} {i j k : Int} {b c : Bool} {D : Ends} {tz t1 t2 : TS}
theorem el_cat {xs ys zs : List α} (h : EV K M ta σ B L (rLst r) xs L1) (h' : EV K M tb σ B L1 (rLst r) ys L2) (hc : catT xs ys = some zs) : EVL K M (tOp rCat ta tb) σ B L r zs L2 := fun B1 H e w Q q =>
  h B1 H e w _ fun v B2 H2 e2 w2 hv => h' B2 H2 (e.trans e2) w2 _ fun u B3 H3 e3 w3 hu => by
    obtain ⟨p, vs, rfl, hs, hp⟩ := hv
    obtain ⟨p', us, rfl, hs', hp'⟩ := hu
    unfold catT at hc
    split at hc
    · rename_i hl
      obtain rfl := Option.some.inj hc
      have hp3 := paired_mono e3 hp
      have l1 := paired_len hp
      have l2 := paired_len hp'
      exact ⟨p, p', vs, us, rfl, rfl, w3.b _ _ (e3 _ _ hs), w3.b _ _ hs', Nat.le_trans (by omega) (show 1000000 ≤ sizeLine by decide), fun l hl => q l B3 _ (e2.trans e3) (w3.new hl ⟨_, rfl, paired_app hp3 hp'⟩)⟩
    · cases hc
end
/-! ### while: it ends -/
section
variable {S R : Type}
theorem y_while (f : S → Option (Stp S R)) (I : S → Prop) (μ : S → Nat) (E : S ⊕ R → Prop) {s : S} (h0 : I s)
    (hs : ∀ s, I s → Yes (f s) fun t => match t with | .nx s' => I s' ∧ μ s' < μ s | .bk s' => E (.inl s') | .rt r => E (.inr r)) : Yes (whileR f s) E := by
  have key : ∀ (n : Nat) (s : S), μ s < n → I s → ∃ o, iterM f n s = some o ∧ E o := by
    intro n
    induction n with
    | zero => intro s h; omega
    | succ n ih =>
      intro s h hI
      obtain ⟨t, h1, h2⟩ := hs s hI
      unfold iterM
      rw [h1]
      cases t with
      | nx s' => exact ih s' (by have := h2.2; omega) h2.1
      | bk s' => exact ⟨_, rfl, h2⟩
      | rt r => exact ⟨_, rfl, h2⟩
  obtain ⟨o, h1, h2⟩ := key _ s (Nat.lt_succ_self _) h0
  exact ⟨o, whileR_of h1, h2⟩
theorem y_whileB (f : S → Option (Stp S Empty)) (I : S → Prop) (μ : S → Nat) (E : S → Prop) {s : S} (h0 : I s)
    (hs : ∀ s, I s → Yes (f s) fun t => match t with | .nx s' => I s' ∧ μ s' < μ s | .bk s' => E s' | .rt r => False) : Yes (whileB f s) E := by
  obtain ⟨o, h1, h2⟩ := y_while f I μ (fun o => match o with | .inl s => E s | .inr r => False) h0 fun s hI => (hs s hI).mono fun t ht => by cases t <;> exact ht
  unfold whileB
  rw [h1]
  cases o with
  | inl s => exact ⟨s, rfl, h2⟩
  | inr r => exact h2.elim
end
end L3

namespace L3
open PySem L2
open Evl (Ex ex_rd ex_l ex_t sq_of st_of fresh_back)
/-! ### sorted ints -/
def sortL (xs : List Int) : List Int := xs.mergeSort fun a b => decide (a ≤ b)
theorem sortL_perm (xs : List Int) : (sortL xs).Perm xs := List.mergeSort_perm xs _
theorem sortL_le (xs : List Int) : (sortL xs).Pairwise (· ≤ ·) := by
  refine (List.pairwise_mergeSort (le := fun a b : Int => decide (a ≤ b)) (fun a b c h1 h2 => ?_) (fun a b => ?_) xs).imp fun {a b} h => of_decide_eq_true h
  · simp at *; omega
  · simp; omega
theorem sortL_eq {ys xs : List Int} (hp : ys.Perm xs) (hs : ys.Pairwise (· ≤ ·)) : ys = sortL xs :=
  List.Perm.eq_of_pairwise (le := fun a b : Int => a ≤ b) (fun a b _ _ h1 h2 => Int.le_antisymm h1 h2) hs (sortL_le xs) (hp.trans (sortL_perm xs).symm)
theorem paired_intsY {K : Fg} {B : Hp} : ∀ ns : List Int, Paired (rInt.is K B) (ns.map V.int) ns
  | [] => .nil
  | _ :: l => .cons rfl (paired_intsY l)
section
variable {K : Fg} {M : Fr} {σ : St} {B B' H H' : Hp} {L L1 L2 L' : List Cell} {α β γ δ : Type} {r : Rep α} {s : Rep β} {t : Rep γ} {ta tb tc te : TE} {tt tu : TT} {tA : TA} {i j k : Int} {b c : Bool} {D : Ends} {tz t1 t2 : TS}
theorem el_sorted {xs : List Int} (h : EV K M te σ B L (rScr rInt) xs L') : EVL K M (tCB (rSortedI K) (tCons te tNil)) σ B L rInt (sortL xs) L' := fun B1 H e w Q q =>
  h B1 H e w _ fun v B2 H2 e2 w2 hv => by
    obtain ⟨p, vs, rfl, hs, hp⟩ := hv
    have ev := ints_of hp
    subst ev
    refine ⟨p, xs, rfl, ex_l w2.b hs, fun ns l hp2 hs2 hl => ?_⟩
    rw [sortL_eq hp2 hs2]
    exact q l B2 _ e2 (w2.new hl ⟨_, rfl, paired_intsY _⟩)
/-! ### a, b, .. = a list -/
def un2 : List α → Option (α × α)
  | [a, b] => some (a, b)
  | _ => none
def un3 : List α → Option (α × α × α)
  | [a, b, c] => some (a, b, c)
  | _ => none
def un4 : List α → Option (α × α × α × α)
  | [a, b, c, d] => some (a, b, c, d)
  | _ => none
variable {Qs : St → Hp → Prop}
theorem g_U2 {as : List α} {a : α × α} {v : V} {gs : TGs} (h : (rLst r).is K B v as) (w : Own K B M L H) (e : un2 as = some a) (q : ∀ x y, r.is K B x a.1 → r.is K B y a.2 → gs [x, y] σ H Qs) : gUnl K 2 gs v σ H Qs := by
  obtain ⟨p, vs, rfl, hs, hp⟩ := h
  match as, e, vs, hp, hs with
  | [a, b], e, [x, y], .cons h1 (.cons h2 .nil), hs =>
    cases e
    exact ⟨p, _, rfl, sq_of (w.b _ _ hs), rfl, q x y h1 h2⟩
theorem g_U3 {as : List α} {a : α × α × α} {v : V} {gs : TGs} (h : (rLst r).is K B v as) (w : Own K B M L H) (e : un3 as = some a) (q : ∀ x y z, r.is K B x a.1 → r.is K B y a.2.1 → r.is K B z a.2.2 → gs [x, y, z] σ H Qs) : gUnl K 3 gs v σ H Qs := by
  obtain ⟨p, vs, rfl, hs, hp⟩ := h
  match as, e, vs, hp, hs with
  | [a, b, c], e, [x, y, z], .cons h1 (.cons h2 (.cons h3 .nil)), hs =>
    cases e
    exact ⟨p, _, rfl, sq_of (w.b _ _ hs), rfl, q x y z h1 h2 h3⟩
theorem g_U4 {as : List α} {a : α × α × α × α} {v : V} {gs : TGs} (h : (rLst r).is K B v as) (w : Own K B M L H) (e : un4 as = some a) (q : ∀ x y z u, r.is K B x a.1 → r.is K B y a.2.1 → r.is K B z a.2.2.1 → r.is K B u a.2.2.2 → gs [x, y, z, u] σ H Qs) : gUnl K 4 gs v σ H Qs := by
  obtain ⟨p, vs, rfl, hs, hp⟩ := h
  match as, e, vs, hp, hs with
  | [a, b, c, d], e, [x, y, z, u], .cons h1 (.cons h2 (.cons h3 (.cons h4 .nil))), hs =>
    cases e
    exact ⟨p, _, rfl, sq_of (w.b _ _ hs), rfl, q x y z u h1 h2 h3 h4⟩
end
end L3

namespace L3G
open PySem L2
variable {X : Cx}
/-! ### is True, is False -/
def rIsB : R2 := fun x y H Q => ∃ a b, x = .bl a ∧ y = .bl b ∧ Q (.bl (decide (a = b))) H
def rNotB : R2 := fun x y H Q => ∃ a b, x = .bl a ∧ y = .bl b ∧ Q (.bl (!decide (a = b))) H
theorem op_isB : OpR X (compareOp .Is) rIsB := by
  intro pins s σ H x y v u Q I rx ry h
  obtain ⟨a, b, rfl, rfl, q⟩ := h
  cases (show v = Value.bool a from rx)
  cases (show u = Value.bool b from ry)
  exact wpAny_is_plain rfl (fin_bl I q (by cases a <;> cases b <;> rfl))
theorem op_isnB : OpR X (compareOp .IsNot) rNotB := by
  intro pins s σ H x y v u Q I rx ry h
  obtain ⟨a, b, rfl, rfl, q⟩ := h
  cases (show v = Value.bool a from rx)
  cases (show u = Value.bool b from ry)
  exact wpAny_isNot_plain rfl (fin_bl I q (by cases a <;> cases b <;> rfl))
end L3G
namespace L3
open PySem L2
open Evl (Ex ex_rd ex_l ex_t sq_of st_of fresh_back)
/-! ### any new thing that may change -/
def ENC (K : Fg) (M : Fr) {α : Type} (te : TE) (σ : St) (B : Hp) (L : List Cell) (c : CRep α) (a : α) (L' : List Cell) : Prop :=
  ∀ B1 H, Ex B B1 → Own K B1 M L H → ∀ Q : VK, (∀ p B2 H2, Ex B1 B2 → Own K B2 M (⟨p, c, a⟩ :: L') H2 → Q (.ref p) H2) → te σ H Q
def spC (K : Fg) (T : List Addr) {α : Type} (c : CRep α) (C : List Arg → List Cell → α → List Cell → Prop) : Sp := fun vs H Q _ => ∃ B M L as x L', M.T = T ∧ Own K B M L H ∧ ArgsIs K B vs as ∧ C as L x L' ∧
  ∀ p B' H', Ex B B' → Own K B' M (⟨p, c, x⟩ :: L') H' → Q (.ref p) H'
/-- a dict of a list and an int -/
def cBox : CRep (List Int × Int) := ⟨fun K B o a => ∃ q, o = .dK [(Sum.inr "row", .ref q), (Sum.inr "at", .int a.2)] ∧ (rLst rInt).is K B (.ref q) a.1, fun e ⟨q, h1, h2⟩ => ⟨q, h1, (rLst rInt).mono e h2⟩⟩
section
variable {K : Fg} {M : Fr} {σ : St} {B B' H H' : Hp} {L L1 L2 L' : List Cell} {α β γ δ : Type} {r : Rep α} {s : Rep β} {t : Rep γ} {ta tb tc te : TE} {tt tu : TT} {tA : TA} {i j k : Int} {b c : Bool} {D : Ends} {tz t1 t2 : TS}
theorem nt_box : NT cBox := ⟨fun ⟨q, h, _⟩ => by subst h; trivial⟩
theorem ec_call {cr : CRep α} {C : List Arg → List Cell → α → List Cell → Prop} {E : XK} {as : List Arg} {x : α} (ha : EA K M tA σ B L as L1) (h : C as [] x []) : ENC K M (tCall (spC K M.T cr C) [] E tA) σ B L cr x L1 := fun B1 H e w Q q =>
  ha B1 H e w _ fun vs B2 H2 e2 w2 hv => by
    show spC K M.T cr C (vs ++ []) H2 Q E
    rw [List.append_nil]
    refine ⟨B2, absorb M L1 H2, [], as, x, [], rfl, w2.lend (L1 := []) (L2 := L1) (fun _ h => absurd h (by simp)) (fun _ h => h) (by simp) (fun _ h => absurd h (by simp)), hv, h, fun p B' H' e3 w3 => ?_⟩
    exact q p B' H' (e2.trans e3) (back_new w2 e3 w3)
theorem q_asgC {n : Nat} {cr : CRep α} {a : α} (w : Own K B M L H) (h : ENC K M te σ B L cr a L') (q : ∀ p B' H', Ex B B' → Own K B' M (⟨p, cr, a⟩ :: L') H' → tz D (σ.set n (some (.ref p))) H') : tSeq (tAsg te (gName n)) tz D σ H := h B H (Ex.refl _) w _ q
theorem q_retNC {cr : CRep α} {a : α} (w : Own K B M L H) (h : ENC K M te σ B L cr a L') (q : ∀ p B' H', Ex B B' → Own K B' M (⟨p, cr, a⟩ :: L') H' → D.rt (.ref p) H') : tSeq (tRet te) tz D σ H := h B H (Ex.refl _) w _ q
theorem ec_box {tx ty : TE} {xs : List Int} (hx : ∀ p, EV K M tx σ B (⟨p, cDk, []⟩ :: L) (rLst rInt) xs (⟨p, cDk, []⟩ :: L1)) (hy : ∀ p, EV K M ty σ B (⟨p, cDk, []⟩ :: L1) rInt i (⟨p, cDk, []⟩ :: L')) : ENC K M (tDisp [(tC (.str "row"), tx), (tC (.str "at"), ty)]) σ B L cBox (xs, i) L' := fun B1 H e w Q q p hp => by
  have w1 : Own K B1 M (⟨p, cDk, []⟩ :: L) (upd H p (.dK [])) := w.new hp rfl
  refine hx p B1 _ e w1 _ fun u B2 H2 e2 w2 hu => hy p B2 H2 (e.trans e2) w2 _ fun v B3 H3 e3 w3 hv => ?_
  have hv : v = .int i := hv
  obtain ⟨l, vs, rfl, hl⟩ := (rLst rInt).mono e3 hu
  obtain ⟨⟨o, h1, h2⟩, _⟩ := w3.at (i := 0) rfl
  have h1 : H3 p = some o := h1
  have h2 : o = .dK [] := h2
  refine ⟨by rw [h1, h2], [(Sum.inr "row", .ref l), (Sum.inr "at", v)], rfl, by show 2 ≤ 15; decide, ?_⟩
  refine q p B3 _ (e2.trans e3) ?_
  have := w3.set (i := 0) (o := .dK (mergeK [] [(Sum.inr "row", V.ref l), (Sum.inr "at", v)])) rfl (c' := cBox) (a' := (xs, i)) ⟨l, by rw [hv]; rfl, l, vs, rfl, hl⟩
  exact this
theorem ev_boxAt {n m : Nat} {p : Addr} {x : List Int × Int} (hs : σ[m]? = some (some (.ref p))) (hc : L[n]? = some ⟨p, cBox, x⟩) : EV K M (tDGet (tVar m) (tC (.str "at"))) σ B L rInt x.2 L := fun B1 H e w Q q => by
  obtain ⟨⟨o, h1, l, h2, h3⟩, _⟩ := w.at hc
  have h1 : H p = some o := h1
  subst h2
  exact ⟨_, hs, p, .int x.2, rfl, DGet.k (k := Sum.inr "at") h1, q _ B1 H (Ex.refl _) w rfl⟩
theorem ev_boxRow {n m : Nat} {p : Addr} {x : List Int × Int} (hs : σ[m]? = some (some (.ref p))) (hc : L[n]? = some ⟨p, cBox, x⟩) : EV K M (tDGet (tVar m) (tC (.str "row"))) σ B L (rLst rInt) x.1 L := fun B1 H e w Q q => by
  obtain ⟨⟨o, h1, l, h2, h3⟩, _⟩ := w.at hc
  have h1 : H p = some o := h1
  subst h2
  exact ⟨_, hs, p, .ref l, rfl, DGet.k (k := Sum.inr "row") h1, q _ B1 H (Ex.refl _) w h3⟩
theorem q_boxAt {n m : Nat} {p : Addr} {x : List Int × Int} (w : Own K B M L H) (h : EV K M te σ B L rInt i L1) (hs : σ[m]? = some (some (.ref p))) (hc : L1[n]? = some ⟨p, cBox, x⟩)
    (q : ∀ B' H', Ex B B' → Own K B' M (L1.set n ⟨p, cBox, (x.1, i)⟩) H' → tz D σ H') : tSeq (tAsg te (gSub (tVar m) (tC (.str "at")) rSetD)) tz D σ H :=
  h B H (Ex.refl _) w _ fun v B1 H1 e1 w1 hv => ⟨_, hs, by
    obtain ⟨⟨o, h1, l, h2, h3⟩, _⟩ := w1.at hc
    have h1 : H1 p = some o := h1
    have hv : v = .int i := hv
    subst h2 hv
    refine ⟨p, _, rfl, DPut.k (k := Sum.inr "at") h1 (by show 2 < sizeLine; decide), q B1 _ e1 ?_⟩
    exact w1.set (c' := cBox) (a' := (x.1, i)) hc ⟨l, rfl, h3⟩⟩
/-! ### is True; texts in a tuple -/
theorem ev_isB {x y : Bool} (ha : EV K M ta σ B L rBool x L1) (hb : EV K M tb σ B L1 rBool y L2) : EV K M (tOp L3G.rIsB ta tb) σ B L rBool (decide (x = y)) L2 :=
  ev_op ha hb fun _ _ _ _ _ _ hx hy q => ⟨x, y, hx, hy, q _ rfl⟩
theorem ev_isnB {x y : Bool} (ha : EV K M ta σ B L rBool x L1) (hb : EV K M tb σ B L1 rBool y L2) : EV K M (tOp L3G.rNotB ta tb) σ B L rBool (!decide (x = y)) L2 :=
  ev_op ha hb fun _ _ _ _ _ _ hx hy q => ⟨x, y, hx, hy, q _ rfl⟩
theorem strs_of : ∀ {vs : List V} {xs : List Str}, Paired (rStr.is K B) vs xs → vs = xs.map V.str
  | _, _, .nil => rfl
  | _, _, .cons h t => by
    have h : _ = V.str _ := h
    rw [h, strs_of t]; rfl
theorem flat_strs : ∀ xs : List Str, (xs.map V.str).all flatV = true
  | [] => rfl
  | x :: xs => by rw [List.map_cons, List.all_cons, flat_strs xs]; rfl
theorem inV_strs (k : Str) : ∀ xs : List Str, inV (.str k) (xs.map V.str) = decide (k ∈ xs)
  | [] => rfl
  | x :: xs => by
    have ih := inV_strs k xs
    unfold inV at ih ⊢
    rw [List.map_cons, List.any_cons, ih]
    have e : eqV (.str x) (.str k) = decide (x = k) := by
      show (x == k) = _
      rw [Bool.eq_iff_iff, beq_iff_eq, decide_eq_true_iff]
    rw [e]
    clear ih e
    by_cases h : x = k
    · subst h
      rw [decide_eq_true rfl, Bool.true_or, decide_eq_true (List.mem_cons_self)]
    · rw [decide_eq_false h, Bool.false_or]
      by_cases h2 : k ∈ xs
      · rw [decide_eq_true h2, decide_eq_true (List.mem_cons_of_mem _ h2)]
      · rw [decide_eq_false h2, decide_eq_false fun z => (List.mem_cons.mp z).elim (fun q => h q.symm) h2]
theorem sq_strs {v : V} {xs : List Str} (e : Ex B H) (h : (rSeq rStr).is K B v xs) : ∃ p, v = .ref p ∧ (SqL K H p (xs.map V.str) ∨ SqT K H p (xs.map V.str)) := by
  obtain ⟨p, vs, h1, h2, h3⟩ := h
  have ev := strs_of h3
  subst ev
  exact ⟨p, h1, h2.imp (ex_l e) (ex_t e)⟩
theorem ev_inS {z : Str} {xs : List Str} (h : EV K M ta σ B L rStr z L1) (h' : EV K M tb σ B L1 (rSeq rStr) xs L2) : EV K M (tOp (rIn K false) ta tb) σ B L rBool (decide (z ∈ xs)) L2 := fun B1 H e w Q q =>
  h B1 H e w _ fun v B2 H2 e2 w2 hv => h' B2 H2 (e.trans e2) w2 _ fun u B3 H3 e3 w3 hu => by
    have hv : v = .str z := hv
    subst hv
    obtain ⟨p, rfl, hs⟩ := sq_strs w3.b hu
    refine ⟨p, _, rfl, hs, rfl, flat_strs xs, ?_⟩
    rw [inV_strs]
    exact q _ B3 H3 (e2.trans e3) w3 rfl
theorem ev_niS {z : Str} {xs : List Str} (h : EV K M ta σ B L rStr z L1) (h' : EV K M tb σ B L1 (rSeq rStr) xs L2) : EV K M (tOp (rIn K true) ta tb) σ B L rBool (!decide (z ∈ xs)) L2 := fun B1 H e w Q q =>
  h B1 H e w _ fun v B2 H2 e2 w2 hv => h' B2 H2 (e.trans e2) w2 _ fun u B3 H3 e3 w3 hu => by
    have hv : v = .str z := hv
    subst hv
    obtain ⟨p, rfl, hs⟩ := sq_strs w3.b hu
    refine ⟨p, _, rfl, hs, rfl, flat_strs xs, ?_⟩
    rw [inV_strs]
    exact q _ B3 H3 (e2.trans e3) w3 rfl
/-! ### data that is known to be of a kind -/
def asS : PyData → Option Str
  | .str x => some x
  | _ => none
def asI : PyData → Option Int
  | .int i => some i
  | _ => none
def asB : PyData → Option Bool
  | .bool b => some b
  | _ => none
def asT : PyData → Option (List PyData)
  | .tuple ds => some ds
  | _ => none
def asIs : List PyData → Option (List Int)
  | [] => some []
  | .int i :: ds => (asIs ds).map (i :: ·)
  | _ :: _ => none
def asQ : PyData → Option (Int × Int)
  | .tuple [.int i, .int j] => some (i, j)
  | _ => none
variable {d : PyData}
theorem ev_asS {z : Str} (h : EV K M te σ B L rDat d L') (e : asS d = some z) : EV K M te σ B L rStr z L' := ev_as h fun _ _ h => by
  have h : Dp _ _ _ d := h
  cases h <;> cases e
  rfl
theorem ev_asI (h : EV K M te σ B L rDat d L') (e : asI d = some i) : EV K M te σ B L rInt i L' := ev_as h fun _ _ h => by
  have h : Dp _ _ _ d := h
  cases h <;> cases e
  rfl
theorem ev_asB (h : EV K M te σ B L rDat d L') (e : asB d = some b) : EV K M te σ B L rBool b L' := ev_as h fun _ _ h => by
  have h : Dp _ _ _ d := h
  cases h <;> cases e
  rfl
theorem ev_asT {ds : List PyData} (h : EV K M te σ B L rDat d L') (e : asT d = some ds) : EV K M te σ B L (rTup rDat) ds L' := ev_as h fun _ _ h => by
  have h : Dp _ _ _ d := h
  cases h with
  | tup hs hd => cases e; exact ⟨_, _, rfl, hs, dpAll_paired hd⟩
  | _ => cases e
theorem asIs_paired : ∀ {vs : List V} {ds : List PyData} {is : List Int}, Paired (rDat.is K B) vs ds → asIs ds = some is → Paired (rInt.is K B) vs is
  | _, _, _, .nil, e => by cases e; exact .nil
  | v :: vs, d :: ds, is, .cons h t, e => by
    have h : Dp K B v d := h
    cases d <;> try (cases e)
    rename_i i
    unfold asIs at e
    cases hi : asIs ds with
    | none => rw [hi] at e; cases e
    | some js =>
      rw [hi] at e
      cases e
      cases h
      exact .cons rfl (asIs_paired t hi)
theorem ev_asIs {ds : List PyData} {is : List Int} (h : EV K M te σ B L (rTup rDat) ds L') (e : asIs ds = some is) : EV K M te σ B L (rTup rInt) is L' := ev_as h fun _ _ ⟨p, vs, h1, h2, h3⟩ => ⟨p, vs, h1, h2, asIs_paired h3 e⟩
theorem dpQ {v : V} {q : Int × Int} (h : Dp K B v d) (e : asQ d = some q) : (rT2 rInt rInt).is K B v q := by
  unfold asQ at e
  split at e
  · cases e
    cases h with
    | tup hs hd =>
      cases hd with
      | cons h1 h2 =>
        cases h2 with
        | cons h2 h3 =>
          cases h3
          cases h1
          cases h2
          exact ⟨_, _, _, rfl, hs, rfl, rfl⟩
  · cases e
theorem ev_asQ {q : Int × Int} (h : EV K M te σ B L rDat d L') (e : asQ d = some q) : EV K M te σ B L (rT2 rInt rInt) q L' := ev_as h fun _ _ h => dpQ h e
/-- len of a pair -/
theorem ev_lenT2 {a : α × β} (ha : EV K M ta σ B L (rT2 r s) a L1) : EV K M (tCB (rLen K) (tCons ta tNil)) σ B L rInt 2 L1 :=
  ev_cb1 ha fun B1 H1 x Q w hx q => by
    obtain ⟨p, u, v, rfl, hs, h1, h2⟩ := hx
    exact ⟨p, _, rfl, .inr (ex_t w.b hs), q _ rfl⟩
end
/-! ### a list of two kinds -/
def rL2 {α β : Type} (r : Rep α) (s : Rep β) : Rep (α × β) := ⟨fun K B v a => ∃ p x y, v = .ref p ∧ B p = some (.lst [x, y]) ∧ r.is K B x a.1 ∧ s.is K B y a.2,
  fun e ⟨p, x, y, h1, h2, h3, h4⟩ => ⟨p, x, y, h1, e _ _ h2, r.mono e h3, s.mono e h4⟩⟩
def dL2 {α β : Type} (f : α → PyData) (g : β → PyData) (a : α × β) : PyData := .list [f a.1, g a.2]
section
variable {K : Fg} {M : Fr} {σ : St} {B B' H H' : Hp} {L L1 L2 L' : List Cell} {α β γ δ : Type} {r : Rep α} {s : Rep β} {t : Rep γ} {ta tb tc te : TE} {tA : TA} {f : α → PyData} {g : β → PyData} {n m : Nat}
theorem ev_L2 {a : α} {b : β} (h : EA K M tA σ B L [⟨r, a⟩, ⟨s, b⟩] L') : EV K M (tLst tA) σ B L (rL2 r s) (a, b) L' := fun B1 H e w Q q =>
  h B1 H e w _ fun vs B2 H2 e2 w2 hv => by
    match vs, hv with
    | [x0, x1], ⟨h1, h2, _⟩ =>
      refine ⟨by show 2 ≤ sizeLine; decide, fun p hp => ?_⟩
      have eN := Ex.new (o := HO.lst [x0, x1]) (fresh_back w2.b hp)
      exact q _ (upd B2 p _) _ (e2.trans eN) (w2.ext hp) ⟨p, _, _, rfl, upd_same, r.mono eN h1, s.mono eN h2⟩
theorem ev_L2fst {a : α × β} (ha : EV K M ta σ B L (rL2 r s) a L1) : EV K M (tOp (rIx K) ta (tC (.int 0))) σ B L r a.1 L1 := fun B1 H e w Q q =>
  ha B1 H e w _ fun x B2 H2 e2 w2 hx => by
    obtain ⟨p, x0, x1, rfl, hs, h0, h1⟩ := hx
    exact .inl ⟨p, _, 0, x0, rfl, rfl, sq_of (w2.b _ _ hs), rfl, q _ B2 H2 e2 w2 h0⟩
theorem ev_L2snd {a : α × β} (ha : EV K M ta σ B L (rL2 r s) a L1) : EV K M (tOp (rIx K) ta (tC (.int 1))) σ B L s a.2 L1 := fun B1 H e w Q q =>
  ha B1 H e w _ fun x B2 H2 e2 w2 hx => by
    obtain ⟨p, x0, x1, rfl, hs, h0, h1⟩ := hx
    exact .inl ⟨p, _, 1, x1, rfl, rfl, sq_of (w2.b _ _ hs), rfl, q _ B2 H2 e2 w2 h1⟩
theorem dr_L2 (d : DR r f n) (e : DR s g m) : DR (rL2 r s) (dL2 f g) (max n m + 1) := ⟨fun K B v a ⟨p, x, y, h1, h2, h3, h4⟩ => by subst h1; exact .lst (sq_of h2) (.cons (d.dp _ _ _ _ h3) (.cons (e.dp _ _ _ _ h4) .nil)),
  fun a => by simp [dL2, PyData.canLay0, PyData.canLayAll0, d.lay, e.lay], fun a => by have := d.dep a.1; have := e.dep a.2; simp only [dL2, PyData.depth, PyData.depthAll]; omega,
  fun a b => by simp only [dL2, PyData.eqv, PyData.eqvAll, Bool.and_true, Bool.and_eq_true, d.eqv, e.eqv]; exact ⟨fun ⟨x, y⟩ => Prod.ext x y, fun e => by rw [e]; exact ⟨rfl, rfl⟩⟩,
  fun a b q => by unfold dL2 at q; injection q with q; injection q with q1 q2; injection q2 with q2 _; exact Prod.ext (d.inj _ _ q1) (e.inj _ _ q2)⟩
theorem dq_L2 (d : DQ r f) (e : DQ s g) : DQ (rL2 r s) (dL2 f g) := fun K B v a ⟨p, x, y, h1, h2, h3, h4⟩ => by subst h1; exact .lst (sq_of h2) (.cons (d _ _ _ _ h3) (.cons (e _ _ _ _ h4) .nil))
end
/-! ### a global dict of texts -/
def lookI : List (Str × Int) → Str → Option Int
  | [], _ => none
  | q :: l, z => if q.1 = z then some q.2 else lookI l z
def entB : List DictEntry → List (Str × Int) → Bool
  | [], [] => true
  | e :: es, q :: qs => (match e.key, e.val with
    | .str k _, .int i _ => decide (k = q.1) && decide (i = q.2)
    | _, _ => false) && entB es qs
  | _, _ => false
def tabG (K : Fg) (x : Str) (l : List (Str × Int)) : Bool := match PySem.W.nsIn K mainGlobals x with
  | some (some (.ref a)) => decide (a = He.ga K x) && (match K.lookup a with
    | some ⟨_, _, .dict es _, _⟩ => entB es.toList l
    | _ => false)
  | _ => false
structure GD (K : Fg) (w : World) (mg : Str → Option Value) (x : Str) (l : List (Str × Int)) : Prop where
  ex : ∃ a es n, mg x = some (.ref a) ∧ KDict K w a es n ∧ (∀ z, lookI l z = none → PySem.W.nsIn K a z = some none) ∧ ∀ z i, lookI l z = some i → ∃ t, PySem.W.nsIn K a z = some (some (.int i t))
theorem ent_find : ∀ {es : List DictEntry} {l : List (Str × Int)} (z : Str), entB es l = true → (lookI l z = none → es.find? (·.key.isStr z) = none ∧ es.any (·.refKey) = false) ∧ ∀ i, lookI l z = some i → ∃ e t, es.find? (·.key.isStr z) = some e ∧ e.val = .int i t
  | [], [], z, _ => ⟨fun _ => ⟨rfl, rfl⟩, fun i h => by cases h⟩
  | e :: es, q :: l, z, h => by
    unfold entB at h
    rw [Bool.and_eq_true] at h
    obtain ⟨h1, h2⟩ := h
    have ih := ent_find z h2
    obtain ⟨hh, ek, ev⟩ := e
    cases ek <;> try (cases h1)
    cases ev <;> try (cases h1)
    rename_i k tk i ti
    have h1 : (decide (k = q.1) && decide (i = q.2)) = true := h1
    rw [Bool.and_eq_true, decide_eq_true_iff, decide_eq_true_iff] at h1
    obtain ⟨rfl, rfl⟩ := h1
    unfold lookI
    have is : (Value.str q.1 tk).isStr z = decide (q.1 = z) := by
      rw [Bool.eq_iff_iff, decide_eq_true_iff]
      show (q.1 == z) = true ↔ _
      exact beq_iff_eq
    by_cases e : q.1 = z
    · rw [if_pos e]
      refine ⟨fun h => (by cases h), fun i h => ?_⟩
      cases h
      refine ⟨⟨hh, .str q.1 tk, .int q.2 ti⟩, ti, ?_, rfl⟩
      rw [List.find?_cons, is, decide_eq_true e]
    · rw [if_neg e]
      refine ⟨fun h => ?_, fun i h => ?_⟩
      · obtain ⟨a, b⟩ := ih.1 h
        refine ⟨?_, ?_⟩
        · rw [List.find?_cons, is, decide_eq_false e]; exact a
        · rw [List.any_cons, b]; rfl
      · obtain ⟨e', t, a, b⟩ := ih.2 i h
        refine ⟨e', t, ?_, b⟩
        rw [List.find?_cons, is, decide_eq_false e]; exact a
theorem tabG_ok {K : Fg} {w : World} {h : Heap} {mg : Str → Option Value} {x : Str} {l : List (Str × Int)} (X : K.In h) (G : h.Ns mainGlobals mg) (e : tabG K x l = true) (D : ∃ es n, KDict K w (He.ga K x) es n) : GD K w mg x l := by
  unfold tabG at e
  split at e
  · rename_i a ha
    rw [Bool.and_eq_true, decide_eq_true_iff] at e
    obtain ⟨ea, e⟩ := e
    obtain ⟨es, n, D⟩ := D
    rw [← ea] at D
    rw [D.at_] at e
    have e : entB es.toList l = true := e
    refine ⟨a, es, n, PySem.W.mg_of X G ha, D, fun z hz => ?_, fun z i hz => ?_⟩
    · obtain ⟨h1, h2⟩ := (ent_find z e).1 hz
      unfold PySem.W.nsIn
      rw [D.at_]
      show (match es.toList.find? (·.key.isStr z) with | some e => some (some e.val) | none => if es.toList.any (·.refKey) then none else some none) = _
      rw [h1, h2]; rfl
    · obtain ⟨e', t, h1, h2⟩ := (ent_find z e).2 i hz
      refine ⟨t, ?_⟩
      unfold PySem.W.nsIn
      rw [D.at_]
      show (match es.toList.find? (·.key.isStr z) with | some e => some (some e.val) | none => if es.toList.any (·.refKey) then none else some none) = _
      rw [h1, ← h2]
  · cases e
section
variable {K : Fg} {M : Fr} {σ : St} {B B' H H' : Hp} {L L1 L2 L' : List Cell} {α β γ δ : Type} {r : Rep α} {s : Rep β} {t : Rep γ} {ta tb tc te : TE} {tt tu : TT} {tA : TA} {i j k : Int} {b c : Bool} {D : Ends} {tz t1 t2 : TS}
abbrev rInG (K : Fg) (d : Addr) : R2 := fun x y H Q => ∃ (z : Str) (r : Option Value), x = .str z ∧ y = .ref d ∧ PySem.W.nsIn K d z = some r ∧ Q (.bl r.isSome) H
abbrev rNiG (K : Fg) (d : Addr) : R2 := fun x y H Q => ∃ (z : Str) (r : Option Value), x = .str z ∧ y = .ref d ∧ PySem.W.nsIn K d z = some r ∧ Q (.bl (!r.isSome)) H
theorem ev_inG {d : Addr} {z : Str} {l : List (Str × Int)} (h0 : ∀ z, lookI l z = none → PySem.W.nsIn K d z = some none) (h1 : ∀ z i, lookI l z = some i → ∃ t, PySem.W.nsIn K d z = some (some (.int i t))) (h : EV K M ta σ B L rStr z L1) (h' : EV K M tb σ B L1 rRef d L2) : EV K M (tOp (rInG K d) ta tb) σ B L rBool (lookI l z).isSome L2 :=
  ev_op h h' fun _ _ _ _ _ _ hx hy q => by
    cases e : lookI l z with
    | none => exact ⟨z, none, hx, hy, h0 z e, q _ (by rw [e]; rfl)⟩
    | some i =>
      obtain ⟨t, ht⟩ := h1 z i e
      exact ⟨z, _, hx, hy, ht, q _ (by rw [e]; rfl)⟩
theorem ev_niG {d : Addr} {z : Str} {l : List (Str × Int)} (h0 : ∀ z, lookI l z = none → PySem.W.nsIn K d z = some none) (h1 : ∀ z i, lookI l z = some i → ∃ t, PySem.W.nsIn K d z = some (some (.int i t))) (h : EV K M ta σ B L rStr z L1) (h' : EV K M tb σ B L1 rRef d L2) : EV K M (tOp (rNiG K d) ta tb) σ B L rBool (!(lookI l z).isSome) L2 :=
  ev_op h h' fun _ _ _ _ _ _ hx hy q => by
    cases e : lookI l z with
    | none => exact ⟨z, none, hx, hy, h0 z e, q _ (by rw [e]; rfl)⟩
    | some i =>
      obtain ⟨t, ht⟩ := h1 z i e
      exact ⟨z, _, hx, hy, ht, q _ (by rw [e]; rfl)⟩
theorem ev_ixG {w0 : World} {d : Addr} {es : Array DictEntry} {n : Nat} {z : Str} {l : List (Str × Int)} (D : KDict K w0 d es n) (h1 : ∀ z i, lookI l z = some i → ∃ t, PySem.W.nsIn K d z = some (some (.int i t))) (h : EV K M ta σ B L rRef d L1) (h' : EV K M tb σ B L1 rStr z L2) (e : lookI l z = some i) : EV K M (tOp (rIxD K w0) ta tb) σ B L rInt i L2 :=
  ev_op h h' fun _ _ _ _ _ _ hx hy q => by
    obtain ⟨t, ht⟩ := h1 z i e
    exact ⟨d, z, .int i, hx, hy, ⟨es, n, .int i t, D.at_, D.lit, ht, ⟨t, rfl⟩⟩, q _ rfl⟩
end
end L3

namespace L3
open PySem L2
open Evl (Ex ex_rd ex_l ex_t sq_of st_of fresh_back)
/-! ### dicts of ints: made by a comprehension, read, asked -/
def getI : List (Int × Int) → Int → Option Int
  | [], _ => none
  | q :: l, k => if q.1 = k then some q.2 else getI l k
theorem valV_enc (k : Int) : ∀ kvs : List (Int × Int), valV (L3G.encI kvs) (Sum.inl k : Key) = (getI kvs k).map V.int
  | [] => rfl
  | q :: l => by
    have ih := valV_enc k l
    unfold valV L3G.encI at ih ⊢
    rw [List.map_cons, List.find?_cons]
    unfold getI
    by_cases h : q.1 = k
    · rw [if_pos h]
      have : (decide ((Sum.inl q.1 : Key) = Sum.inl k)) = true := decide_eq_true (by rw [h])
      rw [this]
      rfl
    · rw [if_neg h]
      have : (decide ((Sum.inl q.1 : Key) = Sum.inl k)) = false := decide_eq_false fun z => h (Sum.inl.inj z)
      rw [this]
      exact ih
def dcM {α : Type} (f : α → Option (Int × Int)) : List (Int × Int) → List α → Option (List (Int × Int))
  | kvs, [] => some kvs
  | kvs, x :: xs => match f x with
    | some q => dcM f (putI kvs q.1 q.2) xs
    | none => none
theorem putI_len (kvs : List (Int × Int)) (k v : Int) : (putI kvs k v).length ≤ kvs.length + 1 := by
  have h := L2.length_putK (L3G.encI kvs) (Sum.inl k : Key) (V.int v)
  rw [enc_put] at h
  simpa [L3G.encI] using h
section
variable {K : Fg} {M : Fr} {σ : St} {B : Hp} {L L1 L2 L' : List Cell} {α β γ δ : Type} {r : Rep α} {s : Rep β} {t : Rep γ} {ta tb tc te tk tv : TE} {tt tu : TT} {tA : TA} {i j k : Int} {b c : Bool} {wi : TI} {g : TG}
theorem ec_dc {vs : List Nat} {σ' : St} {xs : List α} {kvs : List (Int × Int)} (hi : EI K M wi σ B L r xs L1) (f : α → Option (Int × Int)) (hm : dcM f [] xs = some kvs) (hr : room xs.length = some ()) (hw : wipe σ vs = σ')
    (hs : ∀ x o v D acc B' H', f x = some o → Ex B B' → Own K B' M (⟨D, cDk, acc⟩ :: L1) H' → r.is K B' v x → ∀ (PY : V → V → Hp → Prop) (PN : Hp → Prop),
      (∀ y z B2 H2, Ex B' B2 → Own K B2 M (⟨D, cDk, acc⟩ :: L1) H2 → y = .int o.1 → z = .int o.2 → PY y z H2) →
      g v σ' H' fun σ2 H2 => wipe σ2 vs = σ' ∧ tYes σ2 H2 fun b H3 => if b = true then tk σ2 H3 fun y H4 => tv σ2 H4 fun z H5 => PY y z H5 else PN H3) :
    ENC K M (tDc wi g tYes tk tv vs) σ B L cDk kvs L1 := fun B1 H e w Q q => by
  refine hi B1 H e w _ fun J B2 H2 e2 w2 wk => ?_
  intro D hD
  subst hw
  have w3 : Own K B2 M (⟨D, cDk, []⟩ :: L1) (upd H2 D (.dK [])) := w2.new (c := cDk) hD rfl
  refine ⟨fun i m H' => m = xs.length - i ∧ i ≤ xs.length ∧ ∃ acc B', Ex B2 B' ∧ Own K B' M (⟨D, cDk, acc⟩ :: L1) H' ∧ acc.length ≤ i ∧ dcM f acc (xs.drop i) = some kvs,
    ⟨_, rfl, Nat.zero_le _, [], B2, Ex.refl _, w3, Nat.zero_le _, hm⟩, ?_⟩
  rintro i m H' ⟨rfl, hil, acc, B', eb, w', hacc, hz⟩
  by_cases hl : i = xs.length
  · subst hl
    rw [List.drop_length] at hz
    obtain rfl := Option.some.inj hz
    exact .inl ⟨wk.stop B' _ H' eb w', q D B' H' (e2.trans eb) w'⟩
  · have hlt : i < xs.length := by omega
    rw [List.drop_eq_getElem_cons hlt] at hz
    have hx : xs[i]? = some xs[i] := List.getElem?_eq_getElem hlt
    obtain ⟨g1, g2⟩ := wk.go i xs[i] B' _ H' eb w' hx
    unfold dcM at hz
    cases hf : f xs[i] with
    | none => rw [hf] at hz; cases hz
    | some o =>
      rw [hf] at hz
      dsimp only at hz
      refine .inr ⟨g1, fun H5 => i + 1 ≤ xs.length ∧ ∃ acc B', Ex B2 B' ∧ Own K B' M (⟨D, cDk, acc⟩ :: L1) H5 ∧ acc.length ≤ i + 1 ∧ dcM f acc (xs.drop (i + 1)) = some kvs, fun H5 h5 => ⟨xs.length - (i + 1), by omega, rfl, h5⟩, fun x H4 hy => ?_⟩
      obtain ⟨B4, e4, w4, hrx⟩ := g2 x H4 hy
      have hb := (e.trans e2).trans (eb.trans e4)
      refine hs xs[i] o x D acc B4 H4 hf hb w4 hrx (fun y z H6 => ∃ kvs' k', y = kV k' ∧ H6 D = some (.dK kvs') ∧ kvs'.length < sizeLine ∧ (fun H5 => i + 1 ≤ xs.length ∧ ∃ acc B', Ex B2 B' ∧ Own K B' M (⟨D, cDk, acc⟩ :: L1) H5 ∧ acc.length ≤ i + 1 ∧ dcM f acc (xs.drop (i + 1)) = some kvs) (upd H6 D (.dK (putK kvs' k' z)))) _ fun y z B5 H5 e5 w5 hy hz' => ?_
      subst hy hz'
      obtain ⟨⟨o', a1, a2⟩, _⟩ := w5.at (i := 0) rfl
      have a1 : H5 D = some o' := a1
      have a2 : o' = .dK (L3G.encI acc) := a2
      refine ⟨L3G.encI acc, Sum.inl o.1, rfl, by rw [a1, a2], ?_, hlt, putI acc o.1 o.2, B5, (eb.trans e4).trans e5, ?_, ?_, hz⟩
      · have hq := room_some hr
        have : (L3G.encI acc).length = acc.length := by simp [L3G.encI]
        omega
      · rw [enc_put]
        exact w5.set (i := 0) rfl (c' := cDk) rfl
      · have := putI_len acc o.1 o.2
        omega
theorem dc_yes {PY : V → V → Hp → Prop} {PN : Hp → Prop} {H : Hp} (h : tk σ H fun y H4 => tv σ H4 fun z H5 => PY y z H5) : tYes σ H fun b H3 => if b = true then tk σ H3 fun y H4 => tv σ H4 fun z H5 => PY y z H5 else PN H3 := by
  show (if true = true then tk σ H fun y H4 => tv σ H4 fun z H5 => PY y z H5 else PN H)
  rw [if_pos rfl]
  exact h
theorem ev_dGet {n : Nat} {p : Addr} {kvs : List (Int × Int)} {v : Int} (h : EV K M ta σ B L rRef p L1) (h' : EV K M tb σ B L1 rInt k L2) (hc : L2[n]? = some ⟨p, cDk, kvs⟩) (e : getI kvs k = some v) : EV K M (tDGet ta tb) σ B L rInt v L2 := fun B1 H e1 w Q q =>
  h B1 H e1 w _ fun x B2 H2 e2 w2 hx => h' B2 H2 (e1.trans e2) w2 _ fun u B3 H3 e3 w3 hu => by
    obtain ⟨⟨o', g1, g2⟩, _⟩ := w3.at hc
    have g1 : H3 p = some o' := g1
    have g2 : o' = .dK (L3G.encI kvs) := g2
    have hu : u = .int k := hu
    subst hu
    have hd : DGet H3 p (kV (Sum.inl k)) (valV (L3G.encI kvs) (Sum.inl k)) := DGet.k (by rw [g1, g2])
    rw [valV_enc, e] at hd
    exact ⟨p, .int v, hx, hd, q _ B3 H3 (e2.trans e3) w3 rfl⟩
theorem ev_dIn {n : Nat} {p : Addr} {kvs : List (Int × Int)} (h' : EV K M tb σ B L rInt k L1) (h : EV K M ta σ B L1 rRef p L2) (hc : L2[n]? = some ⟨p, cDk, kvs⟩) : EV K M (tDIn tb ta) σ B L rBool (getI kvs k).isSome L2 := fun B1 H e1 w Q q =>
  h' B1 H e1 w _ fun u B2 H2 e2 w2 hu => h B2 H2 (e1.trans e2) w2 _ fun x B3 H3 e3 w3 hx => by
    obtain ⟨⟨o', g1, g2⟩, _⟩ := w3.at hc
    have g1 : H3 p = some o' := g1
    have g2 : o' = .dK (L3G.encI kvs) := g2
    have hu : u = .int k := hu
    subst hu
    have hd : DGet H3 p (kV (Sum.inl k)) (valV (L3G.encI kvs) (Sum.inl k)) := DGet.k (by rw [g1, g2])
    rw [valV_enc] at hd
    refine ⟨p, _, hx, hd, q _ B3 H3 (e2.trans e3) w3 ?_⟩
    cases getI kvs k <;> rfl
theorem ev_dNi {n : Nat} {p : Addr} {kvs : List (Int × Int)} (h' : EV K M tb σ B L rInt k L1) (h : EV K M ta σ B L1 rRef p L2) (hc : L2[n]? = some ⟨p, cDk, kvs⟩) : EV K M (tDNotIn tb ta) σ B L rBool (!(getI kvs k).isSome) L2 := fun B1 H e1 w Q q =>
  h' B1 H e1 w _ fun u B2 H2 e2 w2 hu => h B2 H2 (e1.trans e2) w2 _ fun x B3 H3 e3 w3 hx => by
    obtain ⟨⟨o', g1, g2⟩, _⟩ := w3.at hc
    have g1 : H3 p = some o' := g1
    have g2 : o' = .dK (L3G.encI kvs) := g2
    have hu : u = .int k := hu
    subst hu
    have hd : DGet H3 p (kV (Sum.inl k)) (valV (L3G.encI kvs) (Sum.inl k)) := DGet.k (by rw [g1, g2])
    rw [valV_enc] at hd
    refine ⟨p, _, hx, hd, q _ B3 H3 (e2.trans e3) w3 ?_⟩
    cases getI kvs k <;> rfl
/-! ### list.index of ints -/
def idxI : List Int → Int → Option Int
  | [], _ => none
  | x :: l, k => if x = k then some 0 else (idxI l k).map (· + 1)
theorem idxI_at {k : Int} : ∀ {xs : List Int} {v : Int}, idxI xs k = some v → ∃ n : Nat, v = (n : Int) ∧ xs[n]? = some k ∧ ∀ (m : Nat) (z : Int), m < n → xs[m]? = some z → z ≠ k
  | [], _, h => by cases h
  | x :: l, v, h => by
    unfold idxI at h
    split at h
    · rename_i e
      obtain rfl := Option.some.inj h
      exact ⟨0, rfl, by rw [← e]; rfl, fun m z hm => absurd hm (by omega)⟩
    · rename_i e
      cases e2 : idxI l k with
      | none => rw [e2] at h; cases h
      | some u =>
        rw [e2] at h
        obtain rfl := Option.some.inj h
        obtain ⟨n, rfl, h1, h2⟩ := idxI_at e2
        refine ⟨n + 1, by simp, by simpa using h1, fun m z hm hz => ?_⟩
        cases m with
        | zero => obtain rfl : x = z := Option.some.inj hz; exact e
        | succ m => exact h2 m z (by omega) (by simpa using hz)
theorem ev_index {xs : List Int} {v : Int} (h : EV K M ta σ B L (rLst rInt) xs L1) (h' : EV K M tb σ B L1 rInt k L2) (e : idxI xs k = some v) : EV K M (tBM K "list" (rIndex K) ta (tCons tb tNil)) σ B L rInt v L2 := fun B1 H e1 w Q q =>
  h B1 H e1 w _ fun x B2 H2 e2 w2 hx => by
    obtain ⟨p, ys, rfl, hs, hp⟩ := rl_sc hx
    refine ⟨.inl ⟨rfl, ys, ex_l w2.b hs⟩, h' B2 H2 (e1.trans e2) w2 _ fun u B3 H3 e3 w3 hu => ?_⟩
    have hu : u = .int k := hu
    subst hu
    obtain ⟨n, rfl, h1, h2⟩ := idxI_at e
    obtain rfl := ints_of hp
    refine ⟨p, xs.map V.int, .int k, n, .int k, rfl, rfl, ex_l w3.b (ex_l e3 hs), rfl, ?_, by rw [List.getElem?_map, h1]; rfl, by simp [eqV], fun m z hm hz => ?_, q _ B3 H3 (e2.trans e3) w3 rfl⟩
    · rw [List.all_eq_true]
      intro y hy
      obtain ⟨z, _, rfl⟩ := List.mem_map.mp hy
      rfl
    · rw [List.getElem?_map] at hz
      cases hx : xs[m]? with
      | none => rw [hx] at hz; cases hz
      | some z2 =>
        rw [hx] at hz
        obtain rfl : V.int z2 = z := Option.some.inj hz
        have := h2 m z2 hm hx
        simpa [eqV] using this
end
end L3

namespace L3
open PySem L2
open Evl (Ex ex_rd ex_l ex_t sq_of st_of fresh_back)
def top (i : Nat) : Stmt := PySem.Challenge.pw_bestodds_k34_valid_sentences.main.body.getD i (.Pass ⟨0, 0, 0, 0⟩)
def tb_MEMBERS : List (Str × Int) := [("in", 2), ("not", 2), ("and", 3), ("next", 5), ("until", 6), ("within", 7)]
abbrev s_ratio : Stmt := top 4
abbrev s_is_less : Stmt := top 5
abbrev s_is_chance : Stmt := top 10
abbrev s_parts_of : Stmt := top 11
abbrev s_fine_line : Stmt := top 12
abbrev s_is_valid : Stmt := top 13
abbrev s__law_draws : Stmt := top 15
abbrev s__law_box : Stmt := top 16
abbrev s__law_next : Stmt := top 17
abbrev s__law_ends : Stmt := top 25
abbrev s__law_system : Stmt := top 26
abbrev s__law_chance : Stmt := top 28
abbrev s__law_line : Stmt := top 29
abbrev s__law_sentence : Stmt := top 30
abbrev s_law : Stmt := top 31
section
variable {P : Program} {w : World} {K : PySem.W.Frag} {mg : Str → Option Value} {base : Heap} {f : Addr} {fd : FuncData} {T : List Addr} {cc : Addr}
noncomputable def m_ratio (a0 : Int) (a1 : Int) : Option (Int × Int) :=
  Option.bind (if (decide (a1 < (0 : Int))) = true then
    some (((-a0), (-a1)))
  else
    some ((a0, a1))
  ) fun (s11 : (Int × Int)) =>
  Option.bind (divI s11.1 ((gcdI s11.1 s11.2))) fun t29 =>
  Option.bind (divI s11.2 ((gcdI s11.1 s11.2))) fun t31 =>
  some (t29, t31)
def C_ratio : List Arg → List Cell → Arg → List Cell → Prop := fun as L r L' => ∃ a0 a1 c, as = [⟨rInt, a0⟩, ⟨rInt, a1⟩] ∧ L = [] ∧ m_ratio a0 a1 = some c ∧ r = ⟨(rT2 rInt rInt), c⟩ ∧ L' = []
theorem sc_ratio : FnScope ["n", "d", "common"] ["n", "d"] (defScope s_ratio) := ⟨rfl, rfl, rfl, by decide +kernel, rfl, by decide +kernel, by decide +kernel⟩
set_option maxHeartbeats 0 in
theorem ok_ratio (F : FunC K "ratio" s_ratio f fd cc) (z_gcd : mg "gcd" = some (.builtin "math.gcd")) : FnOk P w K mg base CX0 1 f fd ["n", "d"] (spV K T C_ratio) := by
  refine F.ok sc_ratio (fun vs H Q E h => ?_) (fun A outer s H vs Q E hr h => ?_)
  · obtain ⟨B, M, L, as, r, L', hT, w, ha, ⟨_, _, _, rfl, _⟩, k⟩ := h
    exact args_len ha
  · skip
    obtain ⟨B, M, L, as, r, L', rfl, w, ha, ⟨a0, a1, c, rfl, rfl, hm, rfl, rfl⟩, k⟩ := h
    obtain ⟨u0, u1, rfl, f0, f1⟩ := args2 ha
    replace f0 : (rInt).is K B u0 a0 := f0
    replace f1 : (rInt).is K B u1 a1 := f1
    unfold m_ratio at hm
    refine ⟨_, (Evl.pss_cut (ps_if (pt_cmpR op_lt (pv 1) pe_int (nomark _)) (pss_cons (ps_par (i := 0) (j := 1) rfl sc_ratio.nd rfl rfl (by decide) rfl rfl (pa_cons (pe_un un_neg (pv 0)) (pa_cons (pe_un un_neg (pv 1)) pa_nil)) rfl) pss_nil) pss_nil) (pss_cons (ps_set (i := 2) sc_ratio.nd rfl (by first | exact Or.inl rfl | exact Or.inr rfl) (pe_callBfun cr_gcd rfl z_gcd (pa_cons (pv 0) (pa_cons (pv 1) pa_nil)))) (pss_cons (ps_ret (pe_tup (pa_cons (pe_op op_fdivW (pv 0) (pv 2)) (pa_cons (pe_op op_fdivW (pv 1) (pv 2)) pa_nil)))) pss_nil))), ?_⟩
    rw [show start ["n", "d", "common"] [u0, u1] = ([some u0, some u1, none] : L2.St) from rfl]
    obtain ⟨s11, e12, hm⟩ := bindS hm
    refine q_cut (fun σ25 H20 => ∃ v21 v23 B20, Ex B B20 ∧ Own K B20 M [] H20 ∧ σ25 = [some v21, some v23, none] ∧ (rInt).is K B20 v21 s11.1 ∧ (rInt).is K B20 v23 s11.2) ?_ ?_
    · skip
      refine q_ifc w (et_test (ev_lt (ev_varI rfl f1) (ev_int (i := 0)))) (fun hb10 B13 H13 x13 (w13 : Own K B13 M [] H13) => ?_) (fun hb10 B19 H19 x19 (w19 : Own K B19 M [] H19) => ?_)
      · skip
        rw [if_pos hb10] at e12
        refine q_par (n := 0) (m := 1) w13 (ea_cons (ev_neg (ev_varI rfl f0)) (ea_cons (ev_neg (ev_varI rfl f1)) ea_nil)) fun v15 v17 B14 H14 x14 (w14 : Own K B14 M [] H14) h16 h18 => ?_
        replace e12 : some _ = some _ := e12
        cases e12
        exact ⟨v15, v17, _, (x13.trans x14), w14, rfl, h16, h18⟩
      rw [if_neg (by rw [hb10]; exact Bool.false_ne_true)] at e12
      replace e12 : some _ = some _ := e12
      cases e12
      exact ⟨u0, u1, _, x19, w19, rfl, ((rInt).mono x19 f0), ((rInt).mono x19 f1)⟩
    rintro σ25' H20 ⟨v21, v23, B20, x20, w20, rfl, h22, h24⟩
    refine q_asg (n := 2) w20 (ev_gcd (ev_varI rfl h22) (ev_varI rfl h24)) fun v27 B26 H26 x26 (w26 : Own K B26 M [] H26) h28 => ?_
    obtain ⟨t29, e30, hm⟩ := bindS hm
    obtain ⟨t31, e32, hm⟩ := bindS hm
    replace hm : some _ = some _ := hm
    obtain rfl := Option.some.inj hm
    exact q_ret w26 (ev_T2 (ea_cons (ev_div (ev_varI rfl h22) (ev_varI rfl h28) e30) (ea_cons (ev_div (ev_varI rfl h24) (ev_varI rfl h28) e32) ea_nil))) fun v9 B9 H9 x9 w9 h9 => k _ _ _ ((x20.trans x26).trans x9) w9 h9
noncomputable def m_is_less (a0 : (Int × Int)) (a1 : (Int × Int)) : Option Bool :=
  Option.bind (mulI a0.1 a1.2) fun t10 =>
  Option.bind (mulI a1.1 a0.2) fun t12 =>
  some (decide (t10 < t12))
def C_is_less : List Arg → List Cell → Arg → List Cell → Prop := fun as L r L' => ∃ a0 a1 c, as = [⟨(rT2 rInt rInt), a0⟩, ⟨(rT2 rInt rInt), a1⟩] ∧ L = [] ∧ m_is_less a0 a1 = some c ∧ r = ⟨rBool, c⟩ ∧ L' = []
theorem sc_is_less : FnScope ["a", "b"] ["a", "b"] (defScope s_is_less) := ⟨rfl, rfl, rfl, by decide +kernel, rfl, by decide +kernel, by decide +kernel⟩
set_option maxHeartbeats 0 in
theorem ok_is_less (F : FunC K "is_less" s_is_less f fd cc)  : FnOk P w K mg base CX0 1 f fd ["a", "b"] (spV K T C_is_less) := by
  refine F.ok sc_is_less (fun vs H Q E h => ?_) (fun A outer s H vs Q E hr h => ?_)
  · obtain ⟨B, M, L, as, r, L', hT, w, ha, ⟨_, _, _, rfl, _⟩, k⟩ := h
    exact args_len ha
  · skip
    obtain ⟨B, M, L, as, r, L', rfl, w, ha, ⟨a0, a1, c, rfl, rfl, hm, rfl, rfl⟩, k⟩ := h
    obtain ⟨u0, u1, rfl, f0, f1⟩ := args2 ha
    replace f0 : ((rT2 rInt rInt)).is K B u0 a0 := f0
    replace f1 : ((rT2 rInt rInt)).is K B u1 a1 := f1
    unfold m_is_less at hm
    refine ⟨_, (pss_cons (ps_ret (pe_cmpR op_lt (pe_op op_mulX (pe_ix ix_seq (pv 0) pe_int (fun _ _ => rfl)) (pe_ix ix_seq (pv 1) pe_int (fun _ _ => rfl))) (pe_op op_mulX (pe_ix ix_seq (pv 1) pe_int (fun _ _ => rfl)) (pe_ix ix_seq (pv 0) pe_int (fun _ _ => rfl))) (nomark _))) pss_nil), ?_⟩
    rw [show start ["a", "b"] [u0, u1] = ([some u0, some u1] : L2.St) from rfl]
    obtain ⟨t10, e11, hm⟩ := bindS hm
    obtain ⟨t12, e13, hm⟩ := bindS hm
    replace hm : some _ = some _ := hm
    obtain rfl := Option.some.inj hm
    exact q_ret w (ev_lt (ev_mul (ev_fst (ev_var rfl f0)) (ev_snd (ev_var rfl f1)) e11) (ev_mul (ev_fst (ev_var rfl f1)) (ev_snd (ev_var rfl f0)) e13)) fun v9 B9 H9 x9 w9 h9 => k _ _ _ ((Ex.refl _).trans x9) w9 h9
noncomputable def m_is_chance (a0 : (Int × Int)) : Option Bool :=
  Option.bind ((if (!decide ((2 : Int) = (2 : Int))) = true then (some (true)) else (Option.bind ((if (decide (a0.2 < (1 : Int))) = true then (some (true)) else (Option.bind (m_ratio a0.1 a0.2) fun t10 => some ((!decide (t10 = a0)))))) fun t12 => some (t12)))) fun t15 =>
  if t15 = true then
    some false
  else
    Option.bind (m_is_less a0 (((0 : Int), (1 : Int)))) fun t21 =>
    Option.bind ((if (!t21) = true then (Option.bind (m_is_less (((1 : Int), (1 : Int))) a0) fun t23 => some ((!t23))) else (some (false)))) fun t25 =>
    some t25
def C_is_chance : List Arg → List Cell → Arg → List Cell → Prop := fun as L r L' => ∃ a0 c, as = [⟨(rT2 rInt rInt), a0⟩] ∧ L = [] ∧ m_is_chance a0 = some c ∧ r = ⟨rBool, c⟩ ∧ L' = []
theorem sc_is_chance : FnScope ["x"] ["x"] (defScope s_is_chance) := ⟨rfl, rfl, rfl, by decide +kernel, rfl, by decide +kernel, by decide +kernel⟩
set_option maxHeartbeats 0 in
theorem ok_is_chance (F : FunC K "is_chance" s_is_chance f fd cc) (c_ratio : Cl P w K mg base 1 "ratio" (spV K T C_ratio) []) (c_is_less : Cl P w K mg base 1 "is_less" (spV K T C_is_less) []) (g_ZERO : GV K mg "ZERO" (rT2 rInt rInt) (((0 : Int), (1 : Int)))) (g_ONE : GV K mg "ONE" (rT2 rInt rInt) (((1 : Int), (1 : Int)))) (z_len : mg "len" = none) : FnOk P w K mg base CX0 2 f fd ["x"] (spV K T C_is_chance) := by
  obtain ⟨u_ZERO, v_ZERO, m_ZERO, rv_ZERO, i_ZERO⟩ := g_ZERO
  obtain ⟨u_ONE, v_ONE, m_ONE, rv_ONE, i_ONE⟩ := g_ONE
  refine F.ok sc_is_chance (fun vs H Q E h => ?_) (fun A outer s H vs Q E hr h => ?_)
  · obtain ⟨B, M, L, as, r, L', hT, w, ha, ⟨_, _, rfl, _⟩, k⟩ := h
    exact args_len ha
  · skip
    obtain ⟨B, M, L, as, r, L', rfl, w, ha, ⟨a0, c, rfl, rfl, hm, rfl, rfl⟩, k⟩ := h
    obtain ⟨u0, rfl, f0⟩ := args1 ha
    replace f0 : ((rT2 rInt rInt)).is K B u0 a0 := f0
    have hu := room_hu hr
    unfold m_is_chance at hm
    refine ⟨_, (pss_cons (ps_if (PW.pt (pw_or (pt_cmpR op_ne (pe_callB call_len_seq rfl z_len bt_len (pa_cons (pv 0) pa_nil)) pe_int (nomark _)) (pw_or (pt_cmpR op_lt (pe_ix ix_seq (pv 0) pe_int (fun _ _ => rfl)) pe_int (nomark _)) (pw_or1 (pt_cmpR (op_neD hu) (pe_c c_ratio hr (by omega) rfl (pa_cons (pe_ix ix_seq (pv 0) pe_int (fun _ _ => rfl)) (pa_cons (pe_ix ix_seq (pv 0) pe_int (fun _ _ => rfl)) pa_nil))) (pv 0) (nomark _)))))) (pss_cons (ps_ret pe_bl) pss_nil) pss_nil) (pss_cons (ps_ret (pe_and (pe_not (pe_c c_is_less hr (by omega) rfl (pa_cons (pv 0) (pa_cons (pe_glob rfl m_ZERO rv_ZERO) pa_nil)))) (pe_one (pe_not (pe_c c_is_less hr (by omega) rfl (pa_cons (pe_glob rfl m_ONE rv_ONE) (pa_cons (pv 0) pa_nil))))))) pss_nil)), ?_⟩
    rw [show start ["x"] [u0] = ([some u0] : L2.St) from rfl]
    obtain ⟨t15, e16, hm⟩ := bindS hm
    refine q_if w (et_or' (d := t15) (et_test (ev_neI (ev_lenT2 (ev_var rfl f0)) (ev_int (i := 2)))) (fun hb17 => by rw [if_neg (by rw [hb17]; exact Bool.false_ne_true)] at e16; obtain ⟨t12, e13, e16⟩ := bindS e16; obtain rfl := Option.some.inj e16; exact (et_or' (d := t12) (et_test (ev_lt (ev_snd (ev_var rfl f0)) (ev_int (i := 1)))) (fun hb14 => by rw [if_neg (by rw [hb14]; exact Bool.false_ne_true)] at e13; obtain ⟨t10, e11, e13⟩ := bindS e13; obtain rfl := Option.some.inj e13; exact (et_test (ev_neT (dr_T2 dr_int dr_int) (by decide) (ev_call (ea_cons (ev_fst (ev_var rfl f0)) (ea_cons (ev_snd (ev_var rfl f0)) ea_nil)) ⟨_, _, _, rfl, rfl, e11, rfl, rfl⟩) (ev_var rfl f0)))) (fun hb14 => by rw [if_pos hb14] at e13; obtain rfl := Option.some.inj e13; exact ⟨rfl, rfl⟩))) (fun hb17 => by rw [if_pos hb17] at e16; obtain rfl := Option.some.inj e16; exact ⟨rfl, rfl⟩)) (fun hb18 B19 H19 x19 (w19 : Own K B19 M [] H19) => ?_) (fun hb18 B20 H20 x20 (w20 : Own K B20 M [] H20) => ?_)
    · skip
      rw [if_pos hb18] at hm
      replace hm : some _ = some _ := hm
      obtain rfl := Option.some.inj hm
      exact q_ret w19 (ev_bl (b := false)) fun v9 B9 H9 x9 w9 h9 => k _ _ _ (x19.trans x9) w9 h9
    rw [if_neg (by rw [hb18]; exact Bool.false_ne_true)] at hm
    obtain ⟨t21, e22, hm⟩ := bindS hm
    obtain ⟨t25, e26, hm⟩ := bindS hm
    replace hm : some _ = some _ := hm
    obtain rfl := Option.some.inj hm
    exact q_ret w20 (ev_andV (d := t25) (ev_notV (ev_call (ea_cons (ev_var rfl (((rT2 rInt rInt)).mono x20 f0)) (ea_cons (ev_k i_ZERO) ea_nil)) ⟨_, _, _, rfl, rfl, e22, rfl, rfl⟩)) (fun hb27 => by rw [if_pos hb27] at e26; obtain ⟨t23, e24, e26⟩ := bindS e26; obtain rfl := Option.some.inj e26; exact (ev_notV (ev_call (ea_cons (ev_k i_ONE) (ea_cons (ev_var rfl (((rT2 rInt rInt)).mono x20 f0)) ea_nil)) ⟨_, _, _, rfl, rfl, e24, rfl, rfl⟩))) (fun hb27 => by rw [if_neg (by rw [hb27]; exact Bool.false_ne_true)] at e26; obtain rfl := Option.some.inj e26; exact ⟨rfl, rfl⟩)) fun v9 B9 H9 x9 w9 h9 => k _ _ _ (x20.trans x9) w9 h9
noncomputable def m_parts_of (a0 : PyData) : Option (List Int) :=
  Option.bind (ixD a0 ((0 : Int))) fun t10 =>
  Option.bind (asS t10) fun t12 =>
  if (decide (t12 = (Str.ofString "in"))) = true then
    some ([] : List Int)
  else
    Option.bind (ixD a0 ((0 : Int))) fun t17 =>
    Option.bind (asS t17) fun t19 =>
    if (decide (t19 ∈ [(Str.ofString "not"), (Str.ofString "and")])) = true then
      Option.bind (asT a0) fun t23 =>
      Option.bind (asIs ((cutL t23 (some ((1 : Int))) none))) fun t25 =>
      some t25
    else
      Option.bind (ixD a0 ((0 : Int))) fun t28 =>
      Option.bind (asS t28) fun t30 =>
      if (decide (t30 = (Str.ofString "within"))) = true then
        Option.bind (asT a0) fun t34 =>
        Option.bind (asIs ((cutL t34 (some ((4 : Int))) (some ((6 : Int)))))) fun t36 =>
        some t36
      else
        Option.bind (asT a0) fun t39 =>
        Option.bind (asIs ((cutL t39 (some ((4 : Int))) none))) fun t41 =>
        some t41
def C_parts_of : List Arg → List Cell → Arg → List Cell → Prop := fun as L r L' => ∃ a0 c, as = [⟨rDat, a0⟩] ∧ L = [] ∧ m_parts_of a0 = some c ∧ r = ⟨(rTup rInt), c⟩ ∧ L' = []
theorem sc_parts_of : FnScope ["line"] ["line"] (defScope s_parts_of) := ⟨rfl, rfl, rfl, by decide +kernel, rfl, by decide +kernel, by decide +kernel⟩
set_option maxHeartbeats 0 in
theorem ok_parts_of (F : FunC K "parts_of" s_parts_of f fd cc)  : FnOk P w K mg base CX0 1 f fd ["line"] (spV K T C_parts_of) := by
  refine F.ok sc_parts_of (fun vs H Q E h => ?_) (fun A outer s H vs Q E hr h => ?_)
  · obtain ⟨B, M, L, as, r, L', hT, w, ha, ⟨_, _, rfl, _⟩, k⟩ := h
    exact args_len ha
  · skip
    obtain ⟨B, M, L, as, r, L', rfl, w, ha, ⟨a0, c, rfl, rfl, hm, rfl, rfl⟩, k⟩ := h
    obtain ⟨u0, rfl, f0⟩ := args1 ha
    replace f0 : (rDat).is K B u0 a0 := f0
    unfold m_parts_of at hm
    refine ⟨_, (pss_cons (ps_if (pt_cmpR op_eq (pe_ix ix_seq (pv 0) pe_int (fun _ _ => rfl)) pe_str (nomark _)) (pss_cons (ps_ret (pe_tup pa_nil)) pss_nil) pss_nil) (pss_cons (ps_if (pt_cmpR op_in_seq (pe_ix ix_seq (pv 0) pe_int (fun _ _ => rfl)) (pe_tup (pa_cons pe_str (pa_cons pe_str pa_nil))) rfl) (pss_cons (ps_ret (pe_slice sl_tupA (pv 0) (po_some pe_int) po_none)) pss_nil) pss_nil) (pss_cons (ps_if (pt_cmpR op_eq (pe_ix ix_seq (pv 0) pe_int (fun _ _ => rfl)) pe_str (nomark _)) (pss_cons (ps_ret (pe_slice sl_tupA (pv 0) (po_some pe_int) (po_some pe_int))) pss_nil) pss_nil) (pss_cons (ps_ret (pe_slice sl_tupA (pv 0) (po_some pe_int) po_none)) pss_nil)))), ?_⟩
    rw [show start ["line"] [u0] = ([some u0] : L2.St) from rfl]
    obtain ⟨t10, e11, hm⟩ := bindS hm
    obtain ⟨t12, e13, hm⟩ := bindS hm
    refine q_if w (et_test (ev_eqS (ev_asS (ev_ixD (ev_var rfl f0) (ev_int (i := 0)) e11) e13) (ev_str (x := (Str.ofString "in"))))) (fun hb14 B15 H15 x15 (w15 : Own K B15 M [] H15) => ?_) (fun hb14 B16 H16 x16 (w16 : Own K B16 M [] H16) => ?_)
    · skip
      rw [if_pos hb14] at hm
      replace hm : some _ = some _ := hm
      obtain rfl := Option.some.inj hm
      exact q_ret w15 (ev_tup (r := rInt) ([] : List Int) ea_nil) fun v9 B9 H9 x9 w9 h9 => k _ _ _ (x15.trans x9) w9 h9
    rw [if_neg (by rw [hb14]; exact Bool.false_ne_true)] at hm
    obtain ⟨t17, e18, hm⟩ := bindS hm
    obtain ⟨t19, e20, hm⟩ := bindS hm
    refine q_if w16 (et_test (ev_inS (ev_asS (ev_ixD (ev_var rfl ((rDat).mono x16 f0)) (ev_int (i := 0)) e18) e20) (ev_seqT (ev_tup (r := rStr) [(Str.ofString "not"), (Str.ofString "and")] (ea_cons (ev_str (x := (Str.ofString "not"))) (ea_cons (ev_str (x := (Str.ofString "and"))) ea_nil)))))) (fun hb21 B22 H22 x22 (w22 : Own K B22 M [] H22) => ?_) (fun hb21 B27 H27 x27 (w27 : Own K B27 M [] H27) => ?_)
    · skip
      rw [if_pos hb21] at hm
      obtain ⟨t23, e24, hm⟩ := bindS hm
      obtain ⟨t25, e26, hm⟩ := bindS hm
      replace hm : some _ = some _ := hm
      obtain rfl := Option.some.inj hm
      exact q_ret w22 (ev_asIs (ev_slT (ev_asT (ev_var rfl ((rDat).mono (x16.trans x22) f0)) e24) (eo_some (ev_int (i := 1))) eo_none) e26) fun v9 B9 H9 x9 w9 h9 => k _ _ _ ((x16.trans x22).trans x9) w9 h9
    rw [if_neg (by rw [hb21]; exact Bool.false_ne_true)] at hm
    obtain ⟨t28, e29, hm⟩ := bindS hm
    obtain ⟨t30, e31, hm⟩ := bindS hm
    refine q_if w27 (et_test (ev_eqS (ev_asS (ev_ixD (ev_var rfl ((rDat).mono (x16.trans x27) f0)) (ev_int (i := 0)) e29) e31) (ev_str (x := (Str.ofString "within"))))) (fun hb32 B33 H33 x33 (w33 : Own K B33 M [] H33) => ?_) (fun hb32 B38 H38 x38 (w38 : Own K B38 M [] H38) => ?_)
    · skip
      rw [if_pos hb32] at hm
      obtain ⟨t34, e35, hm⟩ := bindS hm
      obtain ⟨t36, e37, hm⟩ := bindS hm
      replace hm : some _ = some _ := hm
      obtain rfl := Option.some.inj hm
      exact q_ret w33 (ev_asIs (ev_slT (ev_asT (ev_var rfl ((rDat).mono ((x16.trans x27).trans x33) f0)) e35) (eo_some (ev_int (i := 4))) (eo_some (ev_int (i := 6)))) e37) fun v9 B9 H9 x9 w9 h9 => k _ _ _ (((x16.trans x27).trans x33).trans x9) w9 h9
    rw [if_neg (by rw [hb32]; exact Bool.false_ne_true)] at hm
    obtain ⟨t39, e40, hm⟩ := bindS hm
    obtain ⟨t41, e42, hm⟩ := bindS hm
    replace hm : some _ = some _ := hm
    obtain rfl := Option.some.inj hm
    exact q_ret w38 (ev_asIs (ev_slT (ev_asT (ev_var rfl ((rDat).mono ((x16.trans x27).trans x38) f0)) e40) (eo_some (ev_int (i := 4))) eo_none) e42) fun v9 B9 H9 x9 w9 h9 => k _ _ _ (((x16.trans x27).trans x38).trans x9) w9 h9
noncomputable def m_fine_line (a0 : (List (List (Int × (List (Int × Int)))))) (a1 : Int) (a2 : PyData) : Option Bool :=
  Option.bind (ixD a2 ((0 : Int))) fun t10 =>
  Option.bind (asS t10) fun t12 =>
  Option.bind ((if (!(lookI tb_MEMBERS t12).isSome) = true then (some (true)) else (Option.bind (lenD a2) fun t14 => Option.bind (ixD a2 ((0 : Int))) fun t16 => Option.bind (asS t16) fun t18 => Option.bind (lookI tb_MEMBERS t18) fun t20 => some ((!decide (t14 = t20)))))) fun t22 =>
  if t22 = true then
    some false
  else
    Option.bind (ixD a2 ((0 : Int))) fun t28 =>
    Option.bind (asS t28) fun t30 =>
    if (decide (t30 = (Str.ofString "in"))) = true then
      Option.bind (ixD a2 ((1 : Int))) fun t34 =>
      Option.bind (asT t34) fun t36 =>
      Option.bind (asIs t36) fun t38 =>
      Option.bind (allM (fun (x50 : Int) => ( some ((decide ((0 : Int) ≤ x50) && decide (x50 < (a0.length : Int)))))) t38) fun t56 =>
      if (!t56) = true then
        some false
      else
        Option.bind (small62 (((t38.length : Int) - (1 : Int)))) fun t67 =>
        Option.bind (allM (fun (x76 : Int) => (Option.bind (ixL t38 x76) fun t82 => Option.bind (ixL t38 ((x76 + (1 : Int)))) fun t84 => some ((decide (t82 < t84))))) ((rng 0 (((t38.length : Int) - (1 : Int)))))) fun t86 =>
        some t86
    else
      Option.bind (ixD a2 ((0 : Int))) fun t95 =>
      Option.bind (asS t95) fun t97 =>
      Option.bind ((if (decide (t97 ∈ [(Str.ofString "next"), (Str.ofString "until"), (Str.ofString "within")])) = true then (Option.bind (ixD a2 ((3 : Int))) fun t99 => Option.bind (asQ t99) fun t101 => Option.bind (m_is_chance t101) fun t103 => some ((!t103))) else (some (false)))) fun t105 =>
      if t105 = true then
        some false
      else
        Option.bind (ixD a2 ((0 : Int))) fun t111 =>
        Option.bind (asS t111) fun t113 =>
        Option.bind ((if (decide (t113 = (Str.ofString "within"))) = true then (Option.bind (ixD a2 ((6 : Int))) fun t115 => Option.bind (asI t115) fun t117 => some ((!(decide ((0 : Int) ≤ t117) && decide (t117 ≤ (30 : Int)))))) else (some (false)))) fun t119 =>
        if t119 = true then
          some false
        else
          Option.bind (m_parts_of a2) fun t125 =>
          Option.bind (allM (fun (x134 : Int) => ( some ((decide ((0 : Int) ≤ x134) && decide (x134 < a1))))) t125) fun t140 =>
          some t140
def C_fine_line : List Arg → List Cell → Arg → List Cell → Prop := fun as L r L' => ∃ a0 a1 a2 c, as = [⟨(rTup (rTup (rT2 rInt (rTup (rT2 rInt rInt))))), a0⟩, ⟨rInt, a1⟩, ⟨rDat, a2⟩] ∧ L = [] ∧ m_fine_line a0 a1 a2 = some c ∧ r = ⟨rBool, c⟩ ∧ L' = []
theorem sc_fine_line : FnScope ["system", "number", "line", "states"] ["system", "number", "line"] (defScope s_fine_line) := ⟨rfl, rfl, rfl, by decide +kernel, rfl, by decide +kernel, by decide +kernel⟩
set_option maxHeartbeats 0 in
theorem ok_fine_line (F : FunC K "fine_line" s_fine_line f fd cc) (c_is_chance : Cl P w K mg base 2 "is_chance" (spV K T C_is_chance) []) (c_parts_of : Cl P w K mg base 1 "parts_of" (spV K T C_parts_of) []) (g_MEMBERS : GD K w mg "MEMBERS" tb_MEMBERS) (g_MOST_STEPS : GV K mg "MOST_STEPS" rInt ((30 : Int))) (z_len : mg "len" = none) (z_all : mg "all" = none) (z_range : mg "range" = none) (tb : ∃ P0, GxR.TabB base mg cc P0 ∧ P0 ∈ T) : FnOk P w K mg base CX0 3 f fd ["system", "number", "line"] (spV K T C_fine_line) := by
  obtain ⟨a_MEMBERS, es_MEMBERS, n_MEMBERS, m_MEMBERS, D_MEMBERS, h0_MEMBERS, h1_MEMBERS⟩ := g_MEMBERS
  obtain ⟨u_MOST_STEPS, v_MOST_STEPS, m_MOST_STEPS, rv_MOST_STEPS, i_MOST_STEPS⟩ := g_MOST_STEPS
  obtain ⟨P0, tb, hP0⟩ := tb
  refine F.ok sc_fine_line (fun vs H Q E h => ?_) (fun A outer s H vs Q E hr h => ?_)
  · obtain ⟨B, M, L, as, r, L', hT, w, ha, ⟨_, _, _, _, rfl, _⟩, k⟩ := h
    exact args_len ha
  · skip
    obtain ⟨B, M, L, as, r, L', rfl, w, ha, ⟨a0, a1, a2, c, rfl, rfl, hm, rfl, rfl⟩, k⟩ := h
    obtain ⟨u0, u1, u2, rfl, f0, f1, f2⟩ := args3 ha
    replace f0 : ((rTup (rTup (rT2 rInt (rTup (rT2 rInt rInt)))))).is K B u0 a0 := f0
    replace f1 : (rInt).is K B u1 a1 := f1
    replace f2 : (rDat).is K B u2 a2 := f2
    unfold m_fine_line at hm
    refine ⟨_, (pss_cons (ps_if (PW.pt (pw_or (pt_cmpR (op_notIn_kd D_MEMBERS) (pe_ix ix_seq (pv 2) pe_int (fun _ _ => rfl)) (pe_glob rfl m_MEMBERS (show RelV (.ref a_MEMBERS) (.ref a_MEMBERS) from rfl)) rfl) (pw_or1 (pt_cmpR op_ne (pe_callB call_len_seq rfl z_len bt_len (pa_cons (pv 2) pa_nil)) (pe_ix ix_kdict (pe_glob rfl m_MEMBERS (show RelV (.ref a_MEMBERS) (.ref a_MEMBERS) from rfl)) (pe_ix ix_seq (pv 2) pe_int (fun _ _ => rfl)) (fun _ _ => rfl)) (nomark _))))) (pss_cons (ps_ret pe_bl) pss_nil) pss_nil) (pss_cons (ps_if (pt_cmpR op_eq (pe_ix ix_seq (pv 2) pe_int (fun _ _ => rfl)) pe_str (nomark _)) (pss_cons (ps_set (i := 3) sc_fine_line.nd rfl (by first | exact Or.inl rfl | exact Or.inr rfl) (pe_ix ix_seq (pv 2) pe_int (fun _ _ => rfl))) (pss_cons (ps_if (pt_not (pt_val (L3G.pe_allG (NG := ["state", "system"]) (js := [none, some 0]) (Room.mono hr (j := 2) (by omega)) rfl z_all bt_all tb rfl (L3G.gs_by (sc := defScope s_fine_line) (by decide +kernel)) (pi_tup (pv 3)) (show L3G.capB ["system", "number", "line", "states"] ["state", "system"] _ _ = true by decide +kernel) (fun _ => (pg_name (i := 0) (show List.Nodup (["state", "system"] : List Str) by decide +kernel) rfl (by first | exact Or.inl rfl | exact Or.inr rfl))) (fun _ hr => (pe_chain op_le op_lt pe_int (pv 0) (pe_callB call_len_seq rfl z_len bt_len (pa_cons (pv 1) pa_nil)))) (fun _ => rfl)))) (pss_cons (ps_ret pe_bl) pss_nil) pss_nil) (pss_cons (ps_ret (L3G.pe_allG (NG := ["k", "states"]) (js := [none, some 3]) (Room.mono hr (j := 2) (by omega)) rfl z_all bt_all tb rfl (L3G.gs_by (sc := defScope s_fine_line) (by decide +kernel)) (pi_range1 rfl z_range (pa_cons (pe_op op_sub (pe_callB call_len_seq rfl z_len bt_len (pa_cons (pv 3) pa_nil)) pe_int) pa_nil)) (show L3G.capB ["system", "number", "line", "states"] ["k", "states"] _ _ = true by decide +kernel) (fun _ => (pg_name (i := 0) (show List.Nodup (["k", "states"] : List Str) by decide +kernel) rfl (by first | exact Or.inl rfl | exact Or.inr rfl))) (fun _ hr => (pe_cmpR op_lt (pe_ix ix_seq (pv 1) (pv 0) (fun _ _ => rfl)) (pe_ix ix_seq (pv 1) (pe_op op_add (pv 0) pe_int) (fun _ _ => rfl)) (nomark _))) (fun _ => rfl))) pss_nil))) pss_nil) (pss_cons (ps_if (PW.pt (pw_and (pt_cmpR op_in_seq (pe_ix ix_seq (pv 2) pe_int (fun _ _ => rfl)) (pe_tup (pa_cons pe_str (pa_cons pe_str (pa_cons pe_str pa_nil)))) rfl) (pw_and1 (pt_not (pt_val (pe_c c_is_chance hr (by omega) rfl (pa_cons (pe_ix ix_seq (pv 2) pe_int (fun _ _ => rfl)) pa_nil))))))) (pss_cons (ps_ret pe_bl) pss_nil) pss_nil) (pss_cons (ps_if (PW.pt (pw_and (pt_cmpR op_eq (pe_ix ix_seq (pv 2) pe_int (fun _ _ => rfl)) pe_str (nomark _)) (pw_and1 (pt_not (pt_chain op_le op_le pe_int (pe_ix ix_seq (pv 2) pe_int (fun _ _ => rfl)) (pe_glob rfl m_MOST_STEPS rv_MOST_STEPS)))))) (pss_cons (ps_ret pe_bl) pss_nil) pss_nil) (pss_cons (ps_ret (L3G.pe_allG (NG := ["part", "number"]) (js := [none, some 1]) (Room.mono hr (j := 2) (by omega)) rfl z_all bt_all tb rfl (L3G.gs_by (sc := defScope s_fine_line) (by decide +kernel)) (pi_tup (pe_c c_parts_of hr (by omega) rfl (pa_cons (pv 2) pa_nil))) (show L3G.capB ["system", "number", "line", "states"] ["part", "number"] _ _ = true by decide +kernel) (fun _ => (pg_name (i := 0) (show List.Nodup (["part", "number"] : List Str) by decide +kernel) rfl (by first | exact Or.inl rfl | exact Or.inr rfl))) (fun _ hr => (pe_chain op_le op_lt pe_int (pv 0) (pv 1))) (fun _ => rfl))) pss_nil))))), ?_⟩
    rw [show start ["system", "number", "line", "states"] [u0, u1, u2] = ([some u0, some u1, some u2, none] : L2.St) from rfl]
    obtain ⟨t10, e11, hm⟩ := bindS hm
    obtain ⟨t12, e13, hm⟩ := bindS hm
    obtain ⟨t22, e23, hm⟩ := bindS hm
    refine q_if w (et_or' (d := t22) (et_test (ev_niG h0_MEMBERS h1_MEMBERS (ev_asS (ev_ixD (ev_var rfl f2) (ev_int (i := 0)) e11) e13) (ev_k (r := rRef) fun _ => rfl))) (fun hb24 => by rw [if_neg (by rw [hb24]; exact Bool.false_ne_true)] at e23; obtain ⟨t14, e15, e23⟩ := bindS e23; obtain ⟨t16, e17, e23⟩ := bindS e23; obtain ⟨t18, e19, e23⟩ := bindS e23; obtain ⟨t20, e21, e23⟩ := bindS e23; obtain rfl := Option.some.inj e23; exact (et_test (ev_neI (ev_lenD (ev_var rfl f2) e15) (ev_ixG D_MEMBERS h1_MEMBERS (ev_k (r := rRef) fun _ => rfl) (ev_asS (ev_ixD (ev_var rfl f2) (ev_int (i := 0)) e17) e19) e21)))) (fun hb24 => by rw [if_pos hb24] at e23; obtain rfl := Option.some.inj e23; exact ⟨rfl, rfl⟩)) (fun hb25 B26 H26 x26 (w26 : Own K B26 M [] H26) => ?_) (fun hb25 B27 H27 x27 (w27 : Own K B27 M [] H27) => ?_)
    · skip
      rw [if_pos hb25] at hm
      replace hm : some _ = some _ := hm
      obtain rfl := Option.some.inj hm
      exact q_ret w26 (ev_bl (b := false)) fun v9 B9 H9 x9 w9 h9 => k _ _ _ (x26.trans x9) w9 h9
    rw [if_neg (by rw [hb25]; exact Bool.false_ne_true)] at hm
    obtain ⟨t28, e29, hm⟩ := bindS hm
    obtain ⟨t30, e31, hm⟩ := bindS hm
    refine q_if w27 (et_test (ev_eqS (ev_asS (ev_ixD (ev_var rfl ((rDat).mono x27 f2)) (ev_int (i := 0)) e29) e31) (ev_str (x := (Str.ofString "in"))))) (fun hb32 B33 H33 x33 (w33 : Own K B33 M [] H33) => ?_) (fun hb32 B94 H94 x94 (w94 : Own K B94 M [] H94) => ?_)
    · skip
      rw [if_pos hb32] at hm
      obtain ⟨t34, e35, hm⟩ := bindS hm
      obtain ⟨t36, e37, hm⟩ := bindS hm
      obtain ⟨t38, e39, hm⟩ := bindS hm
      refine q_asg (n := 3) w33 (ev_asIs (ev_asT (ev_ixD (ev_var rfl ((rDat).mono (x27.trans x33) f2)) (ev_int (i := 1)) e35) e37) e39) fun v41 B40 H40 x40 (w40 : Own K B40 M [] H40) h42 => ?_
      obtain ⟨t56, e57, hm⟩ := bindS hm
      refine q_if w40 (et_not (et_B (ev_allG hP0 (ei_tup (ev_var rfl h42)) _ (fun σ55 => ∃ o43, σ55 = [o43, some u0]) ⟨none, rfl⟩ e57 (by rintro _ x50 c51 v48 B44 H45 σ55 hb52 x46 ⟨o43, rfl⟩ w47 h49 Q53 q54; replace w47 : Own K B44 M [] H45 := w47; refine g_name ?_; obtain rfl := Option.some.inj hb52; exact (ev_ch_le_lt (ev_int (i := 0)) (ev_varI rfl h49) (ev_len (ev_seqT (ev_var rfl (((rTup (rTup (rT2 rInt (rTup (rT2 rInt rInt)))))).mono (((x27.trans x33).trans x40).trans x46) f0))))) B44 H45 (Ex.refl _) w47 _ fun v58 B59 H60 x61 w62 h63 => by rw [show v58 = V.bl _ from h63]; exact q54 _ B59 H60 ⟨_, rfl⟩ x61 w62)))) (fun hb64 B65 H65 x65 (w65 : Own K B65 M [] H65) => ?_) (fun hb64 B66 H66 x66 (w66 : Own K B66 M [] H66) => ?_)
      · skip
        rw [if_pos hb64] at hm
        replace hm : some _ = some _ := hm
        obtain rfl := Option.some.inj hm
        exact q_ret w65 (ev_bl (b := false)) fun v9 B9 H9 x9 w9 h9 => k _ _ _ ((((x27.trans x33).trans x40).trans x65).trans x9) w9 h9
      rw [if_neg (by rw [hb64]; exact Bool.false_ne_true)] at hm
      obtain ⟨t67, e68, hm⟩ := bindS hm
      obtain ⟨t86, e87, hm⟩ := bindS hm
      replace hm : some _ = some _ := hm
      obtain rfl := Option.some.inj hm
      exact q_ret w66 (ev_allG hP0 (ei_rng1 (ea_cons (ev_sub (ev_len (ev_seqT (ev_var rfl (((rTup rInt)).mono x66 h42)))) (ev_int (i := 1))) ea_nil) e68) _ (fun σ81 => ∃ o69, σ81 = [o69, some v41]) ⟨none, rfl⟩ e87 (by rintro _ x76 c77 v74 B70 H71 σ81 hb78 x72 ⟨o69, rfl⟩ w73 h75 Q79 q80; replace w73 : Own K B70 M [] H71 := w73; refine g_name ?_; obtain ⟨t82, e83, hb78⟩ := bindS hb78; obtain ⟨t84, e85, hb78⟩ := bindS hb78; obtain rfl := Option.some.inj hb78; exact (ev_lt (ev_ix (ev_seqT (ev_var rfl (((rTup rInt)).mono (x66.trans x72) h42))) (ev_varI rfl h75) e83) (ev_ix (ev_seqT (ev_var rfl (((rTup rInt)).mono (x66.trans x72) h42))) (ev_add (ev_varI rfl h75) (ev_int (i := 1))) e85)) B70 H71 (Ex.refl _) w73 _ fun v88 B89 H90 x91 w92 h93 => by rw [show v88 = V.bl _ from h93]; exact q80 _ B89 H90 ⟨_, rfl⟩ x91 w92)) fun v9 B9 H9 x9 w9 h9 => k _ _ _ ((((x27.trans x33).trans x40).trans x66).trans x9) w9 h9
    rw [if_neg (by rw [hb32]; exact Bool.false_ne_true)] at hm
    obtain ⟨t95, e96, hm⟩ := bindS hm
    obtain ⟨t97, e98, hm⟩ := bindS hm
    obtain ⟨t105, e106, hm⟩ := bindS hm
    refine q_if w94 (et_and' (d := t105) (et_test (ev_inS (ev_asS (ev_ixD (ev_var rfl ((rDat).mono (x27.trans x94) f2)) (ev_int (i := 0)) e96) e98) (ev_seqT (ev_tup (r := rStr) [(Str.ofString "next"), (Str.ofString "until"), (Str.ofString "within")] (ea_cons (ev_str (x := (Str.ofString "next"))) (ea_cons (ev_str (x := (Str.ofString "until"))) (ea_cons (ev_str (x := (Str.ofString "within"))) ea_nil))))))) (fun hb107 => by rw [if_pos hb107] at e106; obtain ⟨t99, e100, e106⟩ := bindS e106; obtain ⟨t101, e102, e106⟩ := bindS e106; obtain ⟨t103, e104, e106⟩ := bindS e106; obtain rfl := Option.some.inj e106; exact (et_not (et_B (ev_call (ea_cons (ev_asQ (ev_ixD (ev_var rfl ((rDat).mono (x27.trans x94) f2)) (ev_int (i := 3)) e100) e102) ea_nil) ⟨_, _, rfl, rfl, e104, rfl, rfl⟩)))) (fun hb107 => by rw [if_neg (by rw [hb107]; exact Bool.false_ne_true)] at e106; obtain rfl := Option.some.inj e106; exact ⟨rfl, rfl⟩)) (fun hb108 B109 H109 x109 (w109 : Own K B109 M [] H109) => ?_) (fun hb108 B110 H110 x110 (w110 : Own K B110 M [] H110) => ?_)
    · skip
      rw [if_pos hb108] at hm
      replace hm : some _ = some _ := hm
      obtain rfl := Option.some.inj hm
      exact q_ret w109 (ev_bl (b := false)) fun v9 B9 H9 x9 w9 h9 => k _ _ _ (((x27.trans x94).trans x109).trans x9) w9 h9
    rw [if_neg (by rw [hb108]; exact Bool.false_ne_true)] at hm
    obtain ⟨t111, e112, hm⟩ := bindS hm
    obtain ⟨t113, e114, hm⟩ := bindS hm
    obtain ⟨t119, e120, hm⟩ := bindS hm
    refine q_if w110 (et_and' (d := t119) (et_test (ev_eqS (ev_asS (ev_ixD (ev_var rfl ((rDat).mono ((x27.trans x94).trans x110) f2)) (ev_int (i := 0)) e112) e114) (ev_str (x := (Str.ofString "within"))))) (fun hb121 => by rw [if_pos hb121] at e120; obtain ⟨t115, e116, e120⟩ := bindS e120; obtain ⟨t117, e118, e120⟩ := bindS e120; obtain rfl := Option.some.inj e120; exact (et_not (et_test (ev_ch_le_le (ev_int (i := 0)) (ev_asI (ev_ixD (ev_var rfl ((rDat).mono ((x27.trans x94).trans x110) f2)) (ev_int (i := 6)) e116) e118) (ev_k i_MOST_STEPS))))) (fun hb121 => by rw [if_neg (by rw [hb121]; exact Bool.false_ne_true)] at e120; obtain rfl := Option.some.inj e120; exact ⟨rfl, rfl⟩)) (fun hb122 B123 H123 x123 (w123 : Own K B123 M [] H123) => ?_) (fun hb122 B124 H124 x124 (w124 : Own K B124 M [] H124) => ?_)
    · skip
      rw [if_pos hb122] at hm
      replace hm : some _ = some _ := hm
      obtain rfl := Option.some.inj hm
      exact q_ret w123 (ev_bl (b := false)) fun v9 B9 H9 x9 w9 h9 => k _ _ _ ((((x27.trans x94).trans x110).trans x123).trans x9) w9 h9
    rw [if_neg (by rw [hb122]; exact Bool.false_ne_true)] at hm
    obtain ⟨t125, e126, hm⟩ := bindS hm
    obtain ⟨t140, e141, hm⟩ := bindS hm
    replace hm : some _ = some _ := hm
    obtain rfl := Option.some.inj hm
    exact q_ret w124 (ev_allG hP0 (ei_tup (ev_call (ea_cons (ev_var rfl ((rDat).mono (((x27.trans x94).trans x110).trans x124) f2)) ea_nil) ⟨_, _, rfl, rfl, e126, rfl, rfl⟩)) _ (fun σ139 => ∃ o127, σ139 = [o127, some u1]) ⟨none, rfl⟩ e141 (by rintro _ x134 c135 v132 B128 H129 σ139 hb136 x130 ⟨o127, rfl⟩ w131 h133 Q137 q138; replace w131 : Own K B128 M [] H129 := w131; refine g_name ?_; obtain rfl := Option.some.inj hb136; exact (ev_ch_le_lt (ev_int (i := 0)) (ev_varI rfl h133) (ev_varI rfl f1)) B128 H129 (Ex.refl _) w131 _ fun v142 B143 H144 x145 w146 h147 => by rw [show v142 = V.bl _ from h147]; exact q138 _ B143 H144 ⟨_, rfl⟩ x145 w146)) fun v9 B9 H9 x9 w9 h9 => k _ _ _ ((((x27.trans x94).trans x110).trans x124).trans x9) w9 h9
noncomputable def m_is_valid (a0 : (List (List (Int × (List (Int × Int)))))) (a1 : (List PyData)) : Option Bool :=
  if (!(decide ((1 : Int) ≤ (a1.length : Int)) && decide ((a1.length : Int) ≤ (40 : Int)))) = true then
    some false
  else
    Option.bind (allM (fun (x21 : (Int × PyData)) => (Option.bind (m_fine_line a0 x21.1 x21.2) fun t31 => some t31)) ((enumI 0 a1))) fun t33 =>
    some t33
def C_is_valid : List Arg → List Cell → Arg → List Cell → Prop := fun as L r L' => ∃ a0 a1 c, as = [⟨(rTup (rTup (rT2 rInt (rTup (rT2 rInt rInt))))), a0⟩, ⟨(rTup rDat), a1⟩] ∧ L = [] ∧ m_is_valid a0 a1 = some c ∧ r = ⟨rBool, c⟩ ∧ L' = []
theorem sc_is_valid : FnScope ["system", "sentence"] ["system", "sentence"] (defScope s_is_valid) := ⟨rfl, rfl, rfl, by decide +kernel, rfl, by decide +kernel, by decide +kernel⟩
set_option maxHeartbeats 0 in
theorem ok_is_valid (F : FunC K "is_valid" s_is_valid f fd cc) (c_fine_line : Cl P w K mg base 3 "fine_line" (spV K T C_fine_line) []) (g_MOST_LINES : GV K mg "MOST_LINES" rInt ((40 : Int))) (z_len : mg "len" = none) (z_all : mg "all" = none) (z_enumerate : mg "enumerate" = none) (tb : ∃ P0, GxR.TabB base mg cc P0 ∧ P0 ∈ T) : FnOk P w K mg base CX0 5 f fd ["system", "sentence"] (spV K T C_is_valid) := by
  obtain ⟨u_MOST_LINES, v_MOST_LINES, m_MOST_LINES, rv_MOST_LINES, i_MOST_LINES⟩ := g_MOST_LINES
  obtain ⟨P0, tb, hP0⟩ := tb
  refine F.ok sc_is_valid (fun vs H Q E h => ?_) (fun A outer s H vs Q E hr h => ?_)
  · obtain ⟨B, M, L, as, r, L', hT, w, ha, ⟨_, _, _, rfl, _⟩, k⟩ := h
    exact args_len ha
  · skip
    obtain ⟨B, M, L, as, r, L', rfl, w, ha, ⟨a0, a1, c, rfl, rfl, hm, rfl, rfl⟩, k⟩ := h
    obtain ⟨u0, u1, rfl, f0, f1⟩ := args2 ha
    replace f0 : ((rTup (rTup (rT2 rInt (rTup (rT2 rInt rInt)))))).is K B u0 a0 := f0
    replace f1 : ((rTup rDat)).is K B u1 a1 := f1
    unfold m_is_valid at hm
    refine ⟨_, (pss_cons (ps_if (pt_not (pt_chain op_le op_le pe_int (pe_callB call_len_seq rfl z_len bt_len (pa_cons (pv 1) pa_nil)) (pe_glob rfl m_MOST_LINES rv_MOST_LINES))) (pss_cons (ps_ret pe_bl) pss_nil) pss_nil) (pss_cons (ps_ret (L3G.pe_allG (NG := ["number", "line", "system"]) (js := [none, none, some 0]) (Room.mono hr (j := 4) (by omega)) rfl z_all bt_all tb rfl (L3G.gs_by (sc := defScope s_is_valid) (by decide +kernel)) (L3G.pi_enumT rfl z_enumerate (pa_cons (pv 1) pa_nil)) (show L3G.capB ["system", "sentence"] ["number", "line", "system"] _ _ = true by decide +kernel) (fun _ => (pg_tup rfl (pgs_cons (pg_name (i := 0) (show List.Nodup (["number", "line", "system"] : List Str) by decide +kernel) rfl (by first | exact Or.inl rfl | exact Or.inr rfl)) (pgs_cons (pg_name (i := 1) (show List.Nodup (["number", "line", "system"] : List Str) by decide +kernel) rfl (by first | exact Or.inl rfl | exact Or.inr rfl)) pgs_nil)))) (fun _ hr => (pe_c c_fine_line hr (by omega) rfl (pa_cons (pv 2) (pa_cons (pv 0) (pa_cons (pv 1) pa_nil))))) (fun _ => rfl))) pss_nil)), ?_⟩
    rw [show start ["system", "sentence"] [u0, u1] = ([some u0, some u1] : L2.St) from rfl]
    refine q_if w (et_not (et_test (ev_ch_le_le (ev_int (i := 1)) (ev_len (ev_seqT (ev_var rfl f1))) (ev_k i_MOST_LINES)))) (fun hb10 B11 H11 x11 (w11 : Own K B11 M [] H11) => ?_) (fun hb10 B12 H12 x12 (w12 : Own K B12 M [] H12) => ?_)
    · skip
      rw [if_pos hb10] at hm
      replace hm : some _ = some _ := hm
      obtain rfl := Option.some.inj hm
      exact q_ret w11 (ev_bl (b := false)) fun v9 B9 H9 x9 w9 h9 => k _ _ _ (x11.trans x9) w9 h9
    rw [if_neg (by rw [hb10]; exact Bool.false_ne_true)] at hm
    obtain ⟨t33, e34, hm⟩ := bindS hm
    replace hm : some _ = some _ := hm
    obtain rfl := Option.some.inj hm
    exact q_ret w12 (ev_allG hP0 (ei_enumT (ev_var rfl (((rTup rDat)).mono x12 f1))) _ (fun σ26 => ∃ o13 o14, σ26 = [o13, o14, some u0]) ⟨none, none, rfl⟩ e34 (by rintro _ x21 c22 v19 B15 H16 σ26 hb23 x17 ⟨o13, o14, rfl⟩ w18 h20 Q24 q25; replace w18 : Own K B15 M [] H16 := w18; refine g_T2 h20 w18 fun v27 v28 h29 h30 => ?_; refine g_cons ?_; refine g_name ?_; refine g_cons ?_; refine g_name ?_; refine g_nil ?_; obtain ⟨t31, e32, hb23⟩ := bindS hb23; obtain rfl := Option.some.inj hb23; exact (ev_call (ea_cons (ev_var rfl (((rTup (rTup (rT2 rInt (rTup (rT2 rInt rInt)))))).mono (x12.trans x17) f0)) (ea_cons (ev_varI rfl h29) (ea_cons (ev_var rfl h30) ea_nil))) ⟨_, _, _, _, rfl, rfl, e32, rfl, rfl⟩) B15 H16 (Ex.refl _) w18 _ fun v35 B36 H37 x38 w39 h40 => by rw [show v35 = V.bl _ from h40]; exact q25 _ B36 H37 ⟨_, _, rfl⟩ x38 w39)) fun v9 B9 H9 x9 w9 h9 => k _ _ _ (x12.trans x9) w9 h9
noncomputable def m_l_draws (a0 : Int) (a1 : Int) (a2 : Int) : Option (List Int) :=
  Option.bind (if (decide (a0 < (0 : Int))) = true then
    some (((0 : Int) - a0))
  else
    some a0
  ) fun (s14 : Int) =>
  Option.bind (powI ((10 : Int)) ((18 : Int))) fun t27 =>
  if (decide (s14 ≥ t27)) = true then
    Option.bind (small62 a2) fun t31 =>
    Option.bind (foldO (S := (Int × (List Int))) (α := Int) (fun (s33 : (Int × (List Int))) (x34 : Int) => (
      Option.bind (modI s33.1 a1) fun t55 =>
      Option.bind (room s33.2.length) fun t57 =>
      Option.bind (divI s33.1 a1) fun t60 =>
      some ((t60, (s33.2 ++ [t55])))
    )) ((s14, ([] : List Int))) ((rng 0 a2))) fun s65 =>
    some s65.2
  else
    Option.bind (small62 a2) fun t76 =>
    Option.bind (foldO (S := (List Int)) (α := Int) (fun (s78 : (List Int)) (x79 : Int) => (
      Option.bind (mulI ((7 : Int)) x79) fun t99 =>
      Option.bind (mulI (((s14 + t99) + (1 : Int))) ((48271 : Int))) fun t101 =>
      Option.bind (modI t101 ((2147483647 : Int))) fun t103 =>
      Option.bind (mulI t103 ((69621 : Int))) fun t108 =>
      Option.bind (mulI ((31 : Int)) x79) fun t110 =>
      Option.bind (modI ((t108 + t110)) ((2147483629 : Int))) fun t112 =>
      Option.bind (divI t112 ((7 : Int))) fun t117 =>
      Option.bind (modI t117 a1) fun t119 =>
      Option.bind (room s78.length) fun t121 =>
      some ((s78 ++ [t119]))
    )) (([] : List Int)) ((rng 0 a2))) fun s124 =>
    some s124
def C__law_draws : List Arg → List Cell → Arg → List Cell → Prop := fun as L r L' => ∃ a0 a1 a2 c, as = [⟨rInt, a0⟩, ⟨rInt, a1⟩, ⟨rInt, a2⟩] ∧ L = [] ∧ m_l_draws a0 a1 a2 = some c ∧ r = ⟨(rLst rInt), c⟩ ∧ L' = []
theorem sc__law_draws : FnScope ["_law_cell", "_law_modulus", "_law_count", "_law_number", "_law_row", "_law_k", "_law_mixed"] ["_law_cell", "_law_modulus", "_law_count"] (defScope s__law_draws) := ⟨rfl, rfl, rfl, by decide +kernel, rfl, by decide +kernel, by decide +kernel⟩
set_option maxHeartbeats 0 in
theorem ok__law_draws (F : FunC K "_law_draws" s__law_draws f fd cc) (z_range : mg "range" = none) (z_int : mg "int" = none) : FnOk P w K mg base CX0 1 f fd ["_law_cell", "_law_modulus", "_law_count"] (spV K T C__law_draws) := by
  refine F.ok sc__law_draws (fun vs H Q E h => ?_) (fun A outer s H vs Q E hr h => ?_)
  · obtain ⟨B, M, L, as, r, L', hT, w, ha, ⟨_, _, _, _, rfl, _⟩, k⟩ := h
    exact args_len ha
  · skip
    obtain ⟨B, M, L, as, r, L', rfl, w, ha, ⟨a0, a1, a2, c, rfl, rfl, hm, rfl, rfl⟩, k⟩ := h
    obtain ⟨u0, u1, u2, rfl, f0, f1, f2⟩ := args3 ha
    replace f0 : (rInt).is K B u0 a0 := f0
    replace f1 : (rInt).is K B u1 a1 := f1
    replace f2 : (rInt).is K B u2 a2 := f2
    unfold m_l_draws at hm
    refine ⟨_, (pss_cons (ps_set (i := 3) sc__law_draws.nd rfl (by first | exact Or.inl rfl | exact Or.inr rfl) (pv 0)) (Evl.pss_cut (ps_if (pt_cmpR op_lt (pv 3) pe_int (nomark _)) (pss_cons (ps_set (i := 3) sc__law_draws.nd rfl (by first | exact Or.inl rfl | exact Or.inr rfl) (pe_op op_sub pe_int (pv 3))) pss_nil) pss_nil) (pss_cons (ps_set (i := 4) sc__law_draws.nd rfl (by first | exact Or.inl rfl | exact Or.inr rfl) (pe_lst pa_nil)) (pss_cons (ps_if (pt_cmpR op_ge (pv 3) (pe_op op_pow pe_int pe_int) (nomark _)) (pss_cons (ps_for PassesOwn.never rfl (pi_range1 rfl z_range (pa_cons (pv 2) pa_nil)) (pg_name (i := 5) sc__law_draws.nd rfl (by first | exact Or.inl rfl | exact Or.inr rfl)) (pss_cons (ps_expr (pe_bm PySem.F.plainAttrs_list PySem.F.slot_list_append PySem.F.type_list_append mt_append (pv 4) (pa_cons (pe_op op_mod (pe_callTy call_int1 rfl z_int bt_int (pa_cons (pv 3) pa_nil)) (pv 1)) pa_nil))) (pss_cons (ps_set (i := 3) sc__law_draws.nd rfl (by first | exact Or.inl rfl | exact Or.inr rfl) (pe_op op_fdivW (pv 3) (pv 1))) pss_nil))) (pss_cons (ps_ret (pv 4)) pss_nil)) pss_nil) (pss_cons (ps_for PassesOwn.never rfl (pi_range1 rfl z_range (pa_cons (pv 2) pa_nil)) (pg_name (i := 5) sc__law_draws.nd rfl (by first | exact Or.inl rfl | exact Or.inr rfl)) (pss_cons (ps_set (i := 6) sc__law_draws.nd rfl (by first | exact Or.inl rfl | exact Or.inr rfl) (pe_op op_mod (pe_callTy call_int1 rfl z_int bt_int (pa_cons (pe_op op_mulX (pe_op op_add (pe_op op_add (pv 3) (pe_op op_mulX pe_int (pv 5))) pe_int) pe_int) pa_nil)) pe_int)) (pss_cons (ps_set (i := 6) sc__law_draws.nd rfl (by first | exact Or.inl rfl | exact Or.inr rfl) (pe_op op_mod (pe_callTy call_int1 rfl z_int bt_int (pa_cons (pe_op op_add (pe_op op_mulX (pv 6) pe_int) (pe_op op_mulX pe_int (pv 5))) pa_nil)) pe_int)) (pss_cons (ps_expr (pe_bm PySem.F.plainAttrs_list PySem.F.slot_list_append PySem.F.type_list_append mt_append (pv 4) (pa_cons (pe_op op_mod (pe_callTy call_int1 rfl z_int bt_int (pa_cons (pe_op op_fdivW (pv 6) pe_int) pa_nil)) (pv 1)) pa_nil))) pss_nil)))) (pss_cons (ps_ret (pv 4)) pss_nil)))))), ?_⟩
    rw [show start ["_law_cell", "_law_modulus", "_law_count", "_law_number", "_law_row", "_law_k", "_law_mixed"] [u0, u1, u2] = ([some u0, some u1, some u2, none, none, none, none] : L2.St) from rfl]
    refine q_asg (n := 3) w (ev_varI rfl f0) fun v11 B10 H10 x10 (w10 : Own K B10 M [] H10) h12 => ?_
    obtain ⟨s14, e15, hm⟩ := bindS hm
    refine q_cut (fun σ24 H21 => ∃ v22 B21, Ex B10 B21 ∧ Own K B21 M [] H21 ∧ σ24 = [some u0, some u1, some u2, some v22, none, none, none] ∧ (rInt).is K B21 v22 s14) ?_ ?_
    · skip
      refine q_ifc w10 (et_test (ev_lt (ev_varI rfl h12) (ev_int (i := 0)))) (fun hb13 B16 H16 x16 (w16 : Own K B16 M [] H16) => ?_) (fun hb13 B20 H20 x20 (w20 : Own K B20 M [] H20) => ?_)
      · skip
        rw [if_pos hb13] at e15
        refine q_asg (n := 3) w16 (ev_sub (ev_int (i := 0)) (ev_varI rfl h12)) fun v18 B17 H17 x17 (w17 : Own K B17 M [] H17) h19 => ?_
        replace e15 : some _ = some _ := e15
        cases e15
        exact ⟨v18, _, (x16.trans x17), w17, rfl, h19⟩
      rw [if_neg (by rw [hb13]; exact Bool.false_ne_true)] at e15
      replace e15 : some _ = some _ := e15
      cases e15
      exact ⟨v11, _, x20, w20, rfl, ((rInt).mono x20 h12)⟩
    rintro σ24' H21 ⟨v22, B21, x21, w21, rfl, h23⟩
    refine q_asgL (n := 4) w21 (el_lst (r := rInt) ([] : List Int) ea_nil) fun p26 B25 H25 x25 (w25 : Own K B25 M [⟨p26, (cLst rInt), ([] : List Int)⟩] H25) => ?_
    obtain ⟨t27, e28, hm⟩ := bindS hm
    refine q_if w25 (et_test (ev_ge (ev_varI rfl h23) (ev_pow (ev_int (i := 10)) (ev_int (i := 18)) e28))) (fun hb29 B30 H30 x30 (w30 : Own K B30 M [⟨p26, (cLst rInt), ([] : List Int)⟩] H30) => ?_) (fun hb29 B75 H75 x75 (w75 : Own K B75 M [⟨p26, (cLst rInt), ([] : List Int)⟩] H75) => ?_)
    · skip
      rw [if_pos hb29] at hm
      obtain ⟨t31, e32, hm⟩ := bindS hm
      obtain ⟨s65, e37, hm⟩ := bindS hm
      refine q_fold w30 (ei_rng1 (ea_cons (ev_varI rfl f2) ea_nil) e32) _ (fun s33 B38 σ51 => ∃ v52 o54, σ51 = [some u0, some u1, some u2, some v52, some (.ref p26), o54, none] ∧ (rInt).is K B38 v52 s33.1) (fun s33 => [⟨p26, (cLst rInt), s33.2⟩]) ((s14, ([] : List Int))) e37 (fun B9 x9 => ⟨v22, _, rfl, ((rInt).mono x9 ((rInt).mono (x25.trans x30) h23))⟩) rfl ?_ ?_
      · skip
        rintro s33 x34 s74 v44 B38 B39 H40 σ51 hb35 x41 ⟨v52, o54, rfl, h53⟩ x42 w43 h45 N46 K47 hN48
        replace w43 : Own K B39 M [⟨p26, (cLst rInt), s33.2⟩] H40 := w43
        refine g_name ?_
        obtain ⟨t55, e56, hb35⟩ := bindS hb35
        obtain ⟨t57, e58, hb35⟩ := bindS hb35
        refine q_app (n := 0) (m := 4) w43 rfl (ev_mod (ev_intI (ev_varI rfl h53)) (ev_varI rfl f1) e56) rfl ⟨0, _, rfl⟩ e58 fun B59 H59 x59 (w59 : Own K B59 M [⟨p26, (cLst rInt), (s33.2 ++ [t55])⟩] H59) => ?_
        obtain ⟨t60, e61, hb35⟩ := bindS hb35
        refine q_asg (n := 3) w59 (ev_div (ev_varI rfl h53) (ev_varI rfl f1) e61) fun v63 B62 H62 x62 (w62 : Own K B62 M [⟨p26, (cLst rInt), (s33.2 ++ [t55])⟩] H62) h64 => ?_
        replace hb35 : some _ = some _ := hb35
        cases hb35
        exact hN48 _ _ _ (x59.trans x62) w62 ⟨v63, _, rfl, h64⟩
      rintro B66 H67 σ70 x68 w69 ⟨v71, o73, rfl, h72⟩
      replace w69 : Own K B66 M [⟨p26, (cLst rInt), s65.2⟩] H67 := w69
      replace hm : some _ = some _ := hm
      obtain rfl := Option.some.inj hm
      exact q_retC (n := 0) (m := 4) w69 rfl rfl fun v9 B9 x9 w9 h9 => k _ _ _ (((((x10.trans x21).trans x25).trans x30).trans x68).trans x9) w9 h9
    rw [if_neg (by rw [hb29]; exact Bool.false_ne_true)] at hm
    obtain ⟨t76, e77, hm⟩ := bindS hm
    obtain ⟨s124, e82, hm⟩ := bindS hm
    refine q_fold w75 (ei_rng1 (ea_cons (ev_varI rfl f2) ea_nil) e77) _ (fun s78 B83 σ96 => ∃ o97 o98, σ96 = [some u0, some u1, some u2, some v22, some (.ref p26), o97, o98]) (fun s78 => [⟨p26, (cLst rInt), s78⟩]) (([] : List Int)) e82 (fun B9 x9 => ⟨_, _, rfl⟩) rfl ?_ ?_
    · skip
      rintro s78 x79 s132 v89 B83 B84 H85 σ96 hb80 x86 ⟨o97, o98, rfl⟩ x87 w88 h90 N91 K92 hN93
      replace w88 : Own K B84 M [⟨p26, (cLst rInt), s78⟩] H85 := w88
      refine g_name ?_
      obtain ⟨t99, e100, hb80⟩ := bindS hb80
      obtain ⟨t101, e102, hb80⟩ := bindS hb80
      obtain ⟨t103, e104, hb80⟩ := bindS hb80
      refine q_asg (n := 6) w88 (ev_mod (ev_intI (ev_mul (ev_add (ev_add (ev_varI rfl h23) (ev_mul (ev_int (i := 7)) (ev_varI rfl h90) e100)) (ev_int (i := 1))) (ev_int (i := 48271)) e102)) (ev_int (i := 2147483647)) e104) fun v106 B105 H105 x105 (w105 : Own K B105 M [⟨p26, (cLst rInt), s78⟩] H105) h107 => ?_
      obtain ⟨t108, e109, hb80⟩ := bindS hb80
      obtain ⟨t110, e111, hb80⟩ := bindS hb80
      obtain ⟨t112, e113, hb80⟩ := bindS hb80
      refine q_asg (n := 6) w105 (ev_mod (ev_intI (ev_add (ev_mul (ev_varI rfl h107) (ev_int (i := 69621)) e109) (ev_mul (ev_int (i := 31)) (ev_varI rfl h90) e111))) (ev_int (i := 2147483629)) e113) fun v115 B114 H114 x114 (w114 : Own K B114 M [⟨p26, (cLst rInt), s78⟩] H114) h116 => ?_
      obtain ⟨t117, e118, hb80⟩ := bindS hb80
      obtain ⟨t119, e120, hb80⟩ := bindS hb80
      obtain ⟨t121, e122, hb80⟩ := bindS hb80
      refine q_app (n := 0) (m := 4) w114 rfl (ev_mod (ev_intI (ev_div (ev_varI rfl h116) (ev_int (i := 7)) e118)) (ev_varI rfl f1) e120) rfl ⟨0, _, rfl⟩ e122 fun B123 H123 x123 (w123 : Own K B123 M [⟨p26, (cLst rInt), (s78 ++ [t119])⟩] H123) => ?_
      replace hb80 : some _ = some _ := hb80
      cases hb80
      exact hN93 _ _ _ ((x105.trans x114).trans x123) w123 ⟨_, _, rfl⟩
    rintro B125 H126 σ129 x127 w128 ⟨o130, o131, rfl⟩
    replace w128 : Own K B125 M [⟨p26, (cLst rInt), s124⟩] H126 := w128
    replace hm : some _ = some _ := hm
    obtain rfl := Option.some.inj hm
    exact q_retC (n := 0) (m := 4) w128 rfl rfl fun v9 B9 x9 w9 h9 => k _ _ _ (((((x10.trans x21).trans x25).trans x75).trans x127).trans x9) w9 h9
noncomputable def m_l_box (a0 : (List Int)) : Option (List Int × Int) :=
  Option.bind (foldO (S := (List Int)) (α := Int) (fun (s13 : (List Int)) (x14 : Int) => (
    Option.bind (m_l_draws x14 ((1000003 : Int)) ((6 : Int))) fun t35 =>
    Option.bind (catT s13 t35) fun t37 =>
    some t37
  )) (([] : List Int)) a0) fun s42 =>
  Option.bind (if (decide ((s42.length : Int) = (0 : Int))) = true then
    some ([(11 : Int), (5 : Int), (2 : Int), (7 : Int), (31 : Int), (101 : Int), (997 : Int)])
  else
    some s42
  ) fun (s52 : (List Int)) =>
  some (s52, (0 : Int))
def C__law_box : List Arg → List Cell → (List Int × Int) → List Cell → Prop := fun as L r L' => ∃ a0 c, as = [⟨(rScr rInt), a0⟩] ∧ L = [] ∧ m_l_box a0 = some c ∧ r = c ∧ L' = []
theorem sc__law_box : FnScope ["_law_script", "_law_row", "_law_cell"] ["_law_script"] (defScope s__law_box) := ⟨rfl, rfl, rfl, by decide +kernel, rfl, by decide +kernel, by decide +kernel⟩
set_option maxHeartbeats 0 in
theorem ok__law_box (F : FunC K "_law_box" s__law_box f fd cc) (c__law_draws : Cl P w K mg base 1 "_law_draws" (spV K T C__law_draws) []) (z_len : mg "len" = none) : FnOk P w K mg base CX0 2 f fd ["_law_script"] (spC K T cBox C__law_box) := by
  refine F.ok sc__law_box (fun vs H Q E h => ?_) (fun A outer s H vs Q E hr h => ?_)
  · obtain ⟨B, M, L, as, r, L', hT, w, ha, ⟨_, _, rfl, _⟩, k⟩ := h
    exact args_len ha
  · skip
    obtain ⟨B, M, L, as, r, L', rfl, w, ha, ⟨a0, c, rfl, rfl, hm, rfl, rfl⟩, k⟩ := h
    obtain ⟨u0, rfl, f0⟩ := args1 ha
    replace f0 : ((rScr rInt)).is K B u0 a0 := f0
    unfold m_l_box at hm
    refine ⟨_, (pss_cons (ps_set (i := 1) sc__law_box.nd rfl (by first | exact Or.inl rfl | exact Or.inr rfl) (pe_lst pa_nil)) (pss_cons (ps_for PassesOwn.never rfl (pi_list (pv 0)) (pg_name (i := 2) sc__law_box.nd rfl (by first | exact Or.inl rfl | exact Or.inr rfl)) (pss_cons (ps_set (i := 1) sc__law_box.nd rfl (by first | exact Or.inl rfl | exact Or.inr rfl) (pe_op op_cat (pv 1) (pe_c c__law_draws hr (by omega) rfl (pa_cons (pv 2) (pa_cons pe_int (pa_cons pe_int pa_nil)))))) pss_nil)) (Evl.pss_cut (ps_if (pt_cmpR op_eq (pe_callB call_len_seq rfl z_len bt_len (pa_cons (pv 1) pa_nil)) pe_int (nomark _)) (pss_cons (ps_set (i := 1) sc__law_box.nd rfl (by first | exact Or.inl rfl | exact Or.inr rfl) (pe_lst (pa_cons pe_int (pa_cons pe_int (pa_cons pe_int (pa_cons pe_int (pa_cons pe_int (pa_cons pe_int (pa_cons pe_int pa_nil))))))))) pss_nil) pss_nil) (pss_cons (ps_ret (pe_disp (pps_cons pe_str (pv 1) (pps_cons pe_str pe_int pps_nil)) (by rfl) (by rfl) (fun z => by cases z) (by decide))) pss_nil)))), ?_⟩
    rw [show start ["_law_script", "_law_row", "_law_cell"] [u0] = ([some u0, none, none] : L2.St) from rfl]
    refine q_asg (n := 1) w (ev_frz (el_lst (r := rInt) ([] : List Int) ea_nil)) fun v11 B10 H10 x10 (w10 : Own K B10 M [] H10) h12 => ?_
    obtain ⟨s42, e17, hm⟩ := bindS hm
    refine q_fold w10 (ei_scr (ev_var rfl (((rScr rInt)).mono x10 f0))) _ (fun s13 B18 σ31 => ∃ v32 o34, σ31 = [some u0, some v32, o34] ∧ ((rLst rInt)).is K B18 v32 s13) (fun s13 => []) (([] : List Int)) e17 (fun B9 x9 => ⟨v11, _, rfl, (((rLst rInt)).mono x9 h12)⟩) rfl ?_ ?_
    · skip
      rintro s13 x14 s64 v24 B18 B19 H20 σ31 hb15 x21 ⟨v32, o34, rfl, h33⟩ x22 w23 h25 N26 K27 hN28
      replace w23 : Own K B19 M [] H20 := w23
      refine g_name ?_
      obtain ⟨t35, e36, hb15⟩ := bindS hb15
      obtain ⟨t37, e38, hb15⟩ := bindS hb15
      refine q_asg (n := 1) w23 (ev_frz (el_cat (ev_var rfl (((rLst rInt)).mono x22 h33)) (ev_call (ea_cons (ev_varI rfl h25) (ea_cons (ev_int (i := 1000003)) (ea_cons (ev_int (i := 6)) ea_nil))) ⟨_, _, _, _, rfl, rfl, e36, rfl, rfl⟩) e38)) fun v40 B39 H39 x39 (w39 : Own K B39 M [] H39) h41 => ?_
      replace hb15 : some _ = some _ := hb15
      cases hb15
      exact hN28 _ _ _ x39 w39 ⟨v40, _, rfl, h41⟩
    rintro B43 H44 σ47 x45 w46 ⟨v48, o50, rfl, h49⟩
    replace w46 : Own K B43 M [] H44 := w46
    obtain ⟨s52, e53, hm⟩ := bindS hm
    refine q_cut (fun σ62 H59 => ∃ v60 B59, Ex B43 B59 ∧ Own K B59 M [] H59 ∧ σ62 = [some u0, some v60, o50] ∧ ((rLst rInt)).is K B59 v60 s52) ?_ ?_
    · skip
      refine q_ifc w46 (et_test (ev_eqI (ev_len (ev_seqL (ev_var rfl h49))) (ev_int (i := 0)))) (fun hb51 B54 H54 x54 (w54 : Own K B54 M [] H54) => ?_) (fun hb51 B58 H58 x58 (w58 : Own K B58 M [] H58) => ?_)
      · skip
        rw [if_pos hb51] at e53
        refine q_asg (n := 1) w54 (ev_frz (el_lst (r := rInt) [(11 : Int), (5 : Int), (2 : Int), (7 : Int), (31 : Int), (101 : Int), (997 : Int)] (ea_cons (ev_int (i := 11)) (ea_cons (ev_int (i := 5)) (ea_cons (ev_int (i := 2)) (ea_cons (ev_int (i := 7)) (ea_cons (ev_int (i := 31)) (ea_cons (ev_int (i := 101)) (ea_cons (ev_int (i := 997)) ea_nil))))))))) fun v56 B55 H55 x55 (w55 : Own K B55 M [] H55) h57 => ?_
        replace e53 : some _ = some _ := e53
        cases e53
        exact ⟨v56, _, (x54.trans x55), w55, rfl, h57⟩
      rw [if_neg (by rw [hb51]; exact Bool.false_ne_true)] at e53
      replace e53 : some _ = some _ := e53
      cases e53
      exact ⟨v48, _, x58, w58, rfl, (((rLst rInt)).mono x58 h49)⟩
    rintro σ62' H59 ⟨v60, B59, x59, w59, rfl, h61⟩
    replace hm : some _ = some _ := hm
    obtain rfl := Option.some.inj hm
    exact q_retNC w59 (ec_box (fun p63 => (ev_var rfl h61)) (fun p63 => (ev_int (i := 0)))) fun p9 B9 H9 x9 w9 => k _ _ _ (((x10.trans x45).trans x59).trans x9) (Own.pick (n := 0) (d := 1) w9 rfl (by decide))
noncomputable def m_l_next (a0 : (List Int × Int)) (a1 : Int) : Option (Int × (List Int × Int)) :=
  Option.bind (modI a0.2 (((((a0.1, (a0.2 + (1 : Int)))).1).length : Int))) fun t14 =>
  Option.bind (ixL (((a0.1, (a0.2 + (1 : Int)))).1) t14) fun t16 =>
  Option.bind (divI a0.2 (((((a0.1, (a0.2 + (1 : Int)))).1).length : Int))) fun t21 =>
  Option.bind (mulI ((7919 : Int)) t21) fun t23 =>
  Option.bind (modI ((t16 + t23)) a1) fun t25 =>
  some (t25, (a0.1, (a0.2 + (1 : Int))))
def C__law_next : List Arg → List Cell → Arg → List Cell → Prop := fun as L r L' => ∃ a0 a1 p0 c, as = [⟨rRef, p0⟩, ⟨rInt, a1⟩] ∧ L = [⟨p0, cBox, a0⟩] ∧ m_l_next a0 a1 = some c ∧ r = ⟨rInt, c.1⟩ ∧ L' = [⟨p0, cBox, c.2⟩]
theorem sc__law_next : FnScope ["_law_box_here", "_law_modulus", "_law_at", "_law_number"] ["_law_box_here", "_law_modulus"] (defScope s__law_next) := ⟨rfl, rfl, rfl, by decide +kernel, rfl, by decide +kernel, by decide +kernel⟩
set_option maxHeartbeats 0 in
theorem ok__law_next (F : FunC K "_law_next" s__law_next f fd cc) (z_len : mg "len" = none) (z_int : mg "int" = none) : FnOk P w K mg base CX0 1 f fd ["_law_box_here", "_law_modulus"] (spV K T C__law_next) := by
  refine F.ok sc__law_next (fun vs H Q E h => ?_) (fun A outer s H vs Q E hr h => ?_)
  · obtain ⟨B, M, L, as, r, L', hT, w, ha, ⟨_, _, _, _, rfl, _⟩, k⟩ := h
    exact args_len ha
  · skip
    obtain ⟨B, M, L, as, r, L', rfl, w, ha, ⟨a0, a1, p0, c, rfl, rfl, hm, rfl, rfl⟩, k⟩ := h
    obtain ⟨u0, u1, rfl, f0, f1⟩ := args2 ha
    replace f0 : u0 = V.ref p0 := f0
    subst f0
    replace f1 : (rInt).is K B u1 a1 := f1
    unfold m_l_next at hm
    refine ⟨_, (pss_cons (ps_set (i := 2) sc__law_next.nd rfl (by first | exact Or.inl rfl | exact Or.inr rfl) (pe_dget (by have := room_hu hr; exact Nat.lt_of_le_of_lt (Nat.add_le_add_left (by decide) _) this) (pv 0) pe_str (fun _ _ => rfl))) (pss_cons (ps_asg (pe_op op_add (pv 2) pe_int) (pg_sub (pv 0) pe_str (set_dict (by have := room_hu hr; exact Nat.lt_of_le_of_lt (Nat.add_le_add_left (by decide) _) this)))) (pss_cons (ps_set (i := 3) sc__law_next.nd rfl (by first | exact Or.inl rfl | exact Or.inr rfl) (pe_ix ix_seq (pe_dget (by have := room_hu hr; exact Nat.lt_of_le_of_lt (Nat.add_le_add_left (by decide) _) this) (pv 0) pe_str (fun _ _ => rfl)) (pe_op op_mod (pv 2) (pe_callB call_len_seq rfl z_len bt_len (pa_cons (pe_dget (by have := room_hu hr; exact Nat.lt_of_le_of_lt (Nat.add_le_add_left (by decide) _) this) (pv 0) pe_str (fun _ _ => rfl)) pa_nil))) (fun _ _ => rfl))) (pss_cons (ps_ret (pe_op op_mod (pe_callTy call_int1 rfl z_int bt_int (pa_cons (pe_op op_add (pv 3) (pe_op op_mulX pe_int (pe_op op_fdivW (pv 2) (pe_callB call_len_seq rfl z_len bt_len (pa_cons (pe_dget (by have := room_hu hr; exact Nat.lt_of_le_of_lt (Nat.add_le_add_left (by decide) _) this) (pv 0) pe_str (fun _ _ => rfl)) pa_nil))))) pa_nil)) (pv 1))) pss_nil)))), ?_⟩
    rw [show start ["_law_box_here", "_law_modulus", "_law_at", "_law_number"] [.ref p0, u1] = ([some (.ref p0), some u1, none, none] : L2.St) from rfl]
    refine q_asg (n := 2) w (ev_boxAt (n := 0) rfl rfl) fun v11 B10 H10 x10 (w10 : Own K B10 M [⟨p0, cBox, a0⟩] H10) h12 => ?_
    refine q_boxAt (n := 0) w10 (ev_add (ev_varI rfl h12) (ev_int (i := 1))) rfl rfl fun B13 H13 x13 (w13 : Own K B13 M [⟨p0, cBox, (a0.1, (a0.2 + (1 : Int)))⟩] H13) => ?_
    obtain ⟨t14, e15, hm⟩ := bindS hm
    obtain ⟨t16, e17, hm⟩ := bindS hm
    refine q_asg (n := 3) w13 (ev_ix (ev_seqL (ev_boxRow (n := 0) rfl rfl)) (ev_mod (ev_varI rfl h12) (ev_len (ev_seqL (ev_boxRow (n := 0) rfl rfl))) e15) e17) fun v19 B18 H18 x18 (w18 : Own K B18 M [⟨p0, cBox, (a0.1, (a0.2 + (1 : Int)))⟩] H18) h20 => ?_
    obtain ⟨t21, e22, hm⟩ := bindS hm
    obtain ⟨t23, e24, hm⟩ := bindS hm
    obtain ⟨t25, e26, hm⟩ := bindS hm
    replace hm : some _ = some _ := hm
    obtain rfl := Option.some.inj hm
    exact q_ret w18 (ev_mod (ev_intI (ev_add (ev_varI rfl h20) (ev_mul (ev_int (i := 7919)) (ev_div (ev_varI rfl h12) (ev_len (ev_seqL (ev_boxRow (n := 0) rfl rfl))) e22) e24))) (ev_varI rfl f1) e26) fun v9 B9 H9 x9 w9 h9 => k _ _ _ (((x10.trans x13).trans x18).trans x9) w9 h9
noncomputable def m_l_ends (a0 : (List Int × Int)) (a1 : Int) : Option ((List (Int × Int)) × (List Int × Int)) :=
  Option.bind (small62 a1) fun t12 =>
  Option.bind (foldO (S := ((List (Int × Int)) × (List Int × Int))) (α := Int) (fun (s14 : ((List (Int × Int)) × (List Int × Int))) (x15 : Int) => (
    Option.bind ((if (decide ((s14.1.length : Int) < (3 : Int))) = true then (Option.bind (m_l_next s14.2 ((2 : Int))) fun t34 => some ((decide (t34.1 = (0 : Int))), t34.2)) else (some (false, s14.2)))) fun t36 =>
    Option.bind (if t36.1 = true then
      Option.bind (m_l_next t36.2 ((3 : Int))) fun t43 =>
      Option.bind (room s14.1.length) fun t45 =>
      some (((s14.1 ++ [(x15, ((1 : Int) + t43.1))]), t43.2))
    else
      some ((s14.1, t36.2))
    ) fun (s40 : ((List (Int × Int)) × (List Int × Int))) =>
    some ((s40.1, s40.2))
  )) ((([] : List (Int × Int)), a0)) ((rng 0 a1))) fun s51 =>
  Option.bind (if (decide ((s51.1.length : Int) = (0 : Int))) = true then
    Option.bind (m_l_next s51.2 a1) fun t66 =>
    some (([(t66.1, (1 : Int))], t66.2))
  else
    some ((s51.1, s51.2))
  ) fun (s63 : ((List (Int × Int)) × (List Int × Int))) =>
  some (s63.1, s63.2)
def C__law_ends : List Arg → List Cell → Arg → List Cell → Prop := fun as L r L' => ∃ a0 a1 p0 c, as = [⟨rRef, p0⟩, ⟨rInt, a1⟩] ∧ L = [⟨p0, cBox, a0⟩] ∧ m_l_ends a0 a1 = some c ∧ r = ⟨(rTup (rT2 rInt rInt)), c.1⟩ ∧ L' = [⟨p0, cBox, c.2⟩]
theorem sc__law_ends : FnScope ["_law_box_here", "_law_states_here", "_law_row", "_law_state"] ["_law_box_here", "_law_states_here"] (defScope s__law_ends) := ⟨rfl, rfl, rfl, by decide +kernel, rfl, by decide +kernel, by decide +kernel⟩
set_option maxHeartbeats 0 in
theorem ok__law_ends (F : FunC K "_law_ends" s__law_ends f fd cc) (c__law_next : Cl P w K mg base 1 "_law_next" (spV K T C__law_next) []) (z_range : mg "range" = none) (z_len : mg "len" = none) (z_tuple : mg "tuple" = none) : FnOk P w K mg base CX0 2 f fd ["_law_box_here", "_law_states_here"] (spV K T C__law_ends) := by
  refine F.ok sc__law_ends (fun vs H Q E h => ?_) (fun A outer s H vs Q E hr h => ?_)
  · obtain ⟨B, M, L, as, r, L', hT, w, ha, ⟨_, _, _, _, rfl, _⟩, k⟩ := h
    exact args_len ha
  · skip
    obtain ⟨B, M, L, as, r, L', rfl, w, ha, ⟨a0, a1, p0, c, rfl, rfl, hm, rfl, rfl⟩, k⟩ := h
    obtain ⟨u0, u1, rfl, f0, f1⟩ := args2 ha
    replace f0 : u0 = V.ref p0 := f0
    subst f0
    replace f1 : (rInt).is K B u1 a1 := f1
    unfold m_l_ends at hm
    refine ⟨_, (pss_cons (ps_set (i := 2) sc__law_ends.nd rfl (by first | exact Or.inl rfl | exact Or.inr rfl) (pe_lst pa_nil)) (pss_cons (ps_for PassesOwn.never rfl (pi_range1 rfl z_range (pa_cons (pv 1) pa_nil)) (pg_name (i := 3) sc__law_ends.nd rfl (by first | exact Or.inl rfl | exact Or.inr rfl)) (Evl.pss_cut (ps_if (PW.pt (pw_and (pt_cmpR op_lt (pe_callB call_len_seq rfl z_len bt_len (pa_cons (pv 2) pa_nil)) pe_int (nomark _)) (pw_and1 (pt_cmpR op_eq (pe_c c__law_next hr (by omega) rfl (pa_cons (pv 0) (pa_cons pe_int pa_nil))) pe_int (nomark _))))) (pss_cons (ps_expr (pe_bm PySem.F.plainAttrs_list PySem.F.slot_list_append PySem.F.type_list_append mt_append (pv 2) (pa_cons (pe_tup (pa_cons (pv 3) (pa_cons (pe_op op_add pe_int (pe_c c__law_next hr (by omega) rfl (pa_cons (pv 0) (pa_cons pe_int pa_nil)))) pa_nil))) pa_nil))) pss_nil) pss_nil) pss_nil)) (Evl.pss_cut (ps_if (pt_cmpR op_eq (pe_callB call_len_seq rfl z_len bt_len (pa_cons (pv 2) pa_nil)) pe_int (nomark _)) (pss_cons (ps_set (i := 2) sc__law_ends.nd rfl (by first | exact Or.inl rfl | exact Or.inr rfl) (pe_lst (pa_cons (pe_tup (pa_cons (pe_c c__law_next hr (by omega) rfl (pa_cons (pv 0) (pa_cons (pv 1) pa_nil))) (pa_cons pe_int pa_nil))) pa_nil))) pss_nil) pss_nil) (pss_cons (ps_ret (pe_callTy call_tuple_of rfl z_tuple bt_tuple (pa_cons (pv 2) pa_nil))) pss_nil)))), ?_⟩
    rw [show start ["_law_box_here", "_law_states_here", "_law_row", "_law_state"] [.ref p0, u1] = ([some (.ref p0), some u1, none, none] : L2.St) from rfl]
    refine q_asgL (n := 2) w (el_lst (r := (rT2 rInt rInt)) ([] : List (Int × Int)) ea_nil) fun p11 B10 H10 x10 (w10 : Own K B10 M [⟨p11, (cLst (rT2 rInt rInt)), ([] : List (Int × Int))⟩, ⟨p0, cBox, a0⟩] H10) => ?_
    obtain ⟨t12, e13, hm⟩ := bindS hm
    obtain ⟨s51, e18, hm⟩ := bindS hm
    refine q_fold w10 (ei_rng1 (ea_cons (ev_varI rfl f1) ea_nil) e13) _ (fun s14 B19 σ32 => ∃ o33, σ32 = [some (.ref p0), some u1, some (.ref p11), o33]) (fun s14 => [⟨p11, (cLst (rT2 rInt rInt)), s14.1⟩, ⟨p0, cBox, s14.2⟩]) ((([] : List (Int × Int)), a0)) e18 (fun B9 x9 => ⟨_, rfl⟩) rfl ?_ ?_
    · skip
      rintro s14 x15 s76 v25 B19 B20 H21 σ32 hb16 x22 ⟨o33, rfl⟩ x23 w24 h26 N27 K28 hN29
      replace w24 : Own K B20 M [⟨p11, (cLst (rT2 rInt rInt)), s14.1⟩, ⟨p0, cBox, s14.2⟩] H21 := w24
      refine g_name ?_
      obtain ⟨t36, e37, hb16⟩ := bindS hb16
      obtain ⟨s40, e41, hb16⟩ := bindS hb16
      refine q_cut (fun σ50 H49 => ∃ B49, Ex B20 B49 ∧ Own K B49 M [⟨p11, (cLst (rT2 rInt rInt)), s40.1⟩, ⟨p0, cBox, s40.2⟩] H49 ∧ σ50 = [some (.ref p0), some u1, some (.ref p11), some v25]) ?_ ?_
      · skip
        refine q_ifc w24 (et_and' (d := t36.1) (et_test (ev_lt (ev_lenC (n := 0) (ev_varR rfl) rfl) (ev_int (i := 3)))) (fun hb38 => by rw [if_pos hb38] at e37; obtain ⟨t34, e35, e37⟩ := bindS e37; obtain rfl := Option.some.inj e37; exact (et_test (ev_eqI (ev_callC 1 (x := ⟨p0, cBox, s14.2⟩) (x' := ⟨p0, cBox, t34.2⟩) (ea_cons (ev_varR rfl) (ea_cons (ev_int (i := 2)) ea_nil)) rfl ⟨_, _, _, _, rfl, rfl, e35, rfl, rfl⟩ rfl) (ev_int (i := 0))))) (fun hb38 => by rw [if_neg (by rw [hb38]; exact Bool.false_ne_true)] at e37; obtain rfl := Option.some.inj e37; exact ⟨rfl, rfl⟩)) (fun hb39 B42 H42 x42 (w42 : Own K B42 M [⟨p11, (cLst (rT2 rInt rInt)), s14.1⟩, ⟨p0, cBox, t36.2⟩] H42) => ?_) (fun hb39 B48 H48 x48 (w48 : Own K B48 M [⟨p11, (cLst (rT2 rInt rInt)), s14.1⟩, ⟨p0, cBox, t36.2⟩] H48) => ?_)
        · skip
          rw [if_pos hb39] at e41
          obtain ⟨t43, e44, e41⟩ := bindS e41
          obtain ⟨t45, e46, e41⟩ := bindS e41
          refine q_app (n := 0) (m := 2) w42 rfl (ev_T2 (ea_cons (ev_varI rfl h26) (ea_cons (ev_add (ev_int (i := 1)) (ev_callC 1 (x := ⟨p0, cBox, t36.2⟩) (x' := ⟨p0, cBox, t43.2⟩) (ea_cons (ev_varR rfl) (ea_cons (ev_int (i := 3)) ea_nil)) rfl ⟨_, _, _, _, rfl, rfl, e44, rfl, rfl⟩ rfl)) ea_nil))) rfl ⟨0, _, rfl⟩ e46 fun B47 H47 x47 (w47 : Own K B47 M [⟨p11, (cLst (rT2 rInt rInt)), (s14.1 ++ [(x15, ((1 : Int) + t43.1))])⟩, ⟨p0, cBox, t43.2⟩] H47) => ?_
          replace e41 : some _ = some _ := e41
          cases e41
          exact ⟨_, (x42.trans x47), w47, rfl⟩
        rw [if_neg (by rw [hb39]; exact Bool.false_ne_true)] at e41
        replace e41 : some _ = some _ := e41
        cases e41
        exact ⟨_, x48, w48, rfl⟩
      rintro σ50' H49 ⟨B49, x49, w49, rfl⟩
      replace hb16 : some _ = some _ := hb16
      cases hb16
      exact hN29 _ _ _ x49 w49 ⟨_, rfl⟩
    rintro B52 H53 σ56 x54 w55 ⟨o57, rfl⟩
    replace w55 : Own K B52 M [⟨p11, (cLst (rT2 rInt rInt)), s51.1⟩, ⟨p0, cBox, s51.2⟩] H53 := w55
    obtain ⟨B58, x59, w60, h61⟩ := frz_step (n := 0) w55 rfl
    replace w60 : Own K B58 M [⟨p0, cBox, s51.2⟩] H53 := w60
    obtain ⟨s63, e64, hm⟩ := bindS hm
    refine q_cut (fun σ75 H72 => ∃ v73 B72, Ex B58 B72 ∧ Own K B72 M [⟨p0, cBox, s63.2⟩] H72 ∧ σ75 = [some (.ref p0), some u1, some v73, o57] ∧ ((rLst (rT2 rInt rInt))).is K B72 v73 s63.1) ?_ ?_
    · skip
      refine q_ifc w60 (et_test (ev_eqI (ev_len (ev_seqL (ev_var rfl h61))) (ev_int (i := 0)))) (fun hb62 B65 H65 x65 (w65 : Own K B65 M [⟨p0, cBox, s51.2⟩] H65) => ?_) (fun hb62 B71 H71 x71 (w71 : Own K B71 M [⟨p0, cBox, s51.2⟩] H71) => ?_)
      · skip
        rw [if_pos hb62] at e64
        obtain ⟨t66, e67, e64⟩ := bindS e64
        refine q_asg (n := 2) w65 (ev_frz (el_lst (r := (rT2 rInt rInt)) [(t66.1, (1 : Int))] (ea_cons (ev_T2 (ea_cons (ev_callC 0 (x := ⟨p0, cBox, s51.2⟩) (x' := ⟨p0, cBox, t66.2⟩) (ea_cons (ev_varR rfl) (ea_cons (ev_varI rfl f1) ea_nil)) rfl ⟨_, _, _, _, rfl, rfl, e67, rfl, rfl⟩ rfl) (ea_cons (ev_int (i := 1)) ea_nil))) ea_nil))) fun v69 B68 H68 x68 (w68 : Own K B68 M [⟨p0, cBox, t66.2⟩] H68) h70 => ?_
        replace e64 : some _ = some _ := e64
        cases e64
        exact ⟨v69, _, (x65.trans x68), w68, rfl, h70⟩
      rw [if_neg (by rw [hb62]; exact Bool.false_ne_true)] at e64
      replace e64 : some _ = some _ := e64
      cases e64
      exact ⟨(.ref p11), _, x71, w71, rfl, (((rLst (rT2 rInt rInt))).mono x71 h61)⟩
    rintro σ75' H72 ⟨v73, B72, x72, w72, rfl, h74⟩
    replace hm : some _ = some _ := hm
    obtain rfl := Option.some.inj hm
    exact q_ret w72 (ev_tupOfL (ev_var rfl h74)) fun v9 B9 H9 x9 w9 h9 => k _ _ _ ((((x10.trans x54).trans x59).trans x72).trans x9) w9 h9
noncomputable def m_l_system (a0 : (List Int × Int)) (a1 : Int) (a2 : Int) (a3 : Int) : Option ((List (List (Int × (List (Int × Int))))) × (List Int × Int)) :=
  Option.bind (small62 a1) fun t12 =>
  Option.bind (foldO (S := ((List (List (Int × (List (Int × Int))))) × (List Int × Int))) (α := Int) (fun (s14 : ((List (List (Int × (List (Int × Int))))) × (List Int × Int))) (x15 : Int) => (
    Option.bind (m_l_next s14.2 a2) fun t38 =>
    Option.bind (small62 (((1 : Int) + t38.1))) fun t40 =>
    Option.bind (foldO (S := ((List (Int × (List (Int × Int)))) × (List Int × Int))) (α := Int) (fun (s42 : ((List (Int × (List (Int × Int)))) × (List Int × Int))) (x43 : Int) => (
      Option.bind (m_l_next s42.2 a3) fun t62 =>
      Option.bind (m_l_ends t62.2 a1) fun t64 =>
      Option.bind (room s42.1.length) fun t66 =>
      some (((s42.1 ++ [(t62.1, t64.1)]), t64.2))
    )) ((([] : List (Int × (List (Int × Int)))), t38.2)) ((rng 0 (((1 : Int) + t38.1))))) fun s69 =>
    Option.bind (room s14.1.length) fun t76 =>
    some (((s14.1 ++ [s69.1]), s69.2))
  )) ((([] : List (List (Int × (List (Int × Int))))), a0)) ((rng 0 a1))) fun s80 =>
  some (s80.1, s80.2)
def C__law_system : List Arg → List Cell → Arg → List Cell → Prop := fun as L r L' => ∃ a0 a1 a2 a3 p0 c, as = [⟨rRef, p0⟩, ⟨rInt, a1⟩, ⟨rInt, a2⟩, ⟨rInt, a3⟩] ∧ L = [⟨p0, cBox, a0⟩] ∧ m_l_system a0 a1 a2 a3 = some c ∧ r = ⟨(rTup (rTup (rT2 rInt (rTup (rT2 rInt rInt))))), c.1⟩ ∧ L' = [⟨p0, cBox, c.2⟩]
theorem sc__law_system : FnScope ["_law_box_here", "_law_states_here", "_law_most", "_law_dear", "_law_system_here", "_law_state", "_law_choices", "_law_k"] ["_law_box_here", "_law_states_here", "_law_most", "_law_dear"] (defScope s__law_system) := ⟨rfl, rfl, rfl, by decide +kernel, rfl, by decide +kernel, by decide +kernel⟩
set_option maxHeartbeats 0 in
theorem ok__law_system (F : FunC K "_law_system" s__law_system f fd cc) (c__law_next : Cl P w K mg base 1 "_law_next" (spV K T C__law_next) []) (c__law_ends : Cl P w K mg base 2 "_law_ends" (spV K T C__law_ends) []) (z_range : mg "range" = none) (z_tuple : mg "tuple" = none) : FnOk P w K mg base CX0 3 f fd ["_law_box_here", "_law_states_here", "_law_most", "_law_dear"] (spV K T C__law_system) := by
  refine F.ok sc__law_system (fun vs H Q E h => ?_) (fun A outer s H vs Q E hr h => ?_)
  · obtain ⟨B, M, L, as, r, L', hT, w, ha, ⟨_, _, _, _, _, _, rfl, _⟩, k⟩ := h
    exact args_len ha
  · skip
    obtain ⟨B, M, L, as, r, L', rfl, w, ha, ⟨a0, a1, a2, a3, p0, c, rfl, rfl, hm, rfl, rfl⟩, k⟩ := h
    obtain ⟨u0, u1, u2, u3, rfl, f0, f1, f2, f3⟩ := args4 ha
    replace f0 : u0 = V.ref p0 := f0
    subst f0
    replace f1 : (rInt).is K B u1 a1 := f1
    replace f2 : (rInt).is K B u2 a2 := f2
    replace f3 : (rInt).is K B u3 a3 := f3
    unfold m_l_system at hm
    refine ⟨_, (pss_cons (ps_set (i := 4) sc__law_system.nd rfl (by first | exact Or.inl rfl | exact Or.inr rfl) (pe_lst pa_nil)) (pss_cons (ps_for PassesOwn.never rfl (pi_range1 rfl z_range (pa_cons (pv 1) pa_nil)) (pg_name (i := 5) sc__law_system.nd rfl (by first | exact Or.inl rfl | exact Or.inr rfl)) (pss_cons (ps_set (i := 6) sc__law_system.nd rfl (by first | exact Or.inl rfl | exact Or.inr rfl) (pe_lst pa_nil)) (pss_cons (ps_for PassesOwn.never rfl (pi_range1 rfl z_range (pa_cons (pe_op op_add pe_int (pe_c c__law_next hr (by omega) rfl (pa_cons (pv 0) (pa_cons (pv 2) pa_nil)))) pa_nil)) (pg_name (i := 7) sc__law_system.nd rfl (by first | exact Or.inl rfl | exact Or.inr rfl)) (pss_cons (ps_expr (pe_bm PySem.F.plainAttrs_list PySem.F.slot_list_append PySem.F.type_list_append mt_append (pv 6) (pa_cons (pe_tup (pa_cons (pe_c c__law_next hr (by omega) rfl (pa_cons (pv 0) (pa_cons (pv 3) pa_nil))) (pa_cons (pe_c c__law_ends hr (by omega) rfl (pa_cons (pv 0) (pa_cons (pv 1) pa_nil))) pa_nil))) pa_nil))) pss_nil)) (pss_cons (ps_expr (pe_bm PySem.F.plainAttrs_list PySem.F.slot_list_append PySem.F.type_list_append mt_append (pv 4) (pa_cons (pe_callTy call_tuple_of rfl z_tuple bt_tuple (pa_cons (pv 6) pa_nil)) pa_nil))) pss_nil)))) (pss_cons (ps_ret (pe_callTy call_tuple_of rfl z_tuple bt_tuple (pa_cons (pv 4) pa_nil))) pss_nil))), ?_⟩
    rw [show start ["_law_box_here", "_law_states_here", "_law_most", "_law_dear", "_law_system_here", "_law_state", "_law_choices", "_law_k"] [.ref p0, u1, u2, u3] = ([some (.ref p0), some u1, some u2, some u3, none, none, none, none] : L2.St) from rfl]
    refine q_asgL (n := 4) w (el_lst (r := (rTup (rT2 rInt (rTup (rT2 rInt rInt))))) ([] : List (List (Int × (List (Int × Int))))) ea_nil) fun p11 B10 H10 x10 (w10 : Own K B10 M [⟨p11, (cLst (rTup (rT2 rInt (rTup (rT2 rInt rInt))))), ([] : List (List (Int × (List (Int × Int)))))⟩, ⟨p0, cBox, a0⟩] H10) => ?_
    obtain ⟨t12, e13, hm⟩ := bindS hm
    obtain ⟨s80, e18, hm⟩ := bindS hm
    refine q_fold w10 (ei_rng1 (ea_cons (ev_varI rfl f1) ea_nil) e13) _ (fun s14 B19 σ32 => ∃ o33 o34 o35, σ32 = [some (.ref p0), some u1, some u2, some u3, some (.ref p11), o33, o34, o35]) (fun s14 => [⟨p11, (cLst (rTup (rT2 rInt (rTup (rT2 rInt rInt))))), s14.1⟩, ⟨p0, cBox, s14.2⟩]) ((([] : List (List (Int × (List (Int × Int))))), a0)) e18 (fun B9 x9 => ⟨_, _, _, rfl⟩) rfl ?_ ?_
    · skip
      rintro s14 x15 s89 v25 B19 B20 H21 σ32 hb16 x22 ⟨o33, o34, o35, rfl⟩ x23 w24 h26 N27 K28 hN29
      replace w24 : Own K B20 M [⟨p11, (cLst (rTup (rT2 rInt (rTup (rT2 rInt rInt))))), s14.1⟩, ⟨p0, cBox, s14.2⟩] H21 := w24
      refine g_name ?_
      refine q_asgL (n := 6) w24 (el_lst (r := (rT2 rInt (rTup (rT2 rInt rInt)))) ([] : List (Int × (List (Int × Int)))) ea_nil) fun p37 B36 H36 x36 (w36 : Own K B36 M [⟨p37, (cLst (rT2 rInt (rTup (rT2 rInt rInt)))), ([] : List (Int × (List (Int × Int))))⟩, ⟨p11, (cLst (rTup (rT2 rInt (rTup (rT2 rInt rInt))))), s14.1⟩, ⟨p0, cBox, s14.2⟩] H36) => ?_
      obtain ⟨t38, e39, hb16⟩ := bindS hb16
      obtain ⟨t40, e41, hb16⟩ := bindS hb16
      obtain ⟨s69, e46, hb16⟩ := bindS hb16
      refine q_fold w36 (ei_rng1 (ea_cons (ev_add (ev_int (i := 1)) (ev_callC 2 (x := ⟨p0, cBox, s14.2⟩) (x' := ⟨p0, cBox, t38.2⟩) (ea_cons (ev_varR rfl) (ea_cons (ev_varI rfl f2) ea_nil)) rfl ⟨_, _, _, _, rfl, rfl, e39, rfl, rfl⟩ rfl)) ea_nil) e41) _ (fun s42 B47 σ60 => ∃ o61, σ60 = [some (.ref p0), some u1, some u2, some u3, some (.ref p11), some v25, some (.ref p37), o61]) (fun s42 => [⟨p37, (cLst (rT2 rInt (rTup (rT2 rInt rInt)))), s42.1⟩, ⟨p11, (cLst (rTup (rT2 rInt (rTup (rT2 rInt rInt))))), s14.1⟩, ⟨p0, cBox, s42.2⟩]) ((([] : List (Int × (List (Int × Int)))), t38.2)) e46 (fun B9 x9 => ⟨_, rfl⟩) rfl ?_ ?_
      · skip
        rintro s42 x43 s79 v53 B47 B48 H49 σ60 hb44 x50 ⟨o61, rfl⟩ x51 w52 h54 N55 K56 hN57
        replace w52 : Own K B48 M [⟨p37, (cLst (rT2 rInt (rTup (rT2 rInt rInt)))), s42.1⟩, ⟨p11, (cLst (rTup (rT2 rInt (rTup (rT2 rInt rInt))))), s14.1⟩, ⟨p0, cBox, s42.2⟩] H49 := w52
        refine g_name ?_
        obtain ⟨t62, e63, hb44⟩ := bindS hb44
        obtain ⟨t64, e65, hb44⟩ := bindS hb44
        obtain ⟨t66, e67, hb44⟩ := bindS hb44
        refine q_app (n := 0) (m := 6) w52 rfl (ev_T2 (ea_cons (ev_callC 2 (x := ⟨p0, cBox, s42.2⟩) (x' := ⟨p0, cBox, t62.2⟩) (ea_cons (ev_varR rfl) (ea_cons (ev_varI rfl f3) ea_nil)) rfl ⟨_, _, _, _, rfl, rfl, e63, rfl, rfl⟩ rfl) (ea_cons (ev_callC 2 (x := ⟨p0, cBox, t62.2⟩) (x' := ⟨p0, cBox, t64.2⟩) (ea_cons (ev_varR rfl) (ea_cons (ev_varI rfl f1) ea_nil)) rfl ⟨_, _, _, _, rfl, rfl, e65, rfl, rfl⟩ rfl) ea_nil))) rfl ⟨0, _, rfl⟩ e67 fun B68 H68 x68 (w68 : Own K B68 M [⟨p37, (cLst (rT2 rInt (rTup (rT2 rInt rInt)))), (s42.1 ++ [(t62.1, t64.1)])⟩, ⟨p11, (cLst (rTup (rT2 rInt (rTup (rT2 rInt rInt))))), s14.1⟩, ⟨p0, cBox, t64.2⟩] H68) => ?_
        replace hb44 : some _ = some _ := hb44
        cases hb44
        exact hN57 _ _ _ x68 w68 ⟨_, rfl⟩
      rintro B70 H71 σ74 x72 w73 ⟨o75, rfl⟩
      replace w73 : Own K B70 M [⟨p37, (cLst (rT2 rInt (rTup (rT2 rInt rInt)))), s69.1⟩, ⟨p11, (cLst (rTup (rT2 rInt (rTup (rT2 rInt rInt))))), s14.1⟩, ⟨p0, cBox, s69.2⟩] H71 := w73
      obtain ⟨t76, e77, hb16⟩ := bindS hb16
      refine q_app (n := 1) (m := 4) w73 rfl (ev_tupOfC (n := 0) (ev_varR rfl) rfl) rfl ⟨1, _, rfl⟩ e77 fun B78 H78 x78 (w78 : Own K B78 M [⟨p37, (cLst (rT2 rInt (rTup (rT2 rInt rInt)))), s69.1⟩, ⟨p11, (cLst (rTup (rT2 rInt (rTup (rT2 rInt rInt))))), (s14.1 ++ [s69.1])⟩, ⟨p0, cBox, s69.2⟩] H78) => ?_
      replace hb16 : some _ = some _ := hb16
      cases hb16
      exact hN29 _ _ _ ((x36.trans x72).trans x78) w78.tail ⟨_, _, _, rfl⟩
    rintro B81 H82 σ85 x83 w84 ⟨o86, o87, o88, rfl⟩
    replace w84 : Own K B81 M [⟨p11, (cLst (rTup (rT2 rInt (rTup (rT2 rInt rInt))))), s80.1⟩, ⟨p0, cBox, s80.2⟩] H82 := w84
    replace hm : some _ = some _ := hm
    obtain rfl := Option.some.inj hm
    exact q_ret w84 (ev_tupOfC (n := 0) (ev_varR rfl) rfl) fun v9 B9 H9 x9 w9 h9 => k _ _ _ ((x10.trans x83).trans x9) w9.tail h9
noncomputable def m_l_chance (a0 : (List Int × Int)) : Option ((Int × Int) × (List Int × Int)) :=
  Option.bind (m_l_next a0 ((7 : Int))) fun t10 =>
  Option.bind (ixL ([((0 : Int), (1 : Int)), ((1 : Int), (1 : Int)), ((1 : Int), (2 : Int)), ((1 : Int), (3 : Int)), ((2 : Int), (3 : Int)), ((1 : Int), (4 : Int)), ((3 : Int), (4 : Int))]) t10.1) fun t12 =>
  some (t12, t10.2)
def C__law_chance : List Arg → List Cell → Arg → List Cell → Prop := fun as L r L' => ∃ a0 p0 c, as = [⟨rRef, p0⟩] ∧ L = [⟨p0, cBox, a0⟩] ∧ m_l_chance a0 = some c ∧ r = ⟨(rT2 rInt rInt), c.1⟩ ∧ L' = [⟨p0, cBox, c.2⟩]
theorem sc__law_chance : FnScope ["_law_box_here"] ["_law_box_here"] (defScope s__law_chance) := ⟨rfl, rfl, rfl, by decide +kernel, rfl, by decide +kernel, by decide +kernel⟩
set_option maxHeartbeats 0 in
theorem ok__law_chance (F : FunC K "_law_chance" s__law_chance f fd cc) (c__law_next : Cl P w K mg base 1 "_law_next" (spV K T C__law_next) []) : FnOk P w K mg base CX0 2 f fd ["_law_box_here"] (spV K T C__law_chance) := by
  refine F.ok sc__law_chance (fun vs H Q E h => ?_) (fun A outer s H vs Q E hr h => ?_)
  · obtain ⟨B, M, L, as, r, L', hT, w, ha, ⟨_, _, _, rfl, _⟩, k⟩ := h
    exact args_len ha
  · skip
    obtain ⟨B, M, L, as, r, L', rfl, w, ha, ⟨a0, p0, c, rfl, rfl, hm, rfl, rfl⟩, k⟩ := h
    obtain ⟨u0, rfl, f0⟩ := args1 ha
    replace f0 : u0 = V.ref p0 := f0
    subst f0
    unfold m_l_chance at hm
    refine ⟨_, (pss_cons (ps_ret (pe_ix ix_seq (pe_lst (pa_cons (pe_tup (pa_cons pe_int (pa_cons pe_int pa_nil))) (pa_cons (pe_tup (pa_cons pe_int (pa_cons pe_int pa_nil))) (pa_cons (pe_tup (pa_cons pe_int (pa_cons pe_int pa_nil))) (pa_cons (pe_tup (pa_cons pe_int (pa_cons pe_int pa_nil))) (pa_cons (pe_tup (pa_cons pe_int (pa_cons pe_int pa_nil))) (pa_cons (pe_tup (pa_cons pe_int (pa_cons pe_int pa_nil))) (pa_cons (pe_tup (pa_cons pe_int (pa_cons pe_int pa_nil))) pa_nil)))))))) (pe_c c__law_next hr (by omega) rfl (pa_cons (pv 0) (pa_cons pe_int pa_nil))) (fun _ _ => rfl))) pss_nil), ?_⟩
    rw [show start ["_law_box_here"] [.ref p0] = ([some (.ref p0)] : L2.St) from rfl]
    obtain ⟨t10, e11, hm⟩ := bindS hm
    obtain ⟨t12, e13, hm⟩ := bindS hm
    replace hm : some _ = some _ := hm
    obtain rfl := Option.some.inj hm
    exact q_ret w (ev_ix (ev_seqL (ev_frz (el_lst (r := (rT2 rInt rInt)) [((0 : Int), (1 : Int)), ((1 : Int), (1 : Int)), ((1 : Int), (2 : Int)), ((1 : Int), (3 : Int)), ((2 : Int), (3 : Int)), ((1 : Int), (4 : Int)), ((3 : Int), (4 : Int))] (ea_cons (ev_T2 (ea_cons (ev_int (i := 0)) (ea_cons (ev_int (i := 1)) ea_nil))) (ea_cons (ev_T2 (ea_cons (ev_int (i := 1)) (ea_cons (ev_int (i := 1)) ea_nil))) (ea_cons (ev_T2 (ea_cons (ev_int (i := 1)) (ea_cons (ev_int (i := 2)) ea_nil))) (ea_cons (ev_T2 (ea_cons (ev_int (i := 1)) (ea_cons (ev_int (i := 3)) ea_nil))) (ea_cons (ev_T2 (ea_cons (ev_int (i := 2)) (ea_cons (ev_int (i := 3)) ea_nil))) (ea_cons (ev_T2 (ea_cons (ev_int (i := 1)) (ea_cons (ev_int (i := 4)) ea_nil))) (ea_cons (ev_T2 (ea_cons (ev_int (i := 3)) (ea_cons (ev_int (i := 4)) ea_nil))) ea_nil)))))))))) (ev_callC 0 (x := ⟨p0, cBox, a0⟩) (x' := ⟨p0, cBox, t10.2⟩) (ea_cons (ev_varR rfl) (ea_cons (ev_int (i := 7)) ea_nil)) rfl ⟨_, _, _, _, rfl, rfl, e11, rfl, rfl⟩ rfl) e13) fun v9 B9 H9 x9 w9 h9 => k _ _ _ ((Ex.refl _).trans x9) w9 h9
noncomputable def m_l_line (a0 : (List Int × Int)) (a1 : Int) (a2 : Int) : Option (PyData × (List Int × Int)) :=
  Option.bind (m_l_next a0 ((6 : Int))) fun t10 =>
  if ((decide (a2 = (0 : Int))) || (decide (t10.1 = (0 : Int)))) = true then
    Option.bind (small62 a1) fun t17 =>
    Option.bind (room ((rng 0 a1)).length) fun t50 =>
    Option.bind (compM (S := (List Int × Int)) (β := Int) (fun (s19 : (List Int × Int)) (x26 : Int) => (Option.bind (m_l_next s19 ((2 : Int))) fun t43 => if (decide (t43.1 = (0 : Int))) = true then ( some (some x26, t43.2)) else some (none, t43.2))) t10.2 ((rng 0 a1))) fun t52 =>
    some (((dT2 PyData.str (dTup PyData.int)) (((Str.ofString "in"), t52.1))), t52.2)
  else
    Option.bind (m_l_next t10.2 a2) fun t55 =>
    Option.bind (m_l_next t55.2 a2) fun t60 =>
    if (decide (t10.1 = (1 : Int))) = true then
      some (((dT2 PyData.str PyData.int) (((Str.ofString "not"), t55.1))), t60.2)
    else
      if (decide (t10.1 = (2 : Int))) = true then
        some (((dT3 PyData.str PyData.int PyData.int) (((Str.ofString "and"), t55.1, t60.1))), t60.2)
      else
        Option.bind (m_l_next t60.2 ((2 : Int))) fun t71 =>
        Option.bind (m_l_next t71.2 ((2 : Int))) fun t73 =>
        Option.bind (m_l_chance t73.2) fun t75 =>
        if (decide (t10.1 = (3 : Int))) = true then
          Option.bind (asT (((dT3 PyData.bool PyData.bool (dT2 PyData.int PyData.int)) (((decide (t71.1 = (0 : Int))), (decide (t73.1 = (0 : Int))), t75.1))))) fun t82 =>
          Option.bind (catT ([(PyData.str ((Str.ofString "next")))]) t82) fun t84 =>
          Option.bind (catT t84 ([(PyData.int t55.1)])) fun t86 =>
          some (((dTup id) t86), t75.2)
        else
          if (decide (t10.1 = (4 : Int))) = true then
            Option.bind (asT (((dT3 PyData.bool PyData.bool (dT2 PyData.int PyData.int)) (((decide (t71.1 = (0 : Int))), (decide (t73.1 = (0 : Int))), t75.1))))) fun t91 =>
            Option.bind (catT ([(PyData.str ((Str.ofString "until")))]) t91) fun t93 =>
            Option.bind (catT t93 ([(PyData.int t55.1), (PyData.int t60.1)])) fun t95 =>
            some (((dTup id) t95), t75.2)
          else
            Option.bind (asT (((dT3 PyData.bool PyData.bool (dT2 PyData.int PyData.int)) (((decide (t71.1 = (0 : Int))), (decide (t73.1 = (0 : Int))), t75.1))))) fun t98 =>
            Option.bind (catT ([(PyData.str ((Str.ofString "within")))]) t98) fun t100 =>
            Option.bind (m_l_next t75.2 ((5 : Int))) fun t102 =>
            Option.bind (ixL ([(0 : Int), (1 : Int), (4 : Int), (29 : Int), (30 : Int)]) t102.1) fun t104 =>
            Option.bind (catT t100 ([(PyData.int t55.1), (PyData.int t60.1), (PyData.int t104)])) fun t106 =>
            some (((dTup id) t106), t102.2)
def C__law_line : List Arg → List Cell → Arg → List Cell → Prop := fun as L r L' => ∃ a0 a1 a2 p0 c, as = [⟨rRef, p0⟩, ⟨rInt, a1⟩, ⟨rInt, a2⟩] ∧ L = [⟨p0, cBox, a0⟩] ∧ m_l_line a0 a1 a2 = some c ∧ r = ⟨rDat, c.1⟩ ∧ L' = [⟨p0, cBox, c.2⟩]
theorem sc__law_line : FnScope ["_law_box_here", "_law_states_here", "_law_number", "_law_choice", "_law_one", "_law_two", "_law_head", "_law_state"] ["_law_box_here", "_law_states_here", "_law_number"] (defScope s__law_line) := ⟨rfl, rfl, rfl, by decide +kernel, rfl, by decide +kernel, by decide +kernel⟩
set_option maxHeartbeats 0 in
theorem ok__law_line (F : FunC K "_law_line" s__law_line f fd cc) (c__law_next : Cl P w K mg base 1 "_law_next" (spV K T C__law_next) []) (c__law_chance : Cl P w K mg base 2 "_law_chance" (spV K T C__law_chance) []) (z_range : mg "range" = none) (z_tuple : mg "tuple" = none) : FnOk P w K mg base CX0 3 f fd ["_law_box_here", "_law_states_here", "_law_number"] (spV K T C__law_line) := by
  refine F.ok sc__law_line (fun vs H Q E h => ?_) (fun A outer s H vs Q E hr h => ?_)
  · obtain ⟨B, M, L, as, r, L', hT, w, ha, ⟨_, _, _, _, _, rfl, _⟩, k⟩ := h
    exact args_len ha
  · skip
    obtain ⟨B, M, L, as, r, L', rfl, w, ha, ⟨a0, a1, a2, p0, c, rfl, rfl, hm, rfl, rfl⟩, k⟩ := h
    obtain ⟨u0, u1, u2, rfl, f0, f1, f2⟩ := args3 ha
    replace f0 : u0 = V.ref p0 := f0
    subst f0
    replace f1 : (rInt).is K B u1 a1 := f1
    replace f2 : (rInt).is K B u2 a2 := f2
    unfold m_l_line at hm
    refine ⟨_, (pss_cons (ps_set (i := 3) sc__law_line.nd rfl (by first | exact Or.inl rfl | exact Or.inr rfl) (pe_c c__law_next hr (by omega) rfl (pa_cons (pv 0) (pa_cons pe_int pa_nil)))) (pss_cons (ps_if (PW.pt (pw_or (pt_cmpR op_eq (pv 2) pe_int (nomark _)) (pw_or1 (pt_cmpR op_eq (pv 3) pe_int (nomark _))))) (pss_cons (ps_ret (pe_tup (pa_cons pe_str (pa_cons (pe_callTy call_tuple_of rfl z_tuple bt_tuple (pa_cons (pe_lc rfl sc__law_line.nd (pi_range1 rfl z_range (pa_cons (pv 1) pa_nil)) (blkOk_by (own := [("_law_state", 7)]) (show blkC ["_law_box_here", "_law_states_here", "_law_number", "_law_choice", "_law_one", "_law_two", "_law_head", "_law_state"] (defScope s__law_line) _ _ = true by decide +kernel)) (fun _ _ _ _ _ => (pg_name (i := 7) sc__law_line.nd rfl (by first | exact Or.inl rfl | exact Or.inr rfl))) (fun _ _ _ _ _ => (pts_one (pt_cmpR op_eq (pe_c c__law_next hr (by omega) rfl (pa_cons (pv 0) (pa_cons pe_int pa_nil))) pe_int (nomark _)))) (fun _ _ _ _ _ => (pv 7))) pa_nil)) pa_nil)))) pss_nil) pss_nil) (pss_cons (ps_set (i := 4) sc__law_line.nd rfl (by first | exact Or.inl rfl | exact Or.inr rfl) (pe_c c__law_next hr (by omega) rfl (pa_cons (pv 0) (pa_cons (pv 2) pa_nil)))) (pss_cons (ps_set (i := 5) sc__law_line.nd rfl (by first | exact Or.inl rfl | exact Or.inr rfl) (pe_c c__law_next hr (by omega) rfl (pa_cons (pv 0) (pa_cons (pv 2) pa_nil)))) (pss_cons (ps_if (pt_cmpR op_eq (pv 3) pe_int (nomark _)) (pss_cons (ps_ret (pe_tup (pa_cons pe_str (pa_cons (pv 4) pa_nil)))) pss_nil) pss_nil) (pss_cons (ps_if (pt_cmpR op_eq (pv 3) pe_int (nomark _)) (pss_cons (ps_ret (pe_tup (pa_cons pe_str (pa_cons (pv 4) (pa_cons (pv 5) pa_nil))))) pss_nil) pss_nil) (pss_cons (ps_set (i := 6) sc__law_line.nd rfl (by first | exact Or.inl rfl | exact Or.inr rfl) (pe_tup (pa_cons (pe_cmpR op_eq (pe_c c__law_next hr (by omega) rfl (pa_cons (pv 0) (pa_cons pe_int pa_nil))) pe_int (nomark _)) (pa_cons (pe_cmpR op_eq (pe_c c__law_next hr (by omega) rfl (pa_cons (pv 0) (pa_cons pe_int pa_nil))) pe_int (nomark _)) (pa_cons (pe_c c__law_chance hr (by omega) rfl (pa_cons (pv 0) pa_nil)) pa_nil))))) (pss_cons (ps_if (pt_cmpR op_eq (pv 3) pe_int (nomark _)) (pss_cons (ps_ret (pe_op op_catA (pe_op op_catA (pe_tup (pa_cons pe_str pa_nil)) (pv 6)) (pe_tup (pa_cons (pv 4) pa_nil)))) pss_nil) pss_nil) (pss_cons (ps_if (pt_cmpR op_eq (pv 3) pe_int (nomark _)) (pss_cons (ps_ret (pe_op op_catA (pe_op op_catA (pe_tup (pa_cons pe_str pa_nil)) (pv 6)) (pe_tup (pa_cons (pv 4) (pa_cons (pv 5) pa_nil))))) pss_nil) pss_nil) (pss_cons (ps_ret (pe_op op_catA (pe_op op_catA (pe_tup (pa_cons pe_str pa_nil)) (pv 6)) (pe_tup (pa_cons (pv 4) (pa_cons (pv 5) (pa_cons (pe_ix ix_seq (pe_lst (pa_cons pe_int (pa_cons pe_int (pa_cons pe_int (pa_cons pe_int (pa_cons pe_int pa_nil)))))) (pe_c c__law_next hr (by omega) rfl (pa_cons (pv 0) (pa_cons pe_int pa_nil))) (fun _ _ => rfl)) pa_nil)))))) pss_nil)))))))))), ?_⟩
    rw [show start ["_law_box_here", "_law_states_here", "_law_number", "_law_choice", "_law_one", "_law_two", "_law_head", "_law_state"] [.ref p0, u1, u2] = ([some (.ref p0), some u1, some u2, none, none, none, none, none] : L2.St) from rfl]
    obtain ⟨t10, e11, hm⟩ := bindS hm
    refine q_asg (n := 3) w (ev_callC 0 (x := ⟨p0, cBox, a0⟩) (x' := ⟨p0, cBox, t10.2⟩) (ea_cons (ev_varR rfl) (ea_cons (ev_int (i := 6)) ea_nil)) rfl ⟨_, _, _, _, rfl, rfl, e11, rfl, rfl⟩ rfl) fun v13 B12 H12 x12 (w12 : Own K B12 M [⟨p0, cBox, t10.2⟩] H12) h14 => ?_
    refine q_if w12 (et_or (et_test (ev_eqI (ev_varI rfl f2) (ev_int (i := 0)))) fun _ => (et_test (ev_eqI (ev_varI rfl h14) (ev_int (i := 0))))) (fun hb15 B16 H16 x16 (w16 : Own K B16 M [⟨p0, cBox, t10.2⟩] H16) => ?_) (fun hb15 B54 H54 x54 (w54 : Own K B54 M [⟨p0, cBox, t10.2⟩] H54) => ?_)
    · skip
      rw [if_pos hb15] at hm
      obtain ⟨t17, e18, hm⟩ := bindS hm
      obtain ⟨t50, e51, hm⟩ := bindS hm
      obtain ⟨t52, e53, hm⟩ := bindS hm
      replace hm : some _ = some _ := hm
      obtain rfl := Option.some.inj hm
      exact q_ret w16 (ev_dq (ev_T2 (ea_cons (ev_str (x := (Str.ofString "in"))) (ea_cons (ev_tupOfL (ev_frz (el_lc (S := (List Int × Int)) (ys := t52.1) (s1 := t52.2) (s0 := t10.2) (σ' := [some (.ref p0), some u1, some u2, some v13, none, none, none, none]) rInt (ei_rng1 (ea_cons (ev_varI rfl f1) ea_nil) e18) _ (fun (s19 : (List Int × Int)) => [⟨p0, cBox, s19⟩]) rfl e53 e51 rfl (by rintro s19 x26 o31 s32 v24 D29 a30 B20 H21 hb28 x22 w23 h25 PY33 PN34 qY35 qN36; replace w23 : Own K B20 M [⟨D29, (cLst rInt), a30⟩, ⟨p0, cBox, s19⟩] H21 := w23; refine g_name ?_; refine ⟨rfl, ?_⟩; obtain ⟨t43, e44, hb28⟩ := bindS hb28; exact (et_test (ev_eqI (ev_callC 1 (x := ⟨p0, cBox, s19⟩) (x' := ⟨p0, cBox, t43.2⟩) (ea_cons (ev_varR rfl) (ea_cons (ev_int (i := 2)) ea_nil)) rfl ⟨_, _, _, _, rfl, rfl, e44, rfl, rfl⟩ rfl) (ev_int (i := 0)))) B20 H21 (Ex.refl _) w23 _ fun B45 H46 x47 (w48 : Own K B45 M [⟨D29, (cLst rInt), a30⟩, ⟨p0, cBox, t43.2⟩] H46) => lc_if (fun hq49 => by rw [if_pos hq49] at hb28; obtain ⟨rfl, rfl⟩ := Prod.mk.inj (Option.some.inj hb28); exact (ev_varI rfl h25) B45 H46 (Ex.refl _) w48 _ fun v37 B38 H39 x40 w41 h42 => qY35 v37 B38 H39 _ rfl (x47.trans x40) w41 h42) (fun hq49 => by rw [if_neg (by rw [hq49]; exact Bool.false_ne_true)] at hb28; obtain ⟨rfl, rfl⟩ := Prod.mk.inj (Option.some.inj hb28); exact qN36 B45 H46 rfl x47 w48))))) ea_nil))) (dq_T2 dq_str (dq_tup dq_int))) fun v9 B9 H9 x9 w9 h9 => k _ _ _ ((x12.trans x16).trans x9) w9 h9
    rw [if_neg (by rw [hb15]; exact Bool.false_ne_true)] at hm
    obtain ⟨t55, e56, hm⟩ := bindS hm
    refine q_asg (n := 4) w54 (ev_callC 0 (x := ⟨p0, cBox, t10.2⟩) (x' := ⟨p0, cBox, t55.2⟩) (ea_cons (ev_varR rfl) (ea_cons (ev_varI rfl f2) ea_nil)) rfl ⟨_, _, _, _, rfl, rfl, e56, rfl, rfl⟩ rfl) fun v58 B57 H57 x57 (w57 : Own K B57 M [⟨p0, cBox, t55.2⟩] H57) h59 => ?_
    obtain ⟨t60, e61, hm⟩ := bindS hm
    refine q_asg (n := 5) w57 (ev_callC 0 (x := ⟨p0, cBox, t55.2⟩) (x' := ⟨p0, cBox, t60.2⟩) (ea_cons (ev_varR rfl) (ea_cons (ev_varI rfl f2) ea_nil)) rfl ⟨_, _, _, _, rfl, rfl, e61, rfl, rfl⟩ rfl) fun v63 B62 H62 x62 (w62 : Own K B62 M [⟨p0, cBox, t60.2⟩] H62) h64 => ?_
    refine q_if w62 (et_test (ev_eqI (ev_varI rfl h14) (ev_int (i := 1)))) (fun hb65 B66 H66 x66 (w66 : Own K B66 M [⟨p0, cBox, t60.2⟩] H66) => ?_) (fun hb65 B67 H67 x67 (w67 : Own K B67 M [⟨p0, cBox, t60.2⟩] H67) => ?_)
    · skip
      rw [if_pos hb65] at hm
      replace hm : some _ = some _ := hm
      obtain rfl := Option.some.inj hm
      exact q_ret w66 (ev_dq (ev_T2 (ea_cons (ev_str (x := (Str.ofString "not"))) (ea_cons (ev_varI rfl h59) ea_nil))) (dq_T2 dq_str dq_int)) fun v9 B9 H9 x9 w9 h9 => k _ _ _ (((((x12.trans x54).trans x57).trans x62).trans x66).trans x9) w9 h9
    rw [if_neg (by rw [hb65]; exact Bool.false_ne_true)] at hm
    refine q_if w67 (et_test (ev_eqI (ev_varI rfl h14) (ev_int (i := 2)))) (fun hb68 B69 H69 x69 (w69 : Own K B69 M [⟨p0, cBox, t60.2⟩] H69) => ?_) (fun hb68 B70 H70 x70 (w70 : Own K B70 M [⟨p0, cBox, t60.2⟩] H70) => ?_)
    · skip
      rw [if_pos hb68] at hm
      replace hm : some _ = some _ := hm
      obtain rfl := Option.some.inj hm
      exact q_ret w69 (ev_dq (ev_T3 (ea_cons (ev_str (x := (Str.ofString "and"))) (ea_cons (ev_varI rfl h59) (ea_cons (ev_varI rfl h64) ea_nil)))) (dq_T3 dq_str dq_int dq_int)) fun v9 B9 H9 x9 w9 h9 => k _ _ _ ((((((x12.trans x54).trans x57).trans x62).trans x67).trans x69).trans x9) w9 h9
    rw [if_neg (by rw [hb68]; exact Bool.false_ne_true)] at hm
    obtain ⟨t71, e72, hm⟩ := bindS hm
    obtain ⟨t73, e74, hm⟩ := bindS hm
    obtain ⟨t75, e76, hm⟩ := bindS hm
    refine q_asg (n := 6) w70 (ev_dq (ev_T3 (ea_cons (ev_eqI (ev_callC 0 (x := ⟨p0, cBox, t60.2⟩) (x' := ⟨p0, cBox, t71.2⟩) (ea_cons (ev_varR rfl) (ea_cons (ev_int (i := 2)) ea_nil)) rfl ⟨_, _, _, _, rfl, rfl, e72, rfl, rfl⟩ rfl) (ev_int (i := 0))) (ea_cons (ev_eqI (ev_callC 0 (x := ⟨p0, cBox, t71.2⟩) (x' := ⟨p0, cBox, t73.2⟩) (ea_cons (ev_varR rfl) (ea_cons (ev_int (i := 2)) ea_nil)) rfl ⟨_, _, _, _, rfl, rfl, e74, rfl, rfl⟩ rfl) (ev_int (i := 0))) (ea_cons (ev_callC 0 (x := ⟨p0, cBox, t73.2⟩) (x' := ⟨p0, cBox, t75.2⟩) (ea_cons (ev_varR rfl) ea_nil) rfl ⟨_, _, _, rfl, rfl, e76, rfl, rfl⟩ rfl) ea_nil)))) (dq_T3 dq_bool dq_bool (dq_T2 dq_int dq_int))) fun v78 B77 H77 x77 (w77 : Own K B77 M [⟨p0, cBox, t75.2⟩] H77) h79 => ?_
    refine q_if w77 (et_test (ev_eqI (ev_varI rfl h14) (ev_int (i := 3)))) (fun hb80 B81 H81 x81 (w81 : Own K B81 M [⟨p0, cBox, t75.2⟩] H81) => ?_) (fun hb80 B88 H88 x88 (w88 : Own K B88 M [⟨p0, cBox, t75.2⟩] H88) => ?_)
    · skip
      rw [if_pos hb80] at hm
      obtain ⟨t82, e83, hm⟩ := bindS hm
      obtain ⟨t84, e85, hm⟩ := bindS hm
      obtain ⟨t86, e87, hm⟩ := bindS hm
      replace hm : some _ = some _ := hm
      obtain rfl := Option.some.inj hm
      exact q_ret w81 (ev_dq (ev_catT (ev_catT (ev_tup (r := rDat) [(PyData.str ((Str.ofString "next")))] (ea_cons (ev_dq (ev_str (x := (Str.ofString "next"))) dq_str) ea_nil)) (ev_asT (ev_var rfl ((rDat).mono x81 h79)) e83) e85) (ev_tup (r := rDat) [(PyData.int t55.1)] (ea_cons (ev_dq (ev_varI rfl h59) dq_int) ea_nil)) e87) (dq_tup dq_dat)) fun v9 B9 H9 x9 w9 h9 => k _ _ _ ((((((((x12.trans x54).trans x57).trans x62).trans x67).trans x70).trans x77).trans x81).trans x9) w9 h9
    rw [if_neg (by rw [hb80]; exact Bool.false_ne_true)] at hm
    refine q_if w88 (et_test (ev_eqI (ev_varI rfl h14) (ev_int (i := 4)))) (fun hb89 B90 H90 x90 (w90 : Own K B90 M [⟨p0, cBox, t75.2⟩] H90) => ?_) (fun hb89 B97 H97 x97 (w97 : Own K B97 M [⟨p0, cBox, t75.2⟩] H97) => ?_)
    · skip
      rw [if_pos hb89] at hm
      obtain ⟨t91, e92, hm⟩ := bindS hm
      obtain ⟨t93, e94, hm⟩ := bindS hm
      obtain ⟨t95, e96, hm⟩ := bindS hm
      replace hm : some _ = some _ := hm
      obtain rfl := Option.some.inj hm
      exact q_ret w90 (ev_dq (ev_catT (ev_catT (ev_tup (r := rDat) [(PyData.str ((Str.ofString "until")))] (ea_cons (ev_dq (ev_str (x := (Str.ofString "until"))) dq_str) ea_nil)) (ev_asT (ev_var rfl ((rDat).mono (x88.trans x90) h79)) e92) e94) (ev_tup (r := rDat) [(PyData.int t55.1), (PyData.int t60.1)] (ea_cons (ev_dq (ev_varI rfl h59) dq_int) (ea_cons (ev_dq (ev_varI rfl h64) dq_int) ea_nil))) e96) (dq_tup dq_dat)) fun v9 B9 H9 x9 w9 h9 => k _ _ _ (((((((((x12.trans x54).trans x57).trans x62).trans x67).trans x70).trans x77).trans x88).trans x90).trans x9) w9 h9
    rw [if_neg (by rw [hb89]; exact Bool.false_ne_true)] at hm
    obtain ⟨t98, e99, hm⟩ := bindS hm
    obtain ⟨t100, e101, hm⟩ := bindS hm
    obtain ⟨t102, e103, hm⟩ := bindS hm
    obtain ⟨t104, e105, hm⟩ := bindS hm
    obtain ⟨t106, e107, hm⟩ := bindS hm
    replace hm : some _ = some _ := hm
    obtain rfl := Option.some.inj hm
    exact q_ret w97 (ev_dq (ev_catT (ev_catT (ev_tup (r := rDat) [(PyData.str ((Str.ofString "within")))] (ea_cons (ev_dq (ev_str (x := (Str.ofString "within"))) dq_str) ea_nil)) (ev_asT (ev_var rfl ((rDat).mono (x88.trans x97) h79)) e99) e101) (ev_tup (r := rDat) [(PyData.int t55.1), (PyData.int t60.1), (PyData.int t104)] (ea_cons (ev_dq (ev_varI rfl h59) dq_int) (ea_cons (ev_dq (ev_varI rfl h64) dq_int) (ea_cons (ev_dq (ev_ix (ev_seqL (ev_frz (el_lst (r := rInt) [(0 : Int), (1 : Int), (4 : Int), (29 : Int), (30 : Int)] (ea_cons (ev_int (i := 0)) (ea_cons (ev_int (i := 1)) (ea_cons (ev_int (i := 4)) (ea_cons (ev_int (i := 29)) (ea_cons (ev_int (i := 30)) ea_nil)))))))) (ev_callC 0 (x := ⟨p0, cBox, t75.2⟩) (x' := ⟨p0, cBox, t102.2⟩) (ea_cons (ev_varR rfl) (ea_cons (ev_int (i := 5)) ea_nil)) rfl ⟨_, _, _, _, rfl, rfl, e103, rfl, rfl⟩ rfl) e105) dq_int) ea_nil)))) e107) (dq_tup dq_dat)) fun v9 B9 H9 x9 w9 h9 => k _ _ _ (((((((((x12.trans x54).trans x57).trans x62).trans x67).trans x70).trans x77).trans x88).trans x97).trans x9) w9 h9
noncomputable def m_l_sentence (a0 : (List Int × Int)) (a1 : Int) (a2 : Int) : Option ((List PyData) × (List Int × Int)) :=
  Option.bind (m_l_next a0 a2) fun t12 =>
  Option.bind (small62 (((1 : Int) + t12.1))) fun t14 =>
  Option.bind (foldO (S := ((List PyData) × (List Int × Int))) (α := Int) (fun (s16 : ((List PyData) × (List Int × Int))) (x17 : Int) => (
    Option.bind (m_l_line s16.2 a1 x17) fun t36 =>
    Option.bind (room s16.1.length) fun t38 =>
    some (((s16.1 ++ [t36.1]), t36.2))
  )) ((([] : List PyData), t12.2)) ((rng 0 (((1 : Int) + t12.1))))) fun s41 =>
  some (s41.1, s41.2)
def C__law_sentence : List Arg → List Cell → Arg → List Cell → Prop := fun as L r L' => ∃ a0 a1 a2 p0 c, as = [⟨rRef, p0⟩, ⟨rInt, a1⟩, ⟨rInt, a2⟩] ∧ L = [⟨p0, cBox, a0⟩] ∧ m_l_sentence a0 a1 a2 = some c ∧ r = ⟨(rTup rDat), c.1⟩ ∧ L' = [⟨p0, cBox, c.2⟩]
theorem sc__law_sentence : FnScope ["_law_box_here", "_law_states_here", "_law_most", "_law_lines", "_law_k"] ["_law_box_here", "_law_states_here", "_law_most"] (defScope s__law_sentence) := ⟨rfl, rfl, rfl, by decide +kernel, rfl, by decide +kernel, by decide +kernel⟩
set_option maxHeartbeats 0 in
theorem ok__law_sentence (F : FunC K "_law_sentence" s__law_sentence f fd cc) (c__law_next : Cl P w K mg base 1 "_law_next" (spV K T C__law_next) []) (c__law_line : Cl P w K mg base 3 "_law_line" (spV K T C__law_line) []) (z_range : mg "range" = none) (z_tuple : mg "tuple" = none) : FnOk P w K mg base CX0 4 f fd ["_law_box_here", "_law_states_here", "_law_most"] (spV K T C__law_sentence) := by
  refine F.ok sc__law_sentence (fun vs H Q E h => ?_) (fun A outer s H vs Q E hr h => ?_)
  · obtain ⟨B, M, L, as, r, L', hT, w, ha, ⟨_, _, _, _, _, rfl, _⟩, k⟩ := h
    exact args_len ha
  · skip
    obtain ⟨B, M, L, as, r, L', rfl, w, ha, ⟨a0, a1, a2, p0, c, rfl, rfl, hm, rfl, rfl⟩, k⟩ := h
    obtain ⟨u0, u1, u2, rfl, f0, f1, f2⟩ := args3 ha
    replace f0 : u0 = V.ref p0 := f0
    subst f0
    replace f1 : (rInt).is K B u1 a1 := f1
    replace f2 : (rInt).is K B u2 a2 := f2
    unfold m_l_sentence at hm
    refine ⟨_, (pss_cons (ps_set (i := 3) sc__law_sentence.nd rfl (by first | exact Or.inl rfl | exact Or.inr rfl) (pe_lst pa_nil)) (pss_cons (ps_for PassesOwn.never rfl (pi_range1 rfl z_range (pa_cons (pe_op op_add pe_int (pe_c c__law_next hr (by omega) rfl (pa_cons (pv 0) (pa_cons (pv 2) pa_nil)))) pa_nil)) (pg_name (i := 4) sc__law_sentence.nd rfl (by first | exact Or.inl rfl | exact Or.inr rfl)) (pss_cons (ps_expr (pe_bm PySem.F.plainAttrs_list PySem.F.slot_list_append PySem.F.type_list_append mt_append (pv 3) (pa_cons (pe_c c__law_line hr (by omega) rfl (pa_cons (pv 0) (pa_cons (pv 1) (pa_cons (pv 4) pa_nil)))) pa_nil))) pss_nil)) (pss_cons (ps_ret (pe_callTy call_tuple_of rfl z_tuple bt_tuple (pa_cons (pv 3) pa_nil))) pss_nil))), ?_⟩
    rw [show start ["_law_box_here", "_law_states_here", "_law_most", "_law_lines", "_law_k"] [.ref p0, u1, u2] = ([some (.ref p0), some u1, some u2, none, none] : L2.St) from rfl]
    refine q_asgL (n := 3) w (el_lst (r := rDat) ([] : List PyData) ea_nil) fun p11 B10 H10 x10 (w10 : Own K B10 M [⟨p11, (cLst rDat), ([] : List PyData)⟩, ⟨p0, cBox, a0⟩] H10) => ?_
    obtain ⟨t12, e13, hm⟩ := bindS hm
    obtain ⟨t14, e15, hm⟩ := bindS hm
    obtain ⟨s41, e20, hm⟩ := bindS hm
    refine q_fold w10 (ei_rng1 (ea_cons (ev_add (ev_int (i := 1)) (ev_callC 1 (x := ⟨p0, cBox, a0⟩) (x' := ⟨p0, cBox, t12.2⟩) (ea_cons (ev_varR rfl) (ea_cons (ev_varI rfl f2) ea_nil)) rfl ⟨_, _, _, _, rfl, rfl, e13, rfl, rfl⟩ rfl)) ea_nil) e15) _ (fun s16 B21 σ34 => ∃ o35, σ34 = [some (.ref p0), some u1, some u2, some (.ref p11), o35]) (fun s16 => [⟨p11, (cLst rDat), s16.1⟩, ⟨p0, cBox, s16.2⟩]) ((([] : List PyData), t12.2)) e20 (fun B9 x9 => ⟨_, rfl⟩) rfl ?_ ?_
    · skip
      rintro s16 x17 s48 v27 B21 B22 H23 σ34 hb18 x24 ⟨o35, rfl⟩ x25 w26 h28 N29 K30 hN31
      replace w26 : Own K B22 M [⟨p11, (cLst rDat), s16.1⟩, ⟨p0, cBox, s16.2⟩] H23 := w26
      refine g_name ?_
      obtain ⟨t36, e37, hb18⟩ := bindS hb18
      obtain ⟨t38, e39, hb18⟩ := bindS hb18
      refine q_app (n := 0) (m := 3) w26 rfl (ev_callC 1 (x := ⟨p0, cBox, s16.2⟩) (x' := ⟨p0, cBox, t36.2⟩) (ea_cons (ev_varR rfl) (ea_cons (ev_varI rfl f1) (ea_cons (ev_varI rfl h28) ea_nil))) rfl ⟨_, _, _, _, _, rfl, rfl, e37, rfl, rfl⟩ rfl) rfl ⟨0, _, rfl⟩ e39 fun B40 H40 x40 (w40 : Own K B40 M [⟨p11, (cLst rDat), (s16.1 ++ [t36.1])⟩, ⟨p0, cBox, t36.2⟩] H40) => ?_
      replace hb18 : some _ = some _ := hb18
      cases hb18
      exact hN31 _ _ _ x40 w40 ⟨_, rfl⟩
    rintro B42 H43 σ46 x44 w45 ⟨o47, rfl⟩
    replace w45 : Own K B42 M [⟨p11, (cLst rDat), s41.1⟩, ⟨p0, cBox, s41.2⟩] H43 := w45
    replace hm : some _ = some _ := hm
    obtain rfl := Option.some.inj hm
    exact q_ret w45 (ev_tupOfC (n := 0) (ev_varR rfl) rfl) fun v9 B9 H9 x9 w9 h9 => k _ _ _ ((x10.trans x44).trans x9) w9.tail h9
noncomputable def m_law (a0 : (List Int)) : Option Bool :=
  Option.bind (m_l_box a0) fun t10 =>
  Option.bind (m_l_next t10 ((5 : Int))) fun t14 =>
  Option.bind (m_l_system t14.2 (((1 : Int) + t14.1)) ((2 : Int)) ((2 : Int))) fun t19 =>
  Option.bind (m_l_sentence t19.2 (((1 : Int) + t14.1)) ((8 : Int))) fun t24 =>
  Option.bind (m_is_valid t19.1 t24.1) fun t29 =>
  Option.bind ((if (!decide (t29 = true)) = true then (some (true)) else (Option.bind (m_is_valid t19.1 (([] : List PyData))) fun t31 => some ((!decide (t31 = false)))))) fun t33 =>
  if t33 = true then
    some false
  else
    Option.bind (catT ([((dT2 PyData.str (dTup PyData.int)) (((Str.ofString "in"), [((1 : Int) + t14.1)]))), ((dT2 PyData.str (dTup PyData.int)) (((Str.ofString "in"), [((0 : Int) - (1 : Int))]))), ((dT2 PyData.str (dT2 PyData.int PyData.int)) (((Str.ofString "in"), ((0 : Int), (0 : Int))))), ((dTup PyData.str) ([(Str.ofString "in")])), ((dT3 PyData.str (dTup PyData.int) PyData.int) (((Str.ofString "in"), [(0 : Int)], (0 : Int)))), ((dT2 PyData.str PyData.int) (((Str.ofString "not"), (t24.1.length : Int)))), ((dT2 PyData.str PyData.int) (((Str.ofString "not"), ((0 : Int) - (1 : Int)))))]) ([((dT3 PyData.str PyData.int PyData.int) (((Str.ofString "and"), (0 : Int), (t24.1.length : Int)))), ((dT2 PyData.str PyData.int) (((Str.ofString "and"), (0 : Int)))), ((dTup PyData.str) ([(Str.ofString "not")])), ((dT3 PyData.str PyData.int PyData.int) (((Str.ofString "or"), (0 : Int), (0 : Int)))), ((dTup id) ([(PyData.str ((Str.ofString "next"))), (PyData.bool true), (PyData.bool true), ((dT2 PyData.int PyData.int) (((1 : Int), (2 : Int)))), (PyData.int ((t24.1.length : Int)))])), ((dT2 PyData.str PyData.bool) (((Str.ofString "until"), true)))])) fun t48 =>
    Option.bind (catT t48 ([((dTup id) ([(PyData.str ((Str.ofString "next"))), (PyData.bool true), (PyData.bool true), ((dT2 PyData.int PyData.int) (((3 : Int), (2 : Int)))), (PyData.int ((0 : Int)))])), ((dTup id) ([(PyData.str ((Str.ofString "next"))), (PyData.bool true), (PyData.bool false), ((dT2 PyData.int PyData.int) ((((0 : Int) - (1 : Int)), (2 : Int)))), (PyData.int ((0 : Int)))])), ((dTup id) ([(PyData.str ((Str.ofString "next"))), (PyData.bool true), (PyData.bool true), ((dT2 PyData.int PyData.int) (((2 : Int), (4 : Int)))), (PyData.int ((0 : Int)))]))])) fun t53 =>
    Option.bind (catT t53 ([((dTup id) ([(PyData.str ((Str.ofString "next"))), (PyData.bool true), (PyData.bool true), ((dT2 PyData.int PyData.int) (((1 : Int), (2 : Int)))), (PyData.int ((0 : Int))), (PyData.int ((0 : Int)))])), ((dTup id) ([(PyData.str ((Str.ofString "until"))), (PyData.bool true), (PyData.bool true), ((dT2 PyData.int PyData.int) (((1 : Int), (2 : Int)))), (PyData.int ((0 : Int)))])), ((dTup id) ([(PyData.str ((Str.ofString "until"))), (PyData.bool true), (PyData.bool true), ((dT2 PyData.int PyData.int) (((1 : Int), (2 : Int)))), (PyData.int ((t24.1.length : Int))), (PyData.int ((0 : Int)))]))])) fun t58 =>
    Option.bind (catT t58 ([((dTup id) ([(PyData.str ((Str.ofString "until"))), (PyData.bool false), (PyData.bool true), ((dT2 PyData.int PyData.int) (((1 : Int), (0 : Int)))), (PyData.int ((0 : Int))), (PyData.int ((0 : Int)))])), ((dTup id) ([(PyData.str ((Str.ofString "within"))), (PyData.bool true), (PyData.bool true), ((dT2 PyData.int PyData.int) (((1 : Int), (2 : Int)))), (PyData.int ((0 : Int))), (PyData.int ((0 : Int))), (PyData.int ((31 : Int)))])), ((dT2 PyData.str PyData.int) (((Str.ofString ""), (0 : Int)))), ((dT2 PyData.str (dT2 PyData.int PyData.int)) (((Str.ofString "chance"), ((1 : Int), (2 : Int)))))])) fun t63 =>
    Option.bind (catT t63 ([((dTup id) ([(PyData.str ((Str.ofString "within"))), (PyData.bool true), (PyData.bool true), ((dT2 PyData.int PyData.int) (((1 : Int), (2 : Int)))), (PyData.int ((0 : Int))), (PyData.int ((0 : Int))), (PyData.int (((0 : Int) - (1 : Int))))])), ((dTup id) ([(PyData.str ((Str.ofString "within"))), (PyData.bool true), (PyData.bool true), ((dT2 PyData.int PyData.int) (((1 : Int), (2 : Int)))), (PyData.int ((0 : Int))), (PyData.int ((0 : Int)))])), ((dTup id) ([(PyData.str ((Str.ofString "until"))), (PyData.bool true), (PyData.bool true), ((dT2 PyData.int PyData.int) (((4 : Int), (3 : Int)))), (PyData.int ((0 : Int))), (PyData.int ((0 : Int)))]))])) fun t68 =>
    Option.bind (catT t68 ([((dTup id) ([(PyData.str ((Str.ofString "within"))), (PyData.bool true), (PyData.bool true), ((dT2 PyData.int PyData.int) (((1 : Int), (2 : Int)))), (PyData.int ((0 : Int))), (PyData.int ((t24.1.length : Int))), (PyData.int ((3 : Int)))])), ((dTup id) ([(PyData.str ((Str.ofString "within"))), (PyData.bool true), (PyData.bool true), ((dT2 PyData.int PyData.int) (((0 : Int), (2 : Int)))), (PyData.int ((0 : Int))), (PyData.int ((0 : Int))), (PyData.int ((3 : Int)))])), ((dTup id) ([(PyData.str ((Str.ofString "within"))), (PyData.bool true), (PyData.bool true), ((dT2 PyData.int PyData.int) (((2 : Int), (1 : Int)))), (PyData.int ((0 : Int))), (PyData.int ((0 : Int))), (PyData.int ((3 : Int)))]))])) fun t73 =>
    Option.bind (catT t73 ([((dT3 PyData.str PyData.int PyData.int) (((Str.ofString "and"), (t24.1.length : Int), (0 : Int)))), ((dT3 PyData.str PyData.int PyData.int) (((Str.ofString "and"), ((0 : Int) - (1 : Int)), (0 : Int)))), ((dT3 PyData.str PyData.int PyData.int) (((Str.ofString "and"), (0 : Int), ((0 : Int) - (1 : Int))))), ((dTup id) ([(PyData.str ((Str.ofString "until"))), (PyData.bool true), (PyData.bool true), ((dT2 PyData.int PyData.int) (((1 : Int), (2 : Int)))), (PyData.int ((0 : Int))), (PyData.int ((t24.1.length : Int)))]))])) fun t81 =>
    Option.bind (catT t81 ([((dTup id) ([(PyData.str ((Str.ofString "until"))), (PyData.bool true), (PyData.bool true), ((dT2 PyData.int PyData.int) (((1 : Int), (2 : Int)))), (PyData.int (((0 : Int) - (1 : Int)))), (PyData.int ((0 : Int)))])), ((dTup id) ([(PyData.str ((Str.ofString "until"))), (PyData.bool true), (PyData.bool true), ((dT2 PyData.int PyData.int) (((1 : Int), (2 : Int)))), (PyData.int ((0 : Int))), (PyData.int (((0 : Int) - (1 : Int))))])), ((dTup id) ([(PyData.str ((Str.ofString "next"))), (PyData.bool true), (PyData.bool true), ((dT2 PyData.int PyData.int) (((1 : Int), (2 : Int)))), (PyData.int (((0 : Int) - (1 : Int))))]))])) fun t86 =>
    Option.bind (catT t86 ([((dTup id) ([(PyData.str ((Str.ofString "within"))), (PyData.bool true), (PyData.bool true), ((dT2 PyData.int PyData.int) (((1 : Int), (2 : Int)))), (PyData.int ((t24.1.length : Int))), (PyData.int ((0 : Int))), (PyData.int ((3 : Int)))])), ((dTup id) ([(PyData.str ((Str.ofString "within"))), (PyData.bool true), (PyData.bool true), ((dT2 PyData.int PyData.int) (((1 : Int), (2 : Int)))), (PyData.int ((0 : Int))), (PyData.int (((0 : Int) - (1 : Int)))), (PyData.int ((3 : Int)))])), ((dT2 PyData.str (dT2 PyData.int PyData.int)) (((Str.ofString "in"), ((0 : Int), ((1 : Int) + t14.1)))))])) fun t91 =>
    Option.bind (if (decide (((1 : Int) + t14.1) > (1 : Int))) = true then
      Option.bind (catT t91 ([((dT2 PyData.str (dT2 PyData.int PyData.int)) (((Str.ofString "in"), ((1 : Int), (0 : Int))))), ((dT2 PyData.str (dT2 PyData.int PyData.int)) (((Str.ofString "in"), ((((1 : Int) + t14.1) - (1 : Int)), (0 : Int))))), ((dT2 PyData.str (dT3 PyData.int PyData.int PyData.int)) (((Str.ofString "in"), ((0 : Int), (1 : Int), (1 : Int)))))])) fun t100 =>
      some t100
    else
      some t91
    ) fun (s97 : (List PyData)) =>
    Option.bind (m_l_next t24.2 ((s97.length : Int))) fun t110 =>
    Option.bind (ixL s97 t110.1) fun t112 =>
    Option.bind (catT t24.1 ([t112])) fun t117 =>
    Option.bind (m_is_valid t19.1 t117) fun t119 =>
    Option.bind ((if (!decide (t119 = false)) = true then (some (true)) else (Option.bind (catT t24.1 ([t112, ((dTup id) ([(PyData.str ((Str.ofString "in"))), ((dTup id) (([] : List PyData)))]))])) fun t121 => Option.bind (m_is_valid t19.1 t121) fun t123 => some ((!decide (t123 = false)))))) fun t125 =>
    if t125 = true then
      some false
    else
      Option.bind (m_l_next t110.2 ((3 : Int))) fun t131 =>
      Option.bind (repA ([((dT2 PyData.str (dTup PyData.int)) (((Str.ofString "in"), [(0 : Int)])))]) (((39 : Int) + t131.1))) fun t136 =>
      Option.bind (m_is_valid t19.1 t136) fun t138 =>
      some (decide (t138 = (decide (((39 : Int) + t131.1) ≤ (40 : Int)))))
def C_law : List Arg → List Cell → Arg → List Cell → Prop := fun as L r L' => ∃ a0 c, as = [⟨(rScr rInt), a0⟩] ∧ L = [] ∧ m_law a0 = some c ∧ r = ⟨rBool, c⟩ ∧ L' = []
theorem sc_law : FnScope ["_law_script", "_law_box_here", "_law_states_here", "_law_system_here", "_law_sentence_here", "_law_size", "_law_half", "_law_bad", "_law_low", "_law_wrong", "_law_many"] ["_law_script"] (defScope s_law) := ⟨rfl, rfl, rfl, by decide +kernel, rfl, by decide +kernel, by decide +kernel⟩
set_option maxHeartbeats 0 in
theorem ok_law (F : FunC K "law" s_law f fd cc) (c__law_box : Cl P w K mg base 2 "_law_box" (spC K T cBox C__law_box) []) (c__law_next : Cl P w K mg base 1 "_law_next" (spV K T C__law_next) []) (c__law_system : Cl P w K mg base 3 "_law_system" (spV K T C__law_system) []) (c__law_sentence : Cl P w K mg base 4 "_law_sentence" (spV K T C__law_sentence) []) (c_is_valid : Cl P w K mg base 5 "is_valid" (spV K T C_is_valid) []) (z_len : mg "len" = none) : FnOk P w K mg base CX0 6 f fd ["_law_script"] (spV K T C_law) := by
  refine F.ok sc_law (fun vs H Q E h => ?_) (fun A outer s H vs Q E hr h => ?_)
  · obtain ⟨B, M, L, as, r, L', hT, w, ha, ⟨_, _, rfl, _⟩, k⟩ := h
    exact args_len ha
  · skip
    obtain ⟨B, M, L, as, r, L', rfl, w, ha, ⟨a0, c, rfl, rfl, hm, rfl, rfl⟩, k⟩ := h
    obtain ⟨u0, rfl, f0⟩ := args1 ha
    replace f0 : ((rScr rInt)).is K B u0 a0 := f0
    unfold m_law at hm
    refine ⟨_, (pss_cons (ps_set (i := 1) sc_law.nd rfl (by first | exact Or.inl rfl | exact Or.inr rfl) (pe_c c__law_box hr (by omega) rfl (pa_cons (pv 0) pa_nil))) (pss_cons (ps_set (i := 2) sc_law.nd rfl (by first | exact Or.inl rfl | exact Or.inr rfl) (pe_op op_add pe_int (pe_c c__law_next hr (by omega) rfl (pa_cons (pv 1) (pa_cons pe_int pa_nil))))) (pss_cons (ps_set (i := 3) sc_law.nd rfl (by first | exact Or.inl rfl | exact Or.inr rfl) (pe_c c__law_system hr (by omega) rfl (pa_cons (pv 1) (pa_cons (pv 2) (pa_cons pe_int (pa_cons pe_int pa_nil)))))) (pss_cons (ps_set (i := 4) sc_law.nd rfl (by first | exact Or.inl rfl | exact Or.inr rfl) (pe_c c__law_sentence hr (by omega) rfl (pa_cons (pv 1) (pa_cons (pv 2) (pa_cons pe_int pa_nil))))) (pss_cons (ps_if (PW.pt (pw_or (pt_cmpR L3G.op_isnB (pe_c c_is_valid hr (by omega) rfl (pa_cons (pv 3) (pa_cons (pv 4) pa_nil))) pe_bl (nomark _)) (pw_or1 (pt_cmpR L3G.op_isnB (pe_c c_is_valid hr (by omega) rfl (pa_cons (pv 3) (pa_cons (pe_tup pa_nil) pa_nil))) pe_bl (nomark _))))) (pss_cons (ps_ret pe_bl) pss_nil) pss_nil) (pss_cons (ps_set (i := 5) sc_law.nd rfl (by first | exact Or.inl rfl | exact Or.inr rfl) (pe_callB call_len_seq rfl z_len bt_len (pa_cons (pv 4) pa_nil))) (pss_cons (ps_set (i := 6) sc_law.nd rfl (by first | exact Or.inl rfl | exact Or.inr rfl) (pe_tup (pa_cons pe_int (pa_cons pe_int pa_nil)))) (pss_cons (ps_set (i := 7) sc_law.nd rfl (by first | exact Or.inl rfl | exact Or.inr rfl) (pe_lst (pa_cons (pe_tup (pa_cons pe_str (pa_cons (pe_tup (pa_cons (pv 2) pa_nil)) pa_nil))) (pa_cons (pe_tup (pa_cons pe_str (pa_cons (pe_tup (pa_cons (pe_op op_sub pe_int pe_int) pa_nil)) pa_nil))) (pa_cons (pe_tup (pa_cons pe_str (pa_cons (pe_tup (pa_cons pe_int (pa_cons pe_int pa_nil))) pa_nil))) (pa_cons (pe_tup (pa_cons pe_str pa_nil)) (pa_cons (pe_tup (pa_cons pe_str (pa_cons (pe_tup (pa_cons pe_int pa_nil)) (pa_cons pe_int pa_nil)))) (pa_cons (pe_tup (pa_cons pe_str (pa_cons (pv 5) pa_nil))) (pa_cons (pe_tup (pa_cons pe_str (pa_cons (pe_op op_sub pe_int pe_int) pa_nil))) pa_nil))))))))) (pss_cons (ps_set (i := 7) sc_law.nd rfl (by first | exact Or.inl rfl | exact Or.inr rfl) (pe_op op_cat (pv 7) (pe_lst (pa_cons (pe_tup (pa_cons pe_str (pa_cons pe_int (pa_cons (pv 5) pa_nil)))) (pa_cons (pe_tup (pa_cons pe_str (pa_cons pe_int pa_nil))) (pa_cons (pe_tup (pa_cons pe_str pa_nil)) (pa_cons (pe_tup (pa_cons pe_str (pa_cons pe_int (pa_cons pe_int pa_nil)))) (pa_cons (pe_tup (pa_cons pe_str (pa_cons pe_bl (pa_cons pe_bl (pa_cons (pv 6) (pa_cons (pv 5) pa_nil)))))) (pa_cons (pe_tup (pa_cons pe_str (pa_cons pe_bl pa_nil))) pa_nil))))))))) (pss_cons (ps_set (i := 7) sc_law.nd rfl (by first | exact Or.inl rfl | exact Or.inr rfl) (pe_op op_cat (pv 7) (pe_lst (pa_cons (pe_tup (pa_cons pe_str (pa_cons pe_bl (pa_cons pe_bl (pa_cons (pe_tup (pa_cons pe_int (pa_cons pe_int pa_nil))) (pa_cons pe_int pa_nil)))))) (pa_cons (pe_tup (pa_cons pe_str (pa_cons pe_bl (pa_cons pe_bl (pa_cons (pe_tup (pa_cons (pe_op op_sub pe_int pe_int) (pa_cons pe_int pa_nil))) (pa_cons pe_int pa_nil)))))) (pa_cons (pe_tup (pa_cons pe_str (pa_cons pe_bl (pa_cons pe_bl (pa_cons (pe_tup (pa_cons pe_int (pa_cons pe_int pa_nil))) (pa_cons pe_int pa_nil)))))) pa_nil)))))) (pss_cons (ps_set (i := 7) sc_law.nd rfl (by first | exact Or.inl rfl | exact Or.inr rfl) (pe_op op_cat (pv 7) (pe_lst (pa_cons (pe_tup (pa_cons pe_str (pa_cons pe_bl (pa_cons pe_bl (pa_cons (pv 6) (pa_cons pe_int (pa_cons pe_int pa_nil))))))) (pa_cons (pe_tup (pa_cons pe_str (pa_cons pe_bl (pa_cons pe_bl (pa_cons (pv 6) (pa_cons pe_int pa_nil)))))) (pa_cons (pe_tup (pa_cons pe_str (pa_cons pe_bl (pa_cons pe_bl (pa_cons (pv 6) (pa_cons (pv 5) (pa_cons pe_int pa_nil))))))) pa_nil)))))) (pss_cons (ps_set (i := 7) sc_law.nd rfl (by first | exact Or.inl rfl | exact Or.inr rfl) (pe_op op_cat (pv 7) (pe_lst (pa_cons (pe_tup (pa_cons pe_str (pa_cons pe_bl (pa_cons pe_bl (pa_cons (pe_tup (pa_cons pe_int (pa_cons pe_int pa_nil))) (pa_cons pe_int (pa_cons pe_int pa_nil))))))) (pa_cons (pe_tup (pa_cons pe_str (pa_cons pe_bl (pa_cons pe_bl (pa_cons (pv 6) (pa_cons pe_int (pa_cons pe_int (pa_cons pe_int pa_nil)))))))) (pa_cons (pe_tup (pa_cons pe_str (pa_cons pe_int pa_nil))) (pa_cons (pe_tup (pa_cons pe_str (pa_cons (pv 6) pa_nil))) pa_nil))))))) (pss_cons (ps_set (i := 7) sc_law.nd rfl (by first | exact Or.inl rfl | exact Or.inr rfl) (pe_op op_cat (pv 7) (pe_lst (pa_cons (pe_tup (pa_cons pe_str (pa_cons pe_bl (pa_cons pe_bl (pa_cons (pv 6) (pa_cons pe_int (pa_cons pe_int (pa_cons (pe_op op_sub pe_int pe_int) pa_nil)))))))) (pa_cons (pe_tup (pa_cons pe_str (pa_cons pe_bl (pa_cons pe_bl (pa_cons (pv 6) (pa_cons pe_int (pa_cons pe_int pa_nil))))))) (pa_cons (pe_tup (pa_cons pe_str (pa_cons pe_bl (pa_cons pe_bl (pa_cons (pe_tup (pa_cons pe_int (pa_cons pe_int pa_nil))) (pa_cons pe_int (pa_cons pe_int pa_nil))))))) pa_nil)))))) (pss_cons (ps_set (i := 7) sc_law.nd rfl (by first | exact Or.inl rfl | exact Or.inr rfl) (pe_op op_cat (pv 7) (pe_lst (pa_cons (pe_tup (pa_cons pe_str (pa_cons pe_bl (pa_cons pe_bl (pa_cons (pv 6) (pa_cons pe_int (pa_cons (pv 5) (pa_cons pe_int pa_nil)))))))) (pa_cons (pe_tup (pa_cons pe_str (pa_cons pe_bl (pa_cons pe_bl (pa_cons (pe_tup (pa_cons pe_int (pa_cons pe_int pa_nil))) (pa_cons pe_int (pa_cons pe_int (pa_cons pe_int pa_nil)))))))) (pa_cons (pe_tup (pa_cons pe_str (pa_cons pe_bl (pa_cons pe_bl (pa_cons (pe_tup (pa_cons pe_int (pa_cons pe_int pa_nil))) (pa_cons pe_int (pa_cons pe_int (pa_cons pe_int pa_nil)))))))) pa_nil)))))) (pss_cons (ps_set (i := 8) sc_law.nd rfl (by first | exact Or.inl rfl | exact Or.inr rfl) (pe_op op_sub pe_int pe_int)) (pss_cons (ps_set (i := 7) sc_law.nd rfl (by first | exact Or.inl rfl | exact Or.inr rfl) (pe_op op_cat (pv 7) (pe_lst (pa_cons (pe_tup (pa_cons pe_str (pa_cons (pv 5) (pa_cons pe_int pa_nil)))) (pa_cons (pe_tup (pa_cons pe_str (pa_cons (pv 8) (pa_cons pe_int pa_nil)))) (pa_cons (pe_tup (pa_cons pe_str (pa_cons pe_int (pa_cons (pv 8) pa_nil)))) (pa_cons (pe_tup (pa_cons pe_str (pa_cons pe_bl (pa_cons pe_bl (pa_cons (pv 6) (pa_cons pe_int (pa_cons (pv 5) pa_nil))))))) pa_nil))))))) (pss_cons (ps_set (i := 7) sc_law.nd rfl (by first | exact Or.inl rfl | exact Or.inr rfl) (pe_op op_cat (pv 7) (pe_lst (pa_cons (pe_tup (pa_cons pe_str (pa_cons pe_bl (pa_cons pe_bl (pa_cons (pv 6) (pa_cons (pv 8) (pa_cons pe_int pa_nil))))))) (pa_cons (pe_tup (pa_cons pe_str (pa_cons pe_bl (pa_cons pe_bl (pa_cons (pv 6) (pa_cons pe_int (pa_cons (pv 8) pa_nil))))))) (pa_cons (pe_tup (pa_cons pe_str (pa_cons pe_bl (pa_cons pe_bl (pa_cons (pv 6) (pa_cons (pv 8) pa_nil)))))) pa_nil)))))) (pss_cons (ps_set (i := 7) sc_law.nd rfl (by first | exact Or.inl rfl | exact Or.inr rfl) (pe_op op_cat (pv 7) (pe_lst (pa_cons (pe_tup (pa_cons pe_str (pa_cons pe_bl (pa_cons pe_bl (pa_cons (pv 6) (pa_cons (pv 5) (pa_cons pe_int (pa_cons pe_int pa_nil)))))))) (pa_cons (pe_tup (pa_cons pe_str (pa_cons pe_bl (pa_cons pe_bl (pa_cons (pv 6) (pa_cons pe_int (pa_cons (pv 8) (pa_cons pe_int pa_nil)))))))) (pa_cons (pe_tup (pa_cons pe_str (pa_cons (pe_tup (pa_cons pe_int (pa_cons (pv 2) pa_nil))) pa_nil))) pa_nil)))))) (Evl.pss_cut (ps_if (pt_cmpR op_gt (pv 2) pe_int (nomark _)) (pss_cons (ps_set (i := 7) sc_law.nd rfl (by first | exact Or.inl rfl | exact Or.inr rfl) (pe_op op_cat (pv 7) (pe_lst (pa_cons (pe_tup (pa_cons pe_str (pa_cons (pe_tup (pa_cons pe_int (pa_cons pe_int pa_nil))) pa_nil))) (pa_cons (pe_tup (pa_cons pe_str (pa_cons (pe_tup (pa_cons (pe_op op_sub (pv 2) pe_int) (pa_cons pe_int pa_nil))) pa_nil))) (pa_cons (pe_tup (pa_cons pe_str (pa_cons (pe_tup (pa_cons pe_int (pa_cons pe_int (pa_cons pe_int pa_nil)))) pa_nil))) pa_nil)))))) pss_nil) pss_nil) (pss_cons (ps_set (i := 9) sc_law.nd rfl (by first | exact Or.inl rfl | exact Or.inr rfl) (pe_ix ix_seq (pv 7) (pe_c c__law_next hr (by omega) rfl (pa_cons (pv 1) (pa_cons (pe_callB call_len_seq rfl z_len bt_len (pa_cons (pv 7) pa_nil)) pa_nil))) (fun _ _ => rfl))) (pss_cons (ps_if (PW.pt (pw_or (pt_cmpR L3G.op_isnB (pe_c c_is_valid hr (by omega) rfl (pa_cons (pv 3) (pa_cons (pe_op op_catA (pv 4) (pe_tup (pa_cons (pv 9) pa_nil))) pa_nil))) pe_bl (nomark _)) (pw_or1 (pt_cmpR L3G.op_isnB (pe_c c_is_valid hr (by omega) rfl (pa_cons (pv 3) (pa_cons (pe_op op_catA (pv 4) (pe_tup (pa_cons (pv 9) (pa_cons (pe_tup (pa_cons pe_str (pa_cons (pe_tup pa_nil) pa_nil))) pa_nil)))) pa_nil))) pe_bl (nomark _))))) (pss_cons (ps_ret pe_bl) pss_nil) pss_nil) (pss_cons (ps_set (i := 10) sc_law.nd rfl (by first | exact Or.inl rfl | exact Or.inr rfl) (pe_op op_add pe_int (pe_c c__law_next hr (by omega) rfl (pa_cons (pv 1) (pa_cons pe_int pa_nil))))) (pss_cons (ps_ret (pe_cmpR op_eq (pe_c c_is_valid hr (by omega) rfl (pa_cons (pv 3) (pa_cons (pe_op L3G.op_repA (pe_tup (pa_cons (pe_tup (pa_cons pe_str (pa_cons (pe_tup (pa_cons pe_int pa_nil)) pa_nil))) pa_nil)) (pv 10)) pa_nil))) (pe_cmpR op_le (pv 10) pe_int (nomark _)) (nomark _))) pss_nil))))))))))))))))))))))), ?_⟩
    rw [show start ["_law_script", "_law_box_here", "_law_states_here", "_law_system_here", "_law_sentence_here", "_law_size", "_law_half", "_law_bad", "_law_low", "_law_wrong", "_law_many"] [u0] = ([some u0, none, none, none, none, none, none, none, none, none, none] : L2.St) from rfl]
    obtain ⟨t10, e11, hm⟩ := bindS hm
    refine q_asgC (n := 1) w (ec_call (ea_cons (ev_var rfl f0) ea_nil) ⟨_, _, rfl, rfl, e11, rfl, rfl⟩) fun p13 B12 H12 x12 (w12 : Own K B12 M [⟨p13, cBox, t10⟩] H12) => ?_
    obtain ⟨t14, e15, hm⟩ := bindS hm
    refine q_asg (n := 2) w12 (ev_add (ev_int (i := 1)) (ev_callC 0 (x := ⟨p13, cBox, t10⟩) (x' := ⟨p13, cBox, t14.2⟩) (ea_cons (ev_varR rfl) (ea_cons (ev_int (i := 5)) ea_nil)) rfl ⟨_, _, _, _, rfl, rfl, e15, rfl, rfl⟩ rfl)) fun v17 B16 H16 x16 (w16 : Own K B16 M [⟨p13, cBox, t14.2⟩] H16) h18 => ?_
    obtain ⟨t19, e20, hm⟩ := bindS hm
    refine q_asg (n := 3) w16 (ev_callC 0 (x := ⟨p13, cBox, t14.2⟩) (x' := ⟨p13, cBox, t19.2⟩) (ea_cons (ev_varR rfl) (ea_cons (ev_varI rfl h18) (ea_cons (ev_int (i := 2)) (ea_cons (ev_int (i := 2)) ea_nil)))) rfl ⟨_, _, _, _, _, _, rfl, rfl, e20, rfl, rfl⟩ rfl) fun v22 B21 H21 x21 (w21 : Own K B21 M [⟨p13, cBox, t19.2⟩] H21) h23 => ?_
    obtain ⟨t24, e25, hm⟩ := bindS hm
    refine q_asg (n := 4) w21 (ev_callC 0 (x := ⟨p13, cBox, t19.2⟩) (x' := ⟨p13, cBox, t24.2⟩) (ea_cons (ev_varR rfl) (ea_cons (ev_varI rfl h18) (ea_cons (ev_int (i := 8)) ea_nil))) rfl ⟨_, _, _, _, _, rfl, rfl, e25, rfl, rfl⟩ rfl) fun v27 B26 H26 x26 (w26 : Own K B26 M [⟨p13, cBox, t24.2⟩] H26) h28 => ?_
    obtain ⟨t29, e30, hm⟩ := bindS hm
    obtain ⟨t33, e34, hm⟩ := bindS hm
    refine q_if w26 (et_or' (d := t33) (et_test (ev_isnB (ev_call (ea_cons (ev_var rfl (((rTup (rTup (rT2 rInt (rTup (rT2 rInt rInt)))))).mono x26 h23)) (ea_cons (ev_var rfl h28) ea_nil)) ⟨_, _, _, rfl, rfl, e30, rfl, rfl⟩) (ev_bl (b := true)))) (fun hb35 => by rw [if_neg (by rw [hb35]; exact Bool.false_ne_true)] at e34; obtain ⟨t31, e32, e34⟩ := bindS e34; obtain rfl := Option.some.inj e34; exact (et_test (ev_isnB (ev_call (ea_cons (ev_var rfl (((rTup (rTup (rT2 rInt (rTup (rT2 rInt rInt)))))).mono x26 h23)) (ea_cons (ev_tup (r := rDat) ([] : List PyData) ea_nil) ea_nil)) ⟨_, _, _, rfl, rfl, e32, rfl, rfl⟩) (ev_bl (b := false))))) (fun hb35 => by rw [if_pos hb35] at e34; obtain rfl := Option.some.inj e34; exact ⟨rfl, rfl⟩)) (fun hb36 B37 H37 x37 (w37 : Own K B37 M [⟨p13, cBox, t24.2⟩] H37) => ?_) (fun hb36 B38 H38 x38 (w38 : Own K B38 M [⟨p13, cBox, t24.2⟩] H38) => ?_)
    · skip
      rw [if_pos hb36] at hm
      replace hm : some _ = some _ := hm
      obtain rfl := Option.some.inj hm
      exact q_ret w37 (ev_bl (b := false)) fun v9 B9 H9 x9 w9 h9 => k _ _ _ (((((x12.trans x16).trans x21).trans x26).trans x37).trans x9) w9.tail h9
    rw [if_neg (by rw [hb36]; exact Bool.false_ne_true)] at hm
    refine q_asg (n := 5) w38 (ev_len (ev_seqT (ev_var rfl (((rTup rDat)).mono x38 h28)))) fun v40 B39 H39 x39 (w39 : Own K B39 M [⟨p13, cBox, t24.2⟩] H39) h41 => ?_
    refine q_asg (n := 6) w39 (ev_T2 (ea_cons (ev_int (i := 1)) (ea_cons (ev_int (i := 2)) ea_nil))) fun v43 B42 H42 x42 (w42 : Own K B42 M [⟨p13, cBox, t24.2⟩] H42) h44 => ?_
    refine q_asg (n := 7) w42 (ev_frz (el_lst (r := rDat) [((dT2 PyData.str (dTup PyData.int)) (((Str.ofString "in"), [((1 : Int) + t14.1)]))), ((dT2 PyData.str (dTup PyData.int)) (((Str.ofString "in"), [((0 : Int) - (1 : Int))]))), ((dT2 PyData.str (dT2 PyData.int PyData.int)) (((Str.ofString "in"), ((0 : Int), (0 : Int))))), ((dTup PyData.str) ([(Str.ofString "in")])), ((dT3 PyData.str (dTup PyData.int) PyData.int) (((Str.ofString "in"), [(0 : Int)], (0 : Int)))), ((dT2 PyData.str PyData.int) (((Str.ofString "not"), (t24.1.length : Int)))), ((dT2 PyData.str PyData.int) (((Str.ofString "not"), ((0 : Int) - (1 : Int)))))] (ea_cons (ev_dq (ev_T2 (ea_cons (ev_str (x := (Str.ofString "in"))) (ea_cons (ev_tup (r := rInt) [((1 : Int) + t14.1)] (ea_cons (ev_varI rfl h18) ea_nil)) ea_nil))) (dq_T2 dq_str (dq_tup dq_int))) (ea_cons (ev_dq (ev_T2 (ea_cons (ev_str (x := (Str.ofString "in"))) (ea_cons (ev_tup (r := rInt) [((0 : Int) - (1 : Int))] (ea_cons (ev_sub (ev_int (i := 0)) (ev_int (i := 1))) ea_nil)) ea_nil))) (dq_T2 dq_str (dq_tup dq_int))) (ea_cons (ev_dq (ev_T2 (ea_cons (ev_str (x := (Str.ofString "in"))) (ea_cons (ev_T2 (ea_cons (ev_int (i := 0)) (ea_cons (ev_int (i := 0)) ea_nil))) ea_nil))) (dq_T2 dq_str (dq_T2 dq_int dq_int))) (ea_cons (ev_dq (ev_tup (r := rStr) [(Str.ofString "in")] (ea_cons (ev_str (x := (Str.ofString "in"))) ea_nil)) (dq_tup dq_str)) (ea_cons (ev_dq (ev_T3 (ea_cons (ev_str (x := (Str.ofString "in"))) (ea_cons (ev_tup (r := rInt) [(0 : Int)] (ea_cons (ev_int (i := 0)) ea_nil)) (ea_cons (ev_int (i := 0)) ea_nil)))) (dq_T3 dq_str (dq_tup dq_int) dq_int)) (ea_cons (ev_dq (ev_T2 (ea_cons (ev_str (x := (Str.ofString "not"))) (ea_cons (ev_varI rfl h41) ea_nil))) (dq_T2 dq_str dq_int)) (ea_cons (ev_dq (ev_T2 (ea_cons (ev_str (x := (Str.ofString "not"))) (ea_cons (ev_sub (ev_int (i := 0)) (ev_int (i := 1))) ea_nil))) (dq_T2 dq_str dq_int)) ea_nil))))))))) fun v46 B45 H45 x45 (w45 : Own K B45 M [⟨p13, cBox, t24.2⟩] H45) h47 => ?_
    obtain ⟨t48, e49, hm⟩ := bindS hm
    refine q_asg (n := 7) w45 (ev_frz (el_cat (ev_var rfl h47) (ev_frz (el_lst (r := rDat) [((dT3 PyData.str PyData.int PyData.int) (((Str.ofString "and"), (0 : Int), (t24.1.length : Int)))), ((dT2 PyData.str PyData.int) (((Str.ofString "and"), (0 : Int)))), ((dTup PyData.str) ([(Str.ofString "not")])), ((dT3 PyData.str PyData.int PyData.int) (((Str.ofString "or"), (0 : Int), (0 : Int)))), ((dTup id) ([(PyData.str ((Str.ofString "next"))), (PyData.bool true), (PyData.bool true), ((dT2 PyData.int PyData.int) (((1 : Int), (2 : Int)))), (PyData.int ((t24.1.length : Int)))])), ((dT2 PyData.str PyData.bool) (((Str.ofString "until"), true)))] (ea_cons (ev_dq (ev_T3 (ea_cons (ev_str (x := (Str.ofString "and"))) (ea_cons (ev_int (i := 0)) (ea_cons (ev_varI rfl h41) ea_nil)))) (dq_T3 dq_str dq_int dq_int)) (ea_cons (ev_dq (ev_T2 (ea_cons (ev_str (x := (Str.ofString "and"))) (ea_cons (ev_int (i := 0)) ea_nil))) (dq_T2 dq_str dq_int)) (ea_cons (ev_dq (ev_tup (r := rStr) [(Str.ofString "not")] (ea_cons (ev_str (x := (Str.ofString "not"))) ea_nil)) (dq_tup dq_str)) (ea_cons (ev_dq (ev_T3 (ea_cons (ev_str (x := (Str.ofString "or"))) (ea_cons (ev_int (i := 0)) (ea_cons (ev_int (i := 0)) ea_nil)))) (dq_T3 dq_str dq_int dq_int)) (ea_cons (ev_dq (ev_tup (r := rDat) [(PyData.str ((Str.ofString "next"))), (PyData.bool true), (PyData.bool true), ((dT2 PyData.int PyData.int) (((1 : Int), (2 : Int)))), (PyData.int ((t24.1.length : Int)))] (ea_cons (ev_dq (ev_str (x := (Str.ofString "next"))) dq_str) (ea_cons (ev_dq (ev_bl (b := true)) dq_bool) (ea_cons (ev_dq (ev_bl (b := true)) dq_bool) (ea_cons (ev_dq (ev_var rfl (((rT2 rInt rInt)).mono x45 h44)) (dq_T2 dq_int dq_int)) (ea_cons (ev_dq (ev_varI rfl h41) dq_int) ea_nil)))))) (dq_tup dq_dat)) (ea_cons (ev_dq (ev_T2 (ea_cons (ev_str (x := (Str.ofString "until"))) (ea_cons (ev_bl (b := true)) ea_nil))) (dq_T2 dq_str dq_bool)) ea_nil)))))))) e49)) fun v51 B50 H50 x50 (w50 : Own K B50 M [⟨p13, cBox, t24.2⟩] H50) h52 => ?_
    obtain ⟨t53, e54, hm⟩ := bindS hm
    refine q_asg (n := 7) w50 (ev_frz (el_cat (ev_var rfl h52) (ev_frz (el_lst (r := rDat) [((dTup id) ([(PyData.str ((Str.ofString "next"))), (PyData.bool true), (PyData.bool true), ((dT2 PyData.int PyData.int) (((3 : Int), (2 : Int)))), (PyData.int ((0 : Int)))])), ((dTup id) ([(PyData.str ((Str.ofString "next"))), (PyData.bool true), (PyData.bool false), ((dT2 PyData.int PyData.int) ((((0 : Int) - (1 : Int)), (2 : Int)))), (PyData.int ((0 : Int)))])), ((dTup id) ([(PyData.str ((Str.ofString "next"))), (PyData.bool true), (PyData.bool true), ((dT2 PyData.int PyData.int) (((2 : Int), (4 : Int)))), (PyData.int ((0 : Int)))]))] (ea_cons (ev_dq (ev_tup (r := rDat) [(PyData.str ((Str.ofString "next"))), (PyData.bool true), (PyData.bool true), ((dT2 PyData.int PyData.int) (((3 : Int), (2 : Int)))), (PyData.int ((0 : Int)))] (ea_cons (ev_dq (ev_str (x := (Str.ofString "next"))) dq_str) (ea_cons (ev_dq (ev_bl (b := true)) dq_bool) (ea_cons (ev_dq (ev_bl (b := true)) dq_bool) (ea_cons (ev_dq (ev_T2 (ea_cons (ev_int (i := 3)) (ea_cons (ev_int (i := 2)) ea_nil))) (dq_T2 dq_int dq_int)) (ea_cons (ev_dq (ev_int (i := 0)) dq_int) ea_nil)))))) (dq_tup dq_dat)) (ea_cons (ev_dq (ev_tup (r := rDat) [(PyData.str ((Str.ofString "next"))), (PyData.bool true), (PyData.bool false), ((dT2 PyData.int PyData.int) ((((0 : Int) - (1 : Int)), (2 : Int)))), (PyData.int ((0 : Int)))] (ea_cons (ev_dq (ev_str (x := (Str.ofString "next"))) dq_str) (ea_cons (ev_dq (ev_bl (b := true)) dq_bool) (ea_cons (ev_dq (ev_bl (b := false)) dq_bool) (ea_cons (ev_dq (ev_T2 (ea_cons (ev_sub (ev_int (i := 0)) (ev_int (i := 1))) (ea_cons (ev_int (i := 2)) ea_nil))) (dq_T2 dq_int dq_int)) (ea_cons (ev_dq (ev_int (i := 0)) dq_int) ea_nil)))))) (dq_tup dq_dat)) (ea_cons (ev_dq (ev_tup (r := rDat) [(PyData.str ((Str.ofString "next"))), (PyData.bool true), (PyData.bool true), ((dT2 PyData.int PyData.int) (((2 : Int), (4 : Int)))), (PyData.int ((0 : Int)))] (ea_cons (ev_dq (ev_str (x := (Str.ofString "next"))) dq_str) (ea_cons (ev_dq (ev_bl (b := true)) dq_bool) (ea_cons (ev_dq (ev_bl (b := true)) dq_bool) (ea_cons (ev_dq (ev_T2 (ea_cons (ev_int (i := 2)) (ea_cons (ev_int (i := 4)) ea_nil))) (dq_T2 dq_int dq_int)) (ea_cons (ev_dq (ev_int (i := 0)) dq_int) ea_nil)))))) (dq_tup dq_dat)) ea_nil))))) e54)) fun v56 B55 H55 x55 (w55 : Own K B55 M [⟨p13, cBox, t24.2⟩] H55) h57 => ?_
    obtain ⟨t58, e59, hm⟩ := bindS hm
    refine q_asg (n := 7) w55 (ev_frz (el_cat (ev_var rfl h57) (ev_frz (el_lst (r := rDat) [((dTup id) ([(PyData.str ((Str.ofString "next"))), (PyData.bool true), (PyData.bool true), ((dT2 PyData.int PyData.int) (((1 : Int), (2 : Int)))), (PyData.int ((0 : Int))), (PyData.int ((0 : Int)))])), ((dTup id) ([(PyData.str ((Str.ofString "until"))), (PyData.bool true), (PyData.bool true), ((dT2 PyData.int PyData.int) (((1 : Int), (2 : Int)))), (PyData.int ((0 : Int)))])), ((dTup id) ([(PyData.str ((Str.ofString "until"))), (PyData.bool true), (PyData.bool true), ((dT2 PyData.int PyData.int) (((1 : Int), (2 : Int)))), (PyData.int ((t24.1.length : Int))), (PyData.int ((0 : Int)))]))] (ea_cons (ev_dq (ev_tup (r := rDat) [(PyData.str ((Str.ofString "next"))), (PyData.bool true), (PyData.bool true), ((dT2 PyData.int PyData.int) (((1 : Int), (2 : Int)))), (PyData.int ((0 : Int))), (PyData.int ((0 : Int)))] (ea_cons (ev_dq (ev_str (x := (Str.ofString "next"))) dq_str) (ea_cons (ev_dq (ev_bl (b := true)) dq_bool) (ea_cons (ev_dq (ev_bl (b := true)) dq_bool) (ea_cons (ev_dq (ev_var rfl (((rT2 rInt rInt)).mono ((x45.trans x50).trans x55) h44)) (dq_T2 dq_int dq_int)) (ea_cons (ev_dq (ev_int (i := 0)) dq_int) (ea_cons (ev_dq (ev_int (i := 0)) dq_int) ea_nil))))))) (dq_tup dq_dat)) (ea_cons (ev_dq (ev_tup (r := rDat) [(PyData.str ((Str.ofString "until"))), (PyData.bool true), (PyData.bool true), ((dT2 PyData.int PyData.int) (((1 : Int), (2 : Int)))), (PyData.int ((0 : Int)))] (ea_cons (ev_dq (ev_str (x := (Str.ofString "until"))) dq_str) (ea_cons (ev_dq (ev_bl (b := true)) dq_bool) (ea_cons (ev_dq (ev_bl (b := true)) dq_bool) (ea_cons (ev_dq (ev_var rfl (((rT2 rInt rInt)).mono ((x45.trans x50).trans x55) h44)) (dq_T2 dq_int dq_int)) (ea_cons (ev_dq (ev_int (i := 0)) dq_int) ea_nil)))))) (dq_tup dq_dat)) (ea_cons (ev_dq (ev_tup (r := rDat) [(PyData.str ((Str.ofString "until"))), (PyData.bool true), (PyData.bool true), ((dT2 PyData.int PyData.int) (((1 : Int), (2 : Int)))), (PyData.int ((t24.1.length : Int))), (PyData.int ((0 : Int)))] (ea_cons (ev_dq (ev_str (x := (Str.ofString "until"))) dq_str) (ea_cons (ev_dq (ev_bl (b := true)) dq_bool) (ea_cons (ev_dq (ev_bl (b := true)) dq_bool) (ea_cons (ev_dq (ev_var rfl (((rT2 rInt rInt)).mono ((x45.trans x50).trans x55) h44)) (dq_T2 dq_int dq_int)) (ea_cons (ev_dq (ev_varI rfl h41) dq_int) (ea_cons (ev_dq (ev_int (i := 0)) dq_int) ea_nil))))))) (dq_tup dq_dat)) ea_nil))))) e59)) fun v61 B60 H60 x60 (w60 : Own K B60 M [⟨p13, cBox, t24.2⟩] H60) h62 => ?_
    obtain ⟨t63, e64, hm⟩ := bindS hm
    refine q_asg (n := 7) w60 (ev_frz (el_cat (ev_var rfl h62) (ev_frz (el_lst (r := rDat) [((dTup id) ([(PyData.str ((Str.ofString "until"))), (PyData.bool false), (PyData.bool true), ((dT2 PyData.int PyData.int) (((1 : Int), (0 : Int)))), (PyData.int ((0 : Int))), (PyData.int ((0 : Int)))])), ((dTup id) ([(PyData.str ((Str.ofString "within"))), (PyData.bool true), (PyData.bool true), ((dT2 PyData.int PyData.int) (((1 : Int), (2 : Int)))), (PyData.int ((0 : Int))), (PyData.int ((0 : Int))), (PyData.int ((31 : Int)))])), ((dT2 PyData.str PyData.int) (((Str.ofString ""), (0 : Int)))), ((dT2 PyData.str (dT2 PyData.int PyData.int)) (((Str.ofString "chance"), ((1 : Int), (2 : Int)))))] (ea_cons (ev_dq (ev_tup (r := rDat) [(PyData.str ((Str.ofString "until"))), (PyData.bool false), (PyData.bool true), ((dT2 PyData.int PyData.int) (((1 : Int), (0 : Int)))), (PyData.int ((0 : Int))), (PyData.int ((0 : Int)))] (ea_cons (ev_dq (ev_str (x := (Str.ofString "until"))) dq_str) (ea_cons (ev_dq (ev_bl (b := false)) dq_bool) (ea_cons (ev_dq (ev_bl (b := true)) dq_bool) (ea_cons (ev_dq (ev_T2 (ea_cons (ev_int (i := 1)) (ea_cons (ev_int (i := 0)) ea_nil))) (dq_T2 dq_int dq_int)) (ea_cons (ev_dq (ev_int (i := 0)) dq_int) (ea_cons (ev_dq (ev_int (i := 0)) dq_int) ea_nil))))))) (dq_tup dq_dat)) (ea_cons (ev_dq (ev_tup (r := rDat) [(PyData.str ((Str.ofString "within"))), (PyData.bool true), (PyData.bool true), ((dT2 PyData.int PyData.int) (((1 : Int), (2 : Int)))), (PyData.int ((0 : Int))), (PyData.int ((0 : Int))), (PyData.int ((31 : Int)))] (ea_cons (ev_dq (ev_str (x := (Str.ofString "within"))) dq_str) (ea_cons (ev_dq (ev_bl (b := true)) dq_bool) (ea_cons (ev_dq (ev_bl (b := true)) dq_bool) (ea_cons (ev_dq (ev_var rfl (((rT2 rInt rInt)).mono (((x45.trans x50).trans x55).trans x60) h44)) (dq_T2 dq_int dq_int)) (ea_cons (ev_dq (ev_int (i := 0)) dq_int) (ea_cons (ev_dq (ev_int (i := 0)) dq_int) (ea_cons (ev_dq (ev_int (i := 31)) dq_int) ea_nil)))))))) (dq_tup dq_dat)) (ea_cons (ev_dq (ev_T2 (ea_cons (ev_str (x := (Str.ofString ""))) (ea_cons (ev_int (i := 0)) ea_nil))) (dq_T2 dq_str dq_int)) (ea_cons (ev_dq (ev_T2 (ea_cons (ev_str (x := (Str.ofString "chance"))) (ea_cons (ev_var rfl (((rT2 rInt rInt)).mono (((x45.trans x50).trans x55).trans x60) h44)) ea_nil))) (dq_T2 dq_str (dq_T2 dq_int dq_int))) ea_nil)))))) e64)) fun v66 B65 H65 x65 (w65 : Own K B65 M [⟨p13, cBox, t24.2⟩] H65) h67 => ?_
    obtain ⟨t68, e69, hm⟩ := bindS hm
    refine q_asg (n := 7) w65 (ev_frz (el_cat (ev_var rfl h67) (ev_frz (el_lst (r := rDat) [((dTup id) ([(PyData.str ((Str.ofString "within"))), (PyData.bool true), (PyData.bool true), ((dT2 PyData.int PyData.int) (((1 : Int), (2 : Int)))), (PyData.int ((0 : Int))), (PyData.int ((0 : Int))), (PyData.int (((0 : Int) - (1 : Int))))])), ((dTup id) ([(PyData.str ((Str.ofString "within"))), (PyData.bool true), (PyData.bool true), ((dT2 PyData.int PyData.int) (((1 : Int), (2 : Int)))), (PyData.int ((0 : Int))), (PyData.int ((0 : Int)))])), ((dTup id) ([(PyData.str ((Str.ofString "until"))), (PyData.bool true), (PyData.bool true), ((dT2 PyData.int PyData.int) (((4 : Int), (3 : Int)))), (PyData.int ((0 : Int))), (PyData.int ((0 : Int)))]))] (ea_cons (ev_dq (ev_tup (r := rDat) [(PyData.str ((Str.ofString "within"))), (PyData.bool true), (PyData.bool true), ((dT2 PyData.int PyData.int) (((1 : Int), (2 : Int)))), (PyData.int ((0 : Int))), (PyData.int ((0 : Int))), (PyData.int (((0 : Int) - (1 : Int))))] (ea_cons (ev_dq (ev_str (x := (Str.ofString "within"))) dq_str) (ea_cons (ev_dq (ev_bl (b := true)) dq_bool) (ea_cons (ev_dq (ev_bl (b := true)) dq_bool) (ea_cons (ev_dq (ev_var rfl (((rT2 rInt rInt)).mono ((((x45.trans x50).trans x55).trans x60).trans x65) h44)) (dq_T2 dq_int dq_int)) (ea_cons (ev_dq (ev_int (i := 0)) dq_int) (ea_cons (ev_dq (ev_int (i := 0)) dq_int) (ea_cons (ev_dq (ev_sub (ev_int (i := 0)) (ev_int (i := 1))) dq_int) ea_nil)))))))) (dq_tup dq_dat)) (ea_cons (ev_dq (ev_tup (r := rDat) [(PyData.str ((Str.ofString "within"))), (PyData.bool true), (PyData.bool true), ((dT2 PyData.int PyData.int) (((1 : Int), (2 : Int)))), (PyData.int ((0 : Int))), (PyData.int ((0 : Int)))] (ea_cons (ev_dq (ev_str (x := (Str.ofString "within"))) dq_str) (ea_cons (ev_dq (ev_bl (b := true)) dq_bool) (ea_cons (ev_dq (ev_bl (b := true)) dq_bool) (ea_cons (ev_dq (ev_var rfl (((rT2 rInt rInt)).mono ((((x45.trans x50).trans x55).trans x60).trans x65) h44)) (dq_T2 dq_int dq_int)) (ea_cons (ev_dq (ev_int (i := 0)) dq_int) (ea_cons (ev_dq (ev_int (i := 0)) dq_int) ea_nil))))))) (dq_tup dq_dat)) (ea_cons (ev_dq (ev_tup (r := rDat) [(PyData.str ((Str.ofString "until"))), (PyData.bool true), (PyData.bool true), ((dT2 PyData.int PyData.int) (((4 : Int), (3 : Int)))), (PyData.int ((0 : Int))), (PyData.int ((0 : Int)))] (ea_cons (ev_dq (ev_str (x := (Str.ofString "until"))) dq_str) (ea_cons (ev_dq (ev_bl (b := true)) dq_bool) (ea_cons (ev_dq (ev_bl (b := true)) dq_bool) (ea_cons (ev_dq (ev_T2 (ea_cons (ev_int (i := 4)) (ea_cons (ev_int (i := 3)) ea_nil))) (dq_T2 dq_int dq_int)) (ea_cons (ev_dq (ev_int (i := 0)) dq_int) (ea_cons (ev_dq (ev_int (i := 0)) dq_int) ea_nil))))))) (dq_tup dq_dat)) ea_nil))))) e69)) fun v71 B70 H70 x70 (w70 : Own K B70 M [⟨p13, cBox, t24.2⟩] H70) h72 => ?_
    obtain ⟨t73, e74, hm⟩ := bindS hm
    refine q_asg (n := 7) w70 (ev_frz (el_cat (ev_var rfl h72) (ev_frz (el_lst (r := rDat) [((dTup id) ([(PyData.str ((Str.ofString "within"))), (PyData.bool true), (PyData.bool true), ((dT2 PyData.int PyData.int) (((1 : Int), (2 : Int)))), (PyData.int ((0 : Int))), (PyData.int ((t24.1.length : Int))), (PyData.int ((3 : Int)))])), ((dTup id) ([(PyData.str ((Str.ofString "within"))), (PyData.bool true), (PyData.bool true), ((dT2 PyData.int PyData.int) (((0 : Int), (2 : Int)))), (PyData.int ((0 : Int))), (PyData.int ((0 : Int))), (PyData.int ((3 : Int)))])), ((dTup id) ([(PyData.str ((Str.ofString "within"))), (PyData.bool true), (PyData.bool true), ((dT2 PyData.int PyData.int) (((2 : Int), (1 : Int)))), (PyData.int ((0 : Int))), (PyData.int ((0 : Int))), (PyData.int ((3 : Int)))]))] (ea_cons (ev_dq (ev_tup (r := rDat) [(PyData.str ((Str.ofString "within"))), (PyData.bool true), (PyData.bool true), ((dT2 PyData.int PyData.int) (((1 : Int), (2 : Int)))), (PyData.int ((0 : Int))), (PyData.int ((t24.1.length : Int))), (PyData.int ((3 : Int)))] (ea_cons (ev_dq (ev_str (x := (Str.ofString "within"))) dq_str) (ea_cons (ev_dq (ev_bl (b := true)) dq_bool) (ea_cons (ev_dq (ev_bl (b := true)) dq_bool) (ea_cons (ev_dq (ev_var rfl (((rT2 rInt rInt)).mono (((((x45.trans x50).trans x55).trans x60).trans x65).trans x70) h44)) (dq_T2 dq_int dq_int)) (ea_cons (ev_dq (ev_int (i := 0)) dq_int) (ea_cons (ev_dq (ev_varI rfl h41) dq_int) (ea_cons (ev_dq (ev_int (i := 3)) dq_int) ea_nil)))))))) (dq_tup dq_dat)) (ea_cons (ev_dq (ev_tup (r := rDat) [(PyData.str ((Str.ofString "within"))), (PyData.bool true), (PyData.bool true), ((dT2 PyData.int PyData.int) (((0 : Int), (2 : Int)))), (PyData.int ((0 : Int))), (PyData.int ((0 : Int))), (PyData.int ((3 : Int)))] (ea_cons (ev_dq (ev_str (x := (Str.ofString "within"))) dq_str) (ea_cons (ev_dq (ev_bl (b := true)) dq_bool) (ea_cons (ev_dq (ev_bl (b := true)) dq_bool) (ea_cons (ev_dq (ev_T2 (ea_cons (ev_int (i := 0)) (ea_cons (ev_int (i := 2)) ea_nil))) (dq_T2 dq_int dq_int)) (ea_cons (ev_dq (ev_int (i := 0)) dq_int) (ea_cons (ev_dq (ev_int (i := 0)) dq_int) (ea_cons (ev_dq (ev_int (i := 3)) dq_int) ea_nil)))))))) (dq_tup dq_dat)) (ea_cons (ev_dq (ev_tup (r := rDat) [(PyData.str ((Str.ofString "within"))), (PyData.bool true), (PyData.bool true), ((dT2 PyData.int PyData.int) (((2 : Int), (1 : Int)))), (PyData.int ((0 : Int))), (PyData.int ((0 : Int))), (PyData.int ((3 : Int)))] (ea_cons (ev_dq (ev_str (x := (Str.ofString "within"))) dq_str) (ea_cons (ev_dq (ev_bl (b := true)) dq_bool) (ea_cons (ev_dq (ev_bl (b := true)) dq_bool) (ea_cons (ev_dq (ev_T2 (ea_cons (ev_int (i := 2)) (ea_cons (ev_int (i := 1)) ea_nil))) (dq_T2 dq_int dq_int)) (ea_cons (ev_dq (ev_int (i := 0)) dq_int) (ea_cons (ev_dq (ev_int (i := 0)) dq_int) (ea_cons (ev_dq (ev_int (i := 3)) dq_int) ea_nil)))))))) (dq_tup dq_dat)) ea_nil))))) e74)) fun v76 B75 H75 x75 (w75 : Own K B75 M [⟨p13, cBox, t24.2⟩] H75) h77 => ?_
    refine q_asg (n := 8) w75 (ev_sub (ev_int (i := 0)) (ev_int (i := 1))) fun v79 B78 H78 x78 (w78 : Own K B78 M [⟨p13, cBox, t24.2⟩] H78) h80 => ?_
    obtain ⟨t81, e82, hm⟩ := bindS hm
    refine q_asg (n := 7) w78 (ev_frz (el_cat (ev_var rfl (((rLst rDat)).mono x78 h77)) (ev_frz (el_lst (r := rDat) [((dT3 PyData.str PyData.int PyData.int) (((Str.ofString "and"), (t24.1.length : Int), (0 : Int)))), ((dT3 PyData.str PyData.int PyData.int) (((Str.ofString "and"), ((0 : Int) - (1 : Int)), (0 : Int)))), ((dT3 PyData.str PyData.int PyData.int) (((Str.ofString "and"), (0 : Int), ((0 : Int) - (1 : Int))))), ((dTup id) ([(PyData.str ((Str.ofString "until"))), (PyData.bool true), (PyData.bool true), ((dT2 PyData.int PyData.int) (((1 : Int), (2 : Int)))), (PyData.int ((0 : Int))), (PyData.int ((t24.1.length : Int)))]))] (ea_cons (ev_dq (ev_T3 (ea_cons (ev_str (x := (Str.ofString "and"))) (ea_cons (ev_varI rfl h41) (ea_cons (ev_int (i := 0)) ea_nil)))) (dq_T3 dq_str dq_int dq_int)) (ea_cons (ev_dq (ev_T3 (ea_cons (ev_str (x := (Str.ofString "and"))) (ea_cons (ev_varI rfl h80) (ea_cons (ev_int (i := 0)) ea_nil)))) (dq_T3 dq_str dq_int dq_int)) (ea_cons (ev_dq (ev_T3 (ea_cons (ev_str (x := (Str.ofString "and"))) (ea_cons (ev_int (i := 0)) (ea_cons (ev_varI rfl h80) ea_nil)))) (dq_T3 dq_str dq_int dq_int)) (ea_cons (ev_dq (ev_tup (r := rDat) [(PyData.str ((Str.ofString "until"))), (PyData.bool true), (PyData.bool true), ((dT2 PyData.int PyData.int) (((1 : Int), (2 : Int)))), (PyData.int ((0 : Int))), (PyData.int ((t24.1.length : Int)))] (ea_cons (ev_dq (ev_str (x := (Str.ofString "until"))) dq_str) (ea_cons (ev_dq (ev_bl (b := true)) dq_bool) (ea_cons (ev_dq (ev_bl (b := true)) dq_bool) (ea_cons (ev_dq (ev_var rfl (((rT2 rInt rInt)).mono (((((((x45.trans x50).trans x55).trans x60).trans x65).trans x70).trans x75).trans x78) h44)) (dq_T2 dq_int dq_int)) (ea_cons (ev_dq (ev_int (i := 0)) dq_int) (ea_cons (ev_dq (ev_varI rfl h41) dq_int) ea_nil))))))) (dq_tup dq_dat)) ea_nil)))))) e82)) fun v84 B83 H83 x83 (w83 : Own K B83 M [⟨p13, cBox, t24.2⟩] H83) h85 => ?_
    obtain ⟨t86, e87, hm⟩ := bindS hm
    refine q_asg (n := 7) w83 (ev_frz (el_cat (ev_var rfl h85) (ev_frz (el_lst (r := rDat) [((dTup id) ([(PyData.str ((Str.ofString "until"))), (PyData.bool true), (PyData.bool true), ((dT2 PyData.int PyData.int) (((1 : Int), (2 : Int)))), (PyData.int (((0 : Int) - (1 : Int)))), (PyData.int ((0 : Int)))])), ((dTup id) ([(PyData.str ((Str.ofString "until"))), (PyData.bool true), (PyData.bool true), ((dT2 PyData.int PyData.int) (((1 : Int), (2 : Int)))), (PyData.int ((0 : Int))), (PyData.int (((0 : Int) - (1 : Int))))])), ((dTup id) ([(PyData.str ((Str.ofString "next"))), (PyData.bool true), (PyData.bool true), ((dT2 PyData.int PyData.int) (((1 : Int), (2 : Int)))), (PyData.int (((0 : Int) - (1 : Int))))]))] (ea_cons (ev_dq (ev_tup (r := rDat) [(PyData.str ((Str.ofString "until"))), (PyData.bool true), (PyData.bool true), ((dT2 PyData.int PyData.int) (((1 : Int), (2 : Int)))), (PyData.int (((0 : Int) - (1 : Int)))), (PyData.int ((0 : Int)))] (ea_cons (ev_dq (ev_str (x := (Str.ofString "until"))) dq_str) (ea_cons (ev_dq (ev_bl (b := true)) dq_bool) (ea_cons (ev_dq (ev_bl (b := true)) dq_bool) (ea_cons (ev_dq (ev_var rfl (((rT2 rInt rInt)).mono ((((((((x45.trans x50).trans x55).trans x60).trans x65).trans x70).trans x75).trans x78).trans x83) h44)) (dq_T2 dq_int dq_int)) (ea_cons (ev_dq (ev_varI rfl h80) dq_int) (ea_cons (ev_dq (ev_int (i := 0)) dq_int) ea_nil))))))) (dq_tup dq_dat)) (ea_cons (ev_dq (ev_tup (r := rDat) [(PyData.str ((Str.ofString "until"))), (PyData.bool true), (PyData.bool true), ((dT2 PyData.int PyData.int) (((1 : Int), (2 : Int)))), (PyData.int ((0 : Int))), (PyData.int (((0 : Int) - (1 : Int))))] (ea_cons (ev_dq (ev_str (x := (Str.ofString "until"))) dq_str) (ea_cons (ev_dq (ev_bl (b := true)) dq_bool) (ea_cons (ev_dq (ev_bl (b := true)) dq_bool) (ea_cons (ev_dq (ev_var rfl (((rT2 rInt rInt)).mono ((((((((x45.trans x50).trans x55).trans x60).trans x65).trans x70).trans x75).trans x78).trans x83) h44)) (dq_T2 dq_int dq_int)) (ea_cons (ev_dq (ev_int (i := 0)) dq_int) (ea_cons (ev_dq (ev_varI rfl h80) dq_int) ea_nil))))))) (dq_tup dq_dat)) (ea_cons (ev_dq (ev_tup (r := rDat) [(PyData.str ((Str.ofString "next"))), (PyData.bool true), (PyData.bool true), ((dT2 PyData.int PyData.int) (((1 : Int), (2 : Int)))), (PyData.int (((0 : Int) - (1 : Int))))] (ea_cons (ev_dq (ev_str (x := (Str.ofString "next"))) dq_str) (ea_cons (ev_dq (ev_bl (b := true)) dq_bool) (ea_cons (ev_dq (ev_bl (b := true)) dq_bool) (ea_cons (ev_dq (ev_var rfl (((rT2 rInt rInt)).mono ((((((((x45.trans x50).trans x55).trans x60).trans x65).trans x70).trans x75).trans x78).trans x83) h44)) (dq_T2 dq_int dq_int)) (ea_cons (ev_dq (ev_varI rfl h80) dq_int) ea_nil)))))) (dq_tup dq_dat)) ea_nil))))) e87)) fun v89 B88 H88 x88 (w88 : Own K B88 M [⟨p13, cBox, t24.2⟩] H88) h90 => ?_
    obtain ⟨t91, e92, hm⟩ := bindS hm
    refine q_asg (n := 7) w88 (ev_frz (el_cat (ev_var rfl h90) (ev_frz (el_lst (r := rDat) [((dTup id) ([(PyData.str ((Str.ofString "within"))), (PyData.bool true), (PyData.bool true), ((dT2 PyData.int PyData.int) (((1 : Int), (2 : Int)))), (PyData.int ((t24.1.length : Int))), (PyData.int ((0 : Int))), (PyData.int ((3 : Int)))])), ((dTup id) ([(PyData.str ((Str.ofString "within"))), (PyData.bool true), (PyData.bool true), ((dT2 PyData.int PyData.int) (((1 : Int), (2 : Int)))), (PyData.int ((0 : Int))), (PyData.int (((0 : Int) - (1 : Int)))), (PyData.int ((3 : Int)))])), ((dT2 PyData.str (dT2 PyData.int PyData.int)) (((Str.ofString "in"), ((0 : Int), ((1 : Int) + t14.1)))))] (ea_cons (ev_dq (ev_tup (r := rDat) [(PyData.str ((Str.ofString "within"))), (PyData.bool true), (PyData.bool true), ((dT2 PyData.int PyData.int) (((1 : Int), (2 : Int)))), (PyData.int ((t24.1.length : Int))), (PyData.int ((0 : Int))), (PyData.int ((3 : Int)))] (ea_cons (ev_dq (ev_str (x := (Str.ofString "within"))) dq_str) (ea_cons (ev_dq (ev_bl (b := true)) dq_bool) (ea_cons (ev_dq (ev_bl (b := true)) dq_bool) (ea_cons (ev_dq (ev_var rfl (((rT2 rInt rInt)).mono (((((((((x45.trans x50).trans x55).trans x60).trans x65).trans x70).trans x75).trans x78).trans x83).trans x88) h44)) (dq_T2 dq_int dq_int)) (ea_cons (ev_dq (ev_varI rfl h41) dq_int) (ea_cons (ev_dq (ev_int (i := 0)) dq_int) (ea_cons (ev_dq (ev_int (i := 3)) dq_int) ea_nil)))))))) (dq_tup dq_dat)) (ea_cons (ev_dq (ev_tup (r := rDat) [(PyData.str ((Str.ofString "within"))), (PyData.bool true), (PyData.bool true), ((dT2 PyData.int PyData.int) (((1 : Int), (2 : Int)))), (PyData.int ((0 : Int))), (PyData.int (((0 : Int) - (1 : Int)))), (PyData.int ((3 : Int)))] (ea_cons (ev_dq (ev_str (x := (Str.ofString "within"))) dq_str) (ea_cons (ev_dq (ev_bl (b := true)) dq_bool) (ea_cons (ev_dq (ev_bl (b := true)) dq_bool) (ea_cons (ev_dq (ev_var rfl (((rT2 rInt rInt)).mono (((((((((x45.trans x50).trans x55).trans x60).trans x65).trans x70).trans x75).trans x78).trans x83).trans x88) h44)) (dq_T2 dq_int dq_int)) (ea_cons (ev_dq (ev_int (i := 0)) dq_int) (ea_cons (ev_dq (ev_varI rfl h80) dq_int) (ea_cons (ev_dq (ev_int (i := 3)) dq_int) ea_nil)))))))) (dq_tup dq_dat)) (ea_cons (ev_dq (ev_T2 (ea_cons (ev_str (x := (Str.ofString "in"))) (ea_cons (ev_T2 (ea_cons (ev_int (i := 0)) (ea_cons (ev_varI rfl h18) ea_nil))) ea_nil))) (dq_T2 dq_str (dq_T2 dq_int dq_int))) ea_nil))))) e92)) fun v94 B93 H93 x93 (w93 : Own K B93 M [⟨p13, cBox, t24.2⟩] H93) h95 => ?_
    obtain ⟨s97, e98, hm⟩ := bindS hm
    refine q_cut (fun σ109 H106 => ∃ v107 B106, Ex B93 B106 ∧ Own K B106 M [⟨p13, cBox, t24.2⟩] H106 ∧ σ109 = [some u0, some (.ref p13), some v17, some v22, some v27, some v40, some v43, some v107, some v79, none, none] ∧ ((rLst rDat)).is K B106 v107 s97) ?_ ?_
    · skip
      refine q_ifc w93 (et_test (ev_gt (ev_varI rfl h18) (ev_int (i := 1)))) (fun hb96 B99 H99 x99 (w99 : Own K B99 M [⟨p13, cBox, t24.2⟩] H99) => ?_) (fun hb96 B105 H105 x105 (w105 : Own K B105 M [⟨p13, cBox, t24.2⟩] H105) => ?_)
      · skip
        rw [if_pos hb96] at e98
        obtain ⟨t100, e101, e98⟩ := bindS e98
        refine q_asg (n := 7) w99 (ev_frz (el_cat (ev_var rfl (((rLst rDat)).mono x99 h95)) (ev_frz (el_lst (r := rDat) [((dT2 PyData.str (dT2 PyData.int PyData.int)) (((Str.ofString "in"), ((1 : Int), (0 : Int))))), ((dT2 PyData.str (dT2 PyData.int PyData.int)) (((Str.ofString "in"), ((((1 : Int) + t14.1) - (1 : Int)), (0 : Int))))), ((dT2 PyData.str (dT3 PyData.int PyData.int PyData.int)) (((Str.ofString "in"), ((0 : Int), (1 : Int), (1 : Int)))))] (ea_cons (ev_dq (ev_T2 (ea_cons (ev_str (x := (Str.ofString "in"))) (ea_cons (ev_T2 (ea_cons (ev_int (i := 1)) (ea_cons (ev_int (i := 0)) ea_nil))) ea_nil))) (dq_T2 dq_str (dq_T2 dq_int dq_int))) (ea_cons (ev_dq (ev_T2 (ea_cons (ev_str (x := (Str.ofString "in"))) (ea_cons (ev_T2 (ea_cons (ev_sub (ev_varI rfl h18) (ev_int (i := 1))) (ea_cons (ev_int (i := 0)) ea_nil))) ea_nil))) (dq_T2 dq_str (dq_T2 dq_int dq_int))) (ea_cons (ev_dq (ev_T2 (ea_cons (ev_str (x := (Str.ofString "in"))) (ea_cons (ev_T3 (ea_cons (ev_int (i := 0)) (ea_cons (ev_int (i := 1)) (ea_cons (ev_int (i := 1)) ea_nil)))) ea_nil))) (dq_T2 dq_str (dq_T3 dq_int dq_int dq_int))) ea_nil))))) e101)) fun v103 B102 H102 x102 (w102 : Own K B102 M [⟨p13, cBox, t24.2⟩] H102) h104 => ?_
        replace e98 : some _ = some _ := e98
        cases e98
        exact ⟨v103, _, (x99.trans x102), w102, rfl, h104⟩
      rw [if_neg (by rw [hb96]; exact Bool.false_ne_true)] at e98
      replace e98 : some _ = some _ := e98
      cases e98
      exact ⟨v94, _, x105, w105, rfl, (((rLst rDat)).mono x105 h95)⟩
    rintro σ109' H106 ⟨v107, B106, x106, w106, rfl, h108⟩
    obtain ⟨t110, e111, hm⟩ := bindS hm
    obtain ⟨t112, e113, hm⟩ := bindS hm
    refine q_asg (n := 9) w106 (ev_ix (ev_seqL (ev_var rfl h108)) (ev_callC 0 (x := ⟨p13, cBox, t24.2⟩) (x' := ⟨p13, cBox, t110.2⟩) (ea_cons (ev_varR rfl) (ea_cons (ev_len (ev_seqL (ev_var rfl h108))) ea_nil)) rfl ⟨_, _, _, _, rfl, rfl, e111, rfl, rfl⟩ rfl) e113) fun v115 B114 H114 x114 (w114 : Own K B114 M [⟨p13, cBox, t110.2⟩] H114) h116 => ?_
    obtain ⟨t117, e118, hm⟩ := bindS hm
    obtain ⟨t119, e120, hm⟩ := bindS hm
    obtain ⟨t125, e126, hm⟩ := bindS hm
    refine q_if w114 (et_or' (d := t125) (et_test (ev_isnB (ev_call (ea_cons (ev_var rfl (((rTup (rTup (rT2 rInt (rTup (rT2 rInt rInt)))))).mono ((((((((((((((((x26.trans x38).trans x39).trans x42).trans x45).trans x50).trans x55).trans x60).trans x65).trans x70).trans x75).trans x78).trans x83).trans x88).trans x93).trans x106).trans x114) h23)) (ea_cons (ev_catT (ev_var rfl (((rTup rDat)).mono (((((((((((((((x38.trans x39).trans x42).trans x45).trans x50).trans x55).trans x60).trans x65).trans x70).trans x75).trans x78).trans x83).trans x88).trans x93).trans x106).trans x114) h28)) (ev_tup (r := rDat) [t112] (ea_cons (ev_var rfl h116) ea_nil)) e118) ea_nil)) ⟨_, _, _, rfl, rfl, e120, rfl, rfl⟩) (ev_bl (b := false)))) (fun hb127 => by rw [if_neg (by rw [hb127]; exact Bool.false_ne_true)] at e126; obtain ⟨t121, e122, e126⟩ := bindS e126; obtain ⟨t123, e124, e126⟩ := bindS e126; obtain rfl := Option.some.inj e126; exact (et_test (ev_isnB (ev_call (ea_cons (ev_var rfl (((rTup (rTup (rT2 rInt (rTup (rT2 rInt rInt)))))).mono ((((((((((((((((x26.trans x38).trans x39).trans x42).trans x45).trans x50).trans x55).trans x60).trans x65).trans x70).trans x75).trans x78).trans x83).trans x88).trans x93).trans x106).trans x114) h23)) (ea_cons (ev_catT (ev_var rfl (((rTup rDat)).mono (((((((((((((((x38.trans x39).trans x42).trans x45).trans x50).trans x55).trans x60).trans x65).trans x70).trans x75).trans x78).trans x83).trans x88).trans x93).trans x106).trans x114) h28)) (ev_tup (r := rDat) [t112, ((dTup id) ([(PyData.str ((Str.ofString "in"))), ((dTup id) (([] : List PyData)))]))] (ea_cons (ev_var rfl h116) (ea_cons (ev_dq (ev_tup (r := rDat) [(PyData.str ((Str.ofString "in"))), ((dTup id) (([] : List PyData)))] (ea_cons (ev_dq (ev_str (x := (Str.ofString "in"))) dq_str) (ea_cons (ev_dq (ev_tup (r := rDat) ([] : List PyData) ea_nil) (dq_tup dq_dat)) ea_nil))) (dq_tup dq_dat)) ea_nil))) e122) ea_nil)) ⟨_, _, _, rfl, rfl, e124, rfl, rfl⟩) (ev_bl (b := false))))) (fun hb127 => by rw [if_pos hb127] at e126; obtain rfl := Option.some.inj e126; exact ⟨rfl, rfl⟩)) (fun hb128 B129 H129 x129 (w129 : Own K B129 M [⟨p13, cBox, t110.2⟩] H129) => ?_) (fun hb128 B130 H130 x130 (w130 : Own K B130 M [⟨p13, cBox, t110.2⟩] H130) => ?_)
    · skip
      rw [if_pos hb128] at hm
      replace hm : some _ = some _ := hm
      obtain rfl := Option.some.inj hm
      exact q_ret w129 (ev_bl (b := false)) fun v9 B9 H9 x9 w9 h9 => k _ _ _ (((((((((((((((((((((x12.trans x16).trans x21).trans x26).trans x38).trans x39).trans x42).trans x45).trans x50).trans x55).trans x60).trans x65).trans x70).trans x75).trans x78).trans x83).trans x88).trans x93).trans x106).trans x114).trans x129).trans x9) w9.tail h9
    rw [if_neg (by rw [hb128]; exact Bool.false_ne_true)] at hm
    obtain ⟨t131, e132, hm⟩ := bindS hm
    refine q_asg (n := 10) w130 (ev_add (ev_int (i := 39)) (ev_callC 0 (x := ⟨p13, cBox, t110.2⟩) (x' := ⟨p13, cBox, t131.2⟩) (ea_cons (ev_varR rfl) (ea_cons (ev_int (i := 3)) ea_nil)) rfl ⟨_, _, _, _, rfl, rfl, e132, rfl, rfl⟩ rfl)) fun v134 B133 H133 x133 (w133 : Own K B133 M [⟨p13, cBox, t131.2⟩] H133) h135 => ?_
    obtain ⟨t136, e137, hm⟩ := bindS hm
    obtain ⟨t138, e139, hm⟩ := bindS hm
    replace hm : some _ = some _ := hm
    obtain rfl := Option.some.inj hm
    exact q_ret w133 (ev_eqB (ev_call (ea_cons (ev_var rfl (((rTup (rTup (rT2 rInt (rTup (rT2 rInt rInt)))))).mono ((((((((((((((((((x26.trans x38).trans x39).trans x42).trans x45).trans x50).trans x55).trans x60).trans x65).trans x70).trans x75).trans x78).trans x83).trans x88).trans x93).trans x106).trans x114).trans x130).trans x133) h23)) (ea_cons (ev_repA (ev_tup (r := rDat) [((dT2 PyData.str (dTup PyData.int)) (((Str.ofString "in"), [(0 : Int)])))] (ea_cons (ev_dq (ev_T2 (ea_cons (ev_str (x := (Str.ofString "in"))) (ea_cons (ev_tup (r := rInt) [(0 : Int)] (ea_cons (ev_int (i := 0)) ea_nil)) ea_nil))) (dq_T2 dq_str (dq_tup dq_int))) ea_nil)) (ev_varI rfl h135) e137) ea_nil)) ⟨_, _, _, rfl, rfl, e139, rfl, rfl⟩) (ev_le (ev_varI rfl h135) (ev_int (i := 40)))) fun v9 B9 H9 x9 w9 h9 => k _ _ _ ((((((((((((((((((((((x12.trans x16).trans x21).trans x26).trans x38).trans x39).trans x42).trans x45).trans x50).trans x55).trans x60).trans x65).trans x70).trans x75).trans x78).trans x83).trans x88).trans x93).trans x106).trans x114).trans x130).trans x133).trans x9) w9.tail h9
end
end L3

namespace L3
open PySem L2
theorem y_p {α : Type} {P : α → Prop} {b : Bool} {x y : Option α} (h : b = true) (k : Yes x P) : Yes (if b = true then x else y) P := by rw [if_pos h]; exact k
theorem y_n {α : Type} {P : α → Prop} {b : Bool} {x y : Option α} (h : b = false) (k : Yes y P) : Yes (if b = true then x else y) P := by rw [if_neg (by rw [h]; exact Bool.false_ne_true)]; exact k
end L3

namespace L3
open PySem L2
/-! ### general -/
theorem bnd {α β : Type} {o : Option α} {f : α → Option β} {a : α} {r : Option β} (h : o = some a) (k : f a = r) : Option.bind o f = r := by rw [h]; exact k
theorem rgO_s {b : Int} (h0 : 0 ≤ b) (h : b ≤ 1000000) : rgO 0 b = some (rng 0 b) := if_pos ⟨by decide, by decide, by omega, by omega, by omega⟩
theorem repL_s {α : Type} {x : α} {n : Nat} (h : n ≤ 1000000) : repL [x] (n : Int) = some (List.replicate n [x]).flatten := by
  have e : ((n : Int)).toNat = n := by omega
  unfold repL
  rw [if_pos ⟨by omega, by omega, by rw [e, List.length_singleton, Nat.one_mul]; exact Nat.le_of_lt (Nat.lt_of_le_of_lt h (by decide))⟩, e]
theorem rep_flat {α : Type} {x : α} (n : Nat) : (List.replicate n [x]).flatten = List.replicate n x := by simp
theorem ixO_s {n i : Nat} {x : Int} (h : x = (i : Int)) (hi : i < n) : ixO n x = some i := by
  subst h
  unfold ixO ixN
  simp [hi]
theorem mapO_map {α β : Type} {f : α → Option β} {g : α → β} : ∀ {xs : List α}, (∀ x ∈ xs, f x = some (g x)) → mapO f xs = some (xs.map g)
  | [], _ => rfl
  | x :: xs, h => by
    show (match f x, mapO f xs with | some y, some ys => some (y :: ys) | _, _ => none) = _
    rw [h x List.mem_cons_self, mapO_map fun u hu => h u (List.mem_cons_of_mem _ hu)]
    rfl
theorem compM_map {α β : Type} {f : Unit → α → Option (Option β × Unit)} {g : α → β} : ∀ {xs : List α}, (∀ x ∈ xs, f () x = some (some (g x), ())) → compM f () xs = some (xs.map g, ())
  | [], _ => rfl
  | x :: xs, h => by
    unfold compM
    rw [h x List.mem_cons_self]
    dsimp only
    rw [compM_map fun u hu => h u (List.mem_cons_of_mem _ hu)]
    rfl
theorem compM_filter {α : Type} {f : Unit → α → Option (Option α × Unit)} {p : α → Bool} : ∀ {xs : List α}, (∀ x ∈ xs, f () x = if p x = true then some (some x, ()) else some (none, ())) → compM f () xs = some (xs.filter p, ())
  | [], _ => rfl
  | x :: xs, h => by
    have ih := compM_filter (f := f) (p := p) (xs := xs) fun u hu => h u (List.mem_cons_of_mem _ hu)
    unfold compM
    rw [h x List.mem_cons_self]
    cases hp : p x with
    | true => rw [if_pos rfl]; dsimp only; rw [ih, List.filter_cons, hp]; rfl
    | false => rw [if_neg (by decide)]; dsimp only; rw [ih, List.filter_cons, hp]; rfl
theorem foldO_cons {S α : Type} {f : S → α → Option S} {s s' : S} {x : α} {xs : List α} {r : Option S} (h : f s x = some s') (k : foldO f s' xs = r) : foldO f s (x :: xs) = r := by
  unfold foldO
  rw [h]
  exact k
theorem compM_cons {S α β : Type} {f : S → α → Option (Option β × S)} {s s' s2 : S} {x : α} {xs : List α} {o : Option β} {ys : List β} (h : f s x = some (o, s')) (k : compM f s' xs = some (ys, s2)) : compM f s (x :: xs) = some (o.toList ++ ys, s2) := by
  unfold compM
  rw [h]
  dsimp only
  rw [k]
theorem any_some {α : Type} {f : α → Option Bool} {g : α → Bool} : ∀ {xs : List α}, (∀ x ∈ xs, f x = some (g x)) → anyM f xs = some (xs.any g)
  | [], _ => rfl
  | x :: xs, h => by
    unfold anyM
    rw [h x List.mem_cons_self, List.any_cons]
    cases hx : g x with
    | true => rfl
    | false =>
      dsimp only
      rw [any_some fun u hu => h u (List.mem_cons_of_mem _ hu)]
      rfl
theorem all_some {α : Type} {f : α → Option Bool} {g : α → Bool} : ∀ {xs : List α}, (∀ x ∈ xs, f x = some (g x)) → allM f xs = some (xs.all g)
  | [], _ => rfl
  | x :: xs, h => by
    unfold allM
    rw [h x List.mem_cons_self, List.all_cons]
    cases hx : g x with
    | false => rfl
    | true =>
      dsimp only
      rw [all_some fun u hu => h u (List.mem_cons_of_mem _ hu)]
      rfl
/-- a filter with a partial test -/
theorem compM_filterB {α : Type} {f : Unit → α → Option (Option α × Unit)} {p : α → Bool} {g : α → Option Bool} (hf : ∀ x, f () x = Option.bind (g x) fun t => if t = true then some (some x, ()) else some (none, ())) {xs : List α} (h : ∀ x ∈ xs, g x = some (p x)) : compM f () xs = some (xs.filter p, ()) :=
  compM_filter fun x hx => by rw [hf, h x hx]; rfl
theorem nodup_le {many : Nat} {l : List Int} (h : l.Nodup) (hm : ∀ x ∈ l, 0 ≤ x ∧ x < (many : Int)) : l.length ≤ many := by
  have e : (l.map Int.toNat).Nodup := by
    refine List.pairwise_map.mpr ?_
    refine h.imp_of_mem fun {a b} ha hb hab => ?_
    have := hm a ha; have := hm b hb
    omega
  have s : (l.map Int.toNat) ⊆ List.range many := fun x hx => by
    obtain ⟨y, hy, rfl⟩ := List.mem_map.mp hx
    have := hm y hy
    exact List.mem_range.mpr (by omega)
  have := List.Nodup.length_le_of_subset e s
  rwa [List.length_map, List.length_range] at this
end L3

namespace L3
open PySem L2
/-! ### k34: one line at a time -/
theorem ixD_s {xs : List PyData} {n : Nat} {a : PyData} {i : Int} (h : xs[n]? = some a) (hi : i = n) : ixD (.tuple xs) i = some a := ixL_s (xs := xs) h hi
def inR (k x : Int) : Bool := decide (0 ≤ x) && decide (x < k)
theorem inR_iff {k x : Int} : inR k x = true ↔ 0 ≤ x ∧ x < k := by simp [inR]
theorem inR_false {k x : Int} (h : ¬ (0 ≤ x ∧ x < k)) : inR k x = false := by
  cases e : inR k x
  · rfl
  · exact absurd (inR_iff.mp e) h
abbrev SY := List (List (Int × (List (Int × Int))))
theorem fl_shape {sys : SY} {k : Int} {w : Str} {rest : List PyData} (h : (match lookI tb_MEMBERS w with | some m => !decide (((PyData.str w :: rest).length : Int) = m) | none => true) = true) : m_fine_line sys k (.tuple (.str w :: rest)) = some false := by
  unfold m_fine_line
  refine bnd (ixD_s (n := 0) rfl rfl) (bnd rfl (bnd (a := true) ?_ (if_pos rfl)))
  cases e : lookI tb_MEMBERS w with
  | none => exact if_pos rfl
  | some m =>
    rw [e] at h
    refine (if_neg (by simp)).trans (bnd rfl (bnd (ixD_s (n := 0) rfl rfl) (bnd rfl (bnd e ?_))))
    exact congrArg some h
theorem fl_head {sys : SY} {k : Int} {w : Str} {rest : List PyData} {m : Int} (h : lookI tb_MEMBERS w = some m) (hm : ((PyData.str w :: rest).length : Int) = m) (hin : decide (w = Str.ofString "in") = false) {c t : Bool} {ps : List Int}
    (hc : (if (decide (w ∈ [(Str.ofString "next"), (Str.ofString "until"), (Str.ofString "within")])) = true then (Option.bind (ixD (.tuple (.str w :: rest)) ((3 : Int))) fun t99 => Option.bind (asQ t99) fun t101 => Option.bind (m_is_chance t101) fun t103 => some ((!t103))) else (some (false))) = some (!c))
    (ht : c = true → (if (decide (w = (Str.ofString "within"))) = true then (Option.bind (ixD (.tuple (.str w :: rest)) ((6 : Int))) fun t115 => Option.bind (asI t115) fun t117 => some ((!(decide ((0 : Int) ≤ t117) && decide (t117 ≤ (30 : Int)))))) else (some (false))) = some (!t))
    (hp : c = true → t = true → m_parts_of (.tuple (.str w :: rest)) = some ps) : m_fine_line sys k (.tuple (.str w :: rest)) = some (c && (t && ps.all (inR k))) := by
  unfold m_fine_line
  refine bnd (ixD_s (n := 0) rfl rfl) (bnd rfl (bnd (a := false) ?_ ?_))
  · rw [h]
    refine (if_neg (by simp)).trans (bnd rfl (bnd (ixD_s (n := 0) rfl rfl) (bnd rfl (bnd h ?_))))
    rw [hm]
    simp
  refine (if_neg (by simp)).trans (bnd (ixD_s (n := 0) rfl rfl) (bnd rfl ?_))
  refine (if_neg (by rw [hin]; simp)).trans (bnd (ixD_s (n := 0) rfl rfl) (bnd rfl (bnd hc ?_)))
  cases c with
  | false => exact if_pos rfl
  | true =>
    refine (if_neg (by simp)).trans (bnd (ixD_s (n := 0) rfl rfl) (bnd rfl (bnd (ht rfl) ?_)))
    cases t with
    | false => exact if_pos rfl
    | true =>
      refine (if_neg (by simp)).trans (bnd (hp rfl rfl) (bnd (all_some (g := inR k) fun x _ => rfl) rfl))
theorem lk_in : lookI tb_MEMBERS (Str.ofString "in") = some 2 := by decide +kernel
theorem lk_not : lookI tb_MEMBERS (Str.ofString "not") = some 2 := by decide +kernel
theorem lk_and : lookI tb_MEMBERS (Str.ofString "and") = some 3 := by decide +kernel
theorem lk_next : lookI tb_MEMBERS (Str.ofString "next") = some 5 := by decide +kernel
theorem lk_until : lookI tb_MEMBERS (Str.ofString "until") = some 6 := by decide +kernel
theorem lk_within : lookI tb_MEMBERS (Str.ofString "within") = some 7 := by decide +kernel
theorem lk_or : lookI tb_MEMBERS (Str.ofString "or") = none := by decide +kernel
theorem lk_mt : lookI tb_MEMBERS (Str.ofString "") = none := by decide +kernel
theorem lk_chance : lookI tb_MEMBERS (Str.ofString "chance") = none := by decide +kernel
/-- the parts -/
theorem po_12 {w : Str} {rest : List PyData} {ps : List Int} (h1 : decide (w = Str.ofString "in") = false) (h2 : decide (w ∈ [(Str.ofString "not"), (Str.ofString "and")]) = true) (h : asIs (cutL (.str w :: rest) (some 1) none) = some ps) : m_parts_of (.tuple (.str w :: rest)) = some ps := by
  unfold m_parts_of
  refine bnd (ixD_s (n := 0) rfl rfl) (bnd rfl ?_)
  refine (if_neg (by rw [h1]; simp)).trans (bnd (ixD_s (n := 0) rfl rfl) (bnd rfl ?_))
  exact (if_pos h2).trans (bnd rfl (bnd h rfl))
theorem po_w {w : Str} {rest : List PyData} {ps : List Int} (h1 : decide (w = Str.ofString "in") = false) (h2 : decide (w ∈ [(Str.ofString "not"), (Str.ofString "and")]) = false) (h3 : decide (w = Str.ofString "within") = true) (h : asIs (cutL (.str w :: rest) (some 4) (some 6)) = some ps) : m_parts_of (.tuple (.str w :: rest)) = some ps := by
  unfold m_parts_of
  refine bnd (ixD_s (n := 0) rfl rfl) (bnd rfl ?_)
  refine (if_neg (by rw [h1]; simp)).trans (bnd (ixD_s (n := 0) rfl rfl) (bnd rfl ?_))
  refine (if_neg (by rw [h2]; simp)).trans (bnd (ixD_s (n := 0) rfl rfl) (bnd rfl ?_))
  exact (if_pos h3).trans (bnd rfl (bnd h rfl))
theorem po_u {w : Str} {rest : List PyData} {ps : List Int} (h1 : decide (w = Str.ofString "in") = false) (h2 : decide (w ∈ [(Str.ofString "not"), (Str.ofString "and")]) = false) (h3 : decide (w = Str.ofString "within") = false) (h : asIs (cutL (.str w :: rest) (some 4) none) = some ps) : m_parts_of (.tuple (.str w :: rest)) = some ps := by
  unfold m_parts_of
  refine bnd (ixD_s (n := 0) rfl rfl) (bnd rfl ?_)
  refine (if_neg (by rw [h1]; simp)).trans (bnd (ixD_s (n := 0) rfl rfl) (bnd rfl ?_))
  refine (if_neg (by rw [h2]; simp)).trans (bnd (ixD_s (n := 0) rfl rfl) (bnd rfl ?_))
  exact (if_neg (by rw [h3]; simp)).trans (bnd rfl (bnd h rfl))
theorem s_not {x : Option Bool} : (if (decide (Str.ofString "not" ∈ [(Str.ofString "next"), (Str.ofString "until"), (Str.ofString "within")])) = true then x else some false) = some (!true) := if_neg (by decide +kernel)
theorem s_and {x : Option Bool} : (if (decide (Str.ofString "and" ∈ [(Str.ofString "next"), (Str.ofString "until"), (Str.ofString "within")])) = true then x else some false) = some (!true) := if_neg (by decide +kernel)
theorem fl_not {sys : SY} {k a : Int} : m_fine_line sys k (.tuple [.str (Str.ofString "not"), .int a]) = some (inR k a) := by
  have := fl_head (sys := sys) (k := k) (rest := [PyData.int a]) (c := true) (t := true) (ps := [a]) lk_not rfl (by decide +kernel) s_not (fun _ => if_neg (by decide +kernel)) (fun _ _ => po_12 (by decide +kernel) (by decide +kernel) rfl)
  simpa using this
theorem fl_and {sys : SY} {k a b : Int} : m_fine_line sys k (.tuple [.str (Str.ofString "and"), .int a, .int b]) = some (inR k a && inR k b) := by
  have := fl_head (sys := sys) (k := k) (rest := [PyData.int a, PyData.int b]) (c := true) (t := true) (ps := [a, b]) lk_and rfl (by decide +kernel) s_and (fun _ => if_neg (by decide +kernel)) (fun _ _ => po_12 (by decide +kernel) (by decide +kernel) rfl)
  simpa using this
theorem fl_next {sys : SY} {k a p q : Int} {u v : PyData} {c : Bool} (hc : m_is_chance (p, q) = some c) : m_fine_line sys k (.tuple [.str (Str.ofString "next"), u, v, .tuple [.int p, .int q], .int a]) = some (c && inR k a) := by
  have := fl_head (sys := sys) (k := k) (rest := [u, v, .tuple [.int p, .int q], .int a]) (c := c) (t := true) (ps := [a]) lk_next rfl (by decide +kernel) ((if_pos (by decide +kernel)).trans (bnd (ixD_s (n := 3) rfl rfl) (bnd rfl (bnd hc rfl)))) (fun _ => if_neg (by decide +kernel)) (fun _ _ => po_u (by decide +kernel) (by decide +kernel) (by decide +kernel) rfl)
  simpa using this
theorem fl_until {sys : SY} {k a b p q : Int} {u v : PyData} {c : Bool} (hc : m_is_chance (p, q) = some c) : m_fine_line sys k (.tuple [.str (Str.ofString "until"), u, v, .tuple [.int p, .int q], .int a, .int b]) = some (c && (inR k a && inR k b)) := by
  have := fl_head (sys := sys) (k := k) (rest := [u, v, .tuple [.int p, .int q], .int a, .int b]) (c := c) (t := true) (ps := [a, b]) lk_until rfl (by decide +kernel) ((if_pos (by decide +kernel)).trans (bnd (ixD_s (n := 3) rfl rfl) (bnd rfl (bnd hc rfl)))) (fun _ => if_neg (by decide +kernel)) (fun _ _ => po_u (by decide +kernel) (by decide +kernel) (by decide +kernel) rfl)
  simpa using this
theorem fl_within {sys : SY} {k a b p q s : Int} {u v : PyData} {c : Bool} (hc : m_is_chance (p, q) = some c) : m_fine_line sys k (.tuple [.str (Str.ofString "within"), u, v, .tuple [.int p, .int q], .int a, .int b, .int s]) = some (c && (inR 31 s && (inR k a && inR k b))) := by
  have := fl_head (sys := sys) (k := k) (rest := [u, v, .tuple [.int p, .int q], .int a, .int b, .int s]) (c := c) (t := inR 31 s) (ps := [a, b]) lk_within rfl (by decide +kernel) ((if_pos (by decide +kernel)).trans (bnd (ixD_s (n := 3) rfl rfl) (bnd rfl (bnd hc rfl)))) (fun _ => (if_pos (by decide +kernel)).trans (bnd (ixD_s (n := 6) rfl rfl) (bnd rfl (by unfold inR; rw [show decide (s ≤ 30) = decide (s < 31) from decide_eq_decide.mpr (by omega)])))) (fun _ _ => po_w (by decide +kernel) (by decide +kernel) (by decide +kernel) rfl)
  simpa using this
theorem asIs_map : ∀ xs : List Int, asIs (xs.map PyData.int) = some xs
  | [] => rfl
  | x :: xs => by
    show (asIs (xs.map PyData.int)).map (x :: ·) = _
    rw [asIs_map xs]; rfl
theorem fl_in {sys : SY} {k : Int} {xs : List Int} (hl : xs.length ≤ 1000) : m_fine_line sys k (.tuple [.str (Str.ofString "in"), .tuple (xs.map PyData.int)]) = some (xs.all (inR sys.length) && (rng 0 ((xs.length : Int) - 1)).all fun x => decide (xs.getD x.toNat 0 < xs.getD (x.toNat + 1) 0)) := by
  unfold m_fine_line
  refine bnd (ixD_s (n := 0) rfl rfl) (bnd rfl (bnd (a := false) ?_ ?_))
  · rw [lk_in]
    exact (if_neg (by simp)).trans (bnd rfl (bnd (ixD_s (n := 0) rfl rfl) (bnd rfl (bnd lk_in rfl))))
  refine (if_neg (by simp)).trans (bnd (ixD_s (n := 0) rfl rfl) (bnd rfl ?_))
  refine (if_pos (by decide +kernel)).trans (bnd (ixD_s (n := 1) rfl rfl) (bnd rfl (bnd (asIs_map xs) (bnd (all_some (g := inR sys.length) fun x _ => rfl) ?_))))
  cases e : xs.all (inR sys.length) with
  | false => exact if_pos rfl
  | true =>
    refine (if_neg (by simp)).trans (bnd (small62_s (by omega) (by omega)) (bnd (all_some (g := fun x => decide (xs.getD x.toNat 0 < xs.getD (x.toNat + 1) 0)) fun x hx => ?_) rfl))
    obtain ⟨i, hi⟩ := List.getElem?_of_mem hx
    obtain ⟨e1, e2⟩ := rng_at hi
    have e1 : x = (i : Int) := by omega
    subst e1
    refine bnd (ixL_s (n := i) (List.getElem?_eq_getElem (by omega)) rfl) (bnd (ixL_s (n := i + 1) (List.getElem?_eq_getElem (by omega)) (by omega)) ?_)
    rw [Int.toNat_natCast, List.getD_eq_getElem?_getD, List.getD_eq_getElem?_getD, List.getElem?_eq_getElem (by omega), List.getElem?_eq_getElem (by omega)]
    rfl
theorem fl_in_ok {sys : SY} {k : Int} {xs : List Int} (hl : xs.length ≤ 1000) (h1 : ∀ x ∈ xs, 0 ≤ x ∧ x < (sys.length : Int)) (h2 : xs.Pairwise (· < ·)) : m_fine_line sys k (.tuple [.str (Str.ofString "in"), .tuple (xs.map PyData.int)]) = some true := by
  rw [fl_in hl]
  refine congrArg some ?_
  rw [Bool.and_eq_true, List.all_eq_true, List.all_eq_true]
  refine ⟨fun x hx => inR_iff.mpr (h1 x hx), fun x hx => ?_⟩
  obtain ⟨i, hi⟩ := List.getElem?_of_mem hx
  obtain ⟨e1, e2⟩ := rng_at hi
  have e1 : x = (i : Int) := by omega
  subst e1
  rw [Int.toNat_natCast, List.getD_eq_getElem?_getD, List.getD_eq_getElem?_getD, List.getElem?_eq_getElem (by omega), List.getElem?_eq_getElem (by omega)]
  exact decide_eq_true (List.pairwise_iff_getElem.mp h2 i (i + 1) (by omega) (by omega) (by omega))
/-! ### sentences -/
theorem allE_true {α : Type} {f : Int × α → Option Bool} : ∀ {n : Nat} {l : List α}, (∀ (i : Nat) x, l[i]? = some x → f (((n + i : Nat) : Int), x) = some true) → allM f (enumI n l) = some true
  | _, [], _ => rfl
  | n, x :: l, h => by
    unfold enumI allM
    rw [show f ((n : Int), x) = some true from h 0 x rfl]
    exact allE_true fun i y hy => by
      have := h (i + 1) y (by simpa using hy)
      rwa [show n + (i + 1) = n + 1 + i by omega] at this
theorem allE_false {α : Type} {f : Int × α → Option Bool} {y : α} {r : List α} : ∀ {n : Nat} {l : List α}, (∀ (i : Nat) x, l[i]? = some x → f (((n + i : Nat) : Int), x) = some true) → f (((n + l.length : Nat) : Int), y) = some false → allM f (enumI n (l ++ y :: r)) = some false
  | n, [], _, h2 => by
    show allM f (enumI n (y :: r)) = _
    unfold enumI allM
    rw [show f ((n : Int), y) = some false from h2]
  | n, x :: l, h, h2 => by
    show allM f (enumI n (x :: (l ++ y :: r))) = _
    unfold enumI allM
    rw [show f ((n : Int), x) = some true from h 0 x rfl]
    refine allE_false (fun i z hz => ?_) ?_
    · have := h (i + 1) z (by simpa using hz)
      rwa [show n + (i + 1) = n + 1 + i by omega] at this
    · rw [show n + 1 + l.length = n + (x :: l).length by simp; omega]; exact h2
theorem bind_id {α : Type} {o : Option α} : (Option.bind o fun t => some t) = o := by cases o <;> rfl
def GoodL (n : Nat) (l : List PyData) : Prop := ∀ sys : SY, sys.length = n → ∀ (i : Nat) x, l[i]? = some x → m_fine_line sys (i : Int) x = some true
theorem valid_true {n : Nat} {sys : SY} {l : List PyData} (hs : sys.length = n) (h1 : 1 ≤ l.length) (h2 : l.length ≤ 40) (h : GoodL n l) : m_is_valid sys l = some true := by
  unfold m_is_valid
  refine (if_neg (by simp; omega)).trans (bnd (allE_true fun i x hx => ?_) rfl)
  show (Option.bind (m_fine_line sys ((0 + i : Nat) : Int) x) fun t => some t) = _
  rw [bind_id, Nat.zero_add]
  exact h sys hs i x hx
theorem valid_false {n : Nat} {sys : SY} {l r : List PyData} {y : PyData} (hs : sys.length = n) (h2 : l.length + 1 + r.length ≤ 40) (h : GoodL n l) (hy : m_fine_line sys (l.length : Int) y = some false) : m_is_valid sys (l ++ y :: r) = some false := by
  unfold m_is_valid
  refine (if_neg (by simp; omega)).trans (bnd (allE_false (fun i x hx => ?_) ?_) rfl)
  · show (Option.bind (m_fine_line sys ((0 + i : Nat) : Int) x) fun t => some t) = _
    rw [bind_id, Nat.zero_add]
    exact h sys hs i x hx
  · show (Option.bind (m_fine_line sys ((0 + l.length : Nat) : Int) y) fun t => some t) = _
    rw [bind_id, Nat.zero_add]
    exact hy
theorem valid_long {sys : SY} {l : List PyData} (h : 40 < l.length) : m_is_valid sys l = some false := by
  unfold m_is_valid
  exact if_pos (by simp; omega)
theorem valid_nil {sys : SY} : m_is_valid sys [] = some false := by
  unfold m_is_valid
  exact if_pos (by simp)
end L3

namespace L3
open PySem L2
theorem ixL_lit {α : Type} {xs : List α} {i : Int} {P : α → Prop} (h0 : 0 ≤ i) (h1 : i < xs.length) (h : ∀ x ∈ xs, P x) : Yes (ixL xs i) P := by
  obtain ⟨n, hn⟩ := Int.eq_ofNat_of_zero_le h0
  have hl : n < xs.length := by omega
  exact ⟨xs[n], ixL_s (List.getElem?_eq_getElem hl) hn, h _ (List.getElem_mem hl)⟩
/-- comprehensions: they answer -/
theorem y_comp {S α β : Type} (f : S → α → Option (Option β × S)) (I : Nat → List β → S → Prop) {xs : List α} {s : S} (h0 : I 0 [] s) (hs : ∀ (i : Nat) x ys s, xs[i]? = some x → I i ys s → Yes (f s x) fun r => I (i + 1) (ys ++ r.1.toList) r.2) : Yes (compM f s xs) fun r => I xs.length r.1 r.2 := by
  have key : ∀ (xs : List α) (k : Nat) (pre : List β) (s : S), I k pre s → (∀ (i : Nat) x ys s, xs[i]? = some x → I (k + i) ys s → Yes (f s x) fun r => I (k + i + 1) (ys ++ r.1.toList) r.2) → Yes (compM f s xs) fun r => I (k + xs.length) (pre ++ r.1) r.2 := by
    intro xs
    induction xs with
    | nil => intro k pre s h _; exact ⟨([], s), rfl, by simpa using h⟩
    | cons x xs ih =>
      intro k pre s h hs
      obtain ⟨⟨o, s'⟩, h1, h2⟩ := hs 0 x pre s rfl h
      obtain ⟨⟨ys, s2⟩, h3, h4⟩ := ih (k + 1) (pre ++ o.toList) s' h2 fun i y zs s hy hI => by
        have := hs (i + 1) y zs s (by simpa using hy) (by rw [show k + (i + 1) = k + 1 + i by omega]; exact hI)
        rw [show k + (i + 1) + 1 = k + 1 + i + 1 by omega] at this
        exact this
      refine ⟨(o.toList ++ ys, s2), ?_, ?_⟩
      · unfold compM
        rw [h1]
        dsimp only
        rw [h3]
      · rw [show k + (x :: xs).length = k + 1 + xs.length by simp; omega]
        show I _ (pre ++ (o.toList ++ ys)) s2
        rw [← List.append_assoc]
        exact h4
  have := key xs 0 [] s h0 fun i x ys s hx hI => by
    rw [Nat.zero_add] at hI ⊢
    exact hs i x ys s hx hI
  simpa using this
end L3

namespace L3
open PySem L2
/-! ### k34: the box -/
def BoxOk (s : List Int × Int) (n : Int) : Prop := (1 ≤ s.1.length ∧ s.1.length ≤ 4000) ∧ 0 ≤ s.2 ∧ s.2 ≤ n
theorem BoxOk.le {s : List Int × Int} {a b : Int} (h : BoxOk s a) (hab : a ≤ b) : BoxOk s b := ⟨h.1, h.2.1, Int.le_trans h.2.2 hab⟩
theorem draws_ok (x : Int) : Yes (m_l_draws x 1000003 6) fun r => r.length ≤ 6 := by
  unfold m_l_draws
  refine y_bind (Q := fun _ => True) (y_if (fun _ => y_some trivial) fun _ => y_some trivial) fun s _ => ?_
  refine y_eq (a := 1000000000000000000) (by decide +kernel) ?_
  refine y_if (fun _ => ?_) fun _ => ?_
  · refine y_eq (small62_s (by decide) (by decide)) ?_
    refine y_bind (Q := fun (p : Int × List Int) => p.2.length ≤ 6) ?_ fun p hp => y_some hp
    refine (y_foldI _ (fun i (p : Int × List Int) => p.2.length ≤ i) (by simp) ?_).mono fun p hp => by rw [rng_len] at hp; simpa using hp
    rintro i y ⟨a, t⟩ hy hI
    have hi := (rng_at hy).2
    have hI : t.length ≤ i := hI
    refine y_eq (modI_s (by decide)) (y_eq (room_s (by show t.length ≤ _; omega)) (y_eq (divI_s (by decide) (by decide)) (y_some ?_)))
    show (t ++ [_]).length ≤ _
    rw [List.length_append, List.length_singleton]; omega
  · refine y_eq (small62_s (by decide) (by decide)) ?_
    refine y_bind (Q := fun (p : List Int) => p.length ≤ 6) ?_ fun p hp => y_some hp
    refine (y_foldI _ (fun i (p : List Int) => p.length ≤ i) (by simp) ?_).mono fun p hp => by rw [rng_len] at hp; simpa using hp
    rintro i y t hy hI
    have hi := (rng_at hy).2
    refine y_eq (mulI_l (by decide) (by decide)) (y_eq (mulI_r (by decide) (by decide)) (y_eq (modI_s (by decide)) (y_eq (mulI_r (by decide) (by decide)) (y_eq (mulI_l (by decide) (by decide)) (y_eq (modI_s (by decide)) (y_eq (divI_s (by decide) (by decide)) (y_eq (modI_s (by decide)) (y_eq (room_s (by omega)) (y_some ?_)))))))))
    rw [List.length_append, List.length_singleton]; omega
theorem catT_s {α : Type} {xs ys : List α} (h : xs.length + ys.length ≤ 1000000) : catT xs ys = some (xs ++ ys) := if_pos h
theorem box_ok {ns : List Int} (h : ns.length ≤ 63) : Yes (m_l_box ns) fun b => BoxOk b 0 := by
  unfold m_l_box
  refine y_bind (Q := fun t => t.length ≤ 4000) ?_ fun t ht => ?_
  · refine (y_foldI _ (fun i (t : List Int) => t.length ≤ 6 * i) (by simp) ?_).mono fun t ht => by have : t.length ≤ 6 * ns.length := ht; omega
    intro i x t hx hI
    have hi : i < ns.length := (List.getElem?_eq_some_iff.mp hx).1
    refine y_bind (draws_ok x) fun d hd => y_eq (catT_s (by omega)) (y_some ?_)
    rw [List.length_append]; omega
  · refine y_bind (Q := fun t => 1 ≤ t.length ∧ t.length ≤ 4000) (y_if (fun _ => y_some (by decide)) fun c => y_some ⟨?_, ht⟩) fun t ht => y_some ⟨ht, Int.le_refl 0, Int.le_refl 0⟩
    have : ¬ ((t.length : Int) = 0) := fun z => c (decide_eq_true z)
    omega
theorem next_ok {s : List Int × Int} {n many : Int} (hs : BoxOk s n) (hn : n < 2 ^ 61) (hm : 0 < many) : Yes (m_l_next s many) fun r => (0 ≤ r.1 ∧ r.1 < many) ∧ BoxOk r.2 (n + 1) := by
  unfold m_l_next
  obtain ⟨⟨h1, h1'⟩, h2, h3⟩ := hs
  have hl : (0 : Int) < (s.1.length : Int) := by omega
  have a1 := Int.emod_nonneg s.2 (show (s.1.length : Int) ≠ 0 by omega)
  have a2 := Int.emod_lt_of_pos s.2 hl
  refine y_eq (modI_s hl) (y_bind (ixL_lit (P := fun _ => True) a1 a2 fun _ _ => trivial) fun t _ => ?_)
  refine y_eq (divI_s hl (by show (s.1.length : Int) < _; omega)) (y_eq (mulI_l (by decide) (by decide)) (y_eq (modI_s hm) (y_some ⟨⟨Int.emod_nonneg _ (by omega), Int.emod_lt_of_pos _ hm⟩, ⟨h1, h1'⟩, ?_, ?_⟩)))
  · show 0 ≤ s.2 + 1; omega
  · show s.2 + 1 ≤ _; omega
theorem ends_ok {st : List Int × Int} {n many : Int} (hs : BoxOk st n) (hn : n < 2 ^ 50) (hm : 1 ≤ many) (hm2 : many ≤ 100) : Yes (m_l_ends st many) fun r => BoxOk r.2 (n + 2 + 2 * many) := by
  unfold m_l_ends
  refine y_eq (small62_s (by omega) (by omega)) ?_
  refine y_bind (Q := fun (p : List (Int × Int) × (List Int × Int)) => BoxOk p.2 (n + 2 * many)) ?_ fun p hp => ?_
  · refine (y_foldI _ (fun i (p : List (Int × Int) × (List Int × Int)) => p.1.length ≤ i ∧ BoxOk p.2 (n + 2 * i)) ⟨by simp, by simpa using hs⟩ ?_).mono fun p hp => hp.2.le (by rw [rng_len]; omega)
    rintro i x ⟨e, st⟩ hx ⟨g1, g2⟩
    obtain ⟨e1, e2⟩ := rng_at hx
    dsimp only at g1 g2
    refine y_bind (Q := fun (p : Bool × (List Int × Int)) => BoxOk p.2 (n + 2 * i + 1)) (y_if (fun c => ?_) (fun c => y_some (g2.le (by omega)))) fun p hp => ?_
    · exact y_bind (next_ok g2 (by omega) (by decide)) fun t ht => y_some ht.2
    · refine y_bind (Q := fun (q : List (Int × Int) × (List Int × Int)) => q.1.length ≤ i + 1 ∧ BoxOk q.2 (n + 2 * ((i + 1 : Nat) : Int))) (y_if (fun c => ?_) fun c => y_some ⟨Nat.le_succ_of_le g1, hp.le (by omega)⟩) fun q hq => y_some hq
      refine y_bind (next_ok hp (by omega) (by decide)) fun t ht => y_eq (room_s (by show e.length ≤ _; omega)) (y_some ⟨?_, ht.2.le (by omega)⟩)
      show (e ++ [_]).length ≤ _
      rw [List.length_append, List.length_singleton]; omega
  · refine y_bind (Q := fun (q : List (Int × Int) × (List Int × Int)) => BoxOk q.2 (n + 2 + 2 * many)) (y_if (fun c => ?_) fun c => y_some (hp.le (by omega))) fun q hq => y_some hq
    exact y_bind (next_ok hp (by omega) (by omega)) fun t ht => y_some (ht.2.le (by omega))
theorem system_ok {st : List Int × Int} {n many : Int} (hs : BoxOk st n) (hn : n < 2 ^ 40) (hm : 1 ≤ many) (hm2 : many ≤ 100) : Yes (m_l_system st many 2 2) fun r => (r.1.length : Int) = many ∧ BoxOk r.2 (n + 1000 * many) := by
  unfold m_l_system
  refine y_eq (small62_s (by omega) (by omega)) ?_
  refine y_bind (Q := fun (p : SY × (List Int × Int)) => (p.1.length : Int) = many ∧ BoxOk p.2 (n + 1000 * many)) ?_ fun p hp => y_some hp
  refine (y_foldI _ (fun i (p : SY × (List Int × Int)) => p.1.length = i ∧ BoxOk p.2 (n + 1000 * i)) ⟨rfl, by simpa using hs⟩ ?_).mono fun p hp => ⟨by have := hp.1; rw [rng_len] at this; omega, hp.2.le (by rw [rng_len]; omega)⟩
  rintro i x ⟨S, st⟩ hx ⟨g1, g2⟩
  obtain ⟨e1, e2⟩ := rng_at hx
  dsimp only at g1 g2
  refine y_bind (next_ok g2 (by omega) (by decide)) fun t38 h38 => ?_
  refine y_eq (small62_s (by omega) (by omega)) ?_
  refine y_bind (Q := fun (q : (List (Int × (List (Int × Int)))) × (List Int × Int)) => BoxOk q.2 (n + 1000 * i + 1 + 250 * 2)) ?_ fun q hq => ?_
  · refine (y_foldI _ (fun j (q : (List (Int × (List (Int × Int)))) × (List Int × Int)) => q.1.length ≤ j ∧ BoxOk q.2 (n + 1000 * i + 1 + 250 * j)) ⟨by simp, by simpa using h38.2⟩ ?_).mono fun q hq => hq.2.le (by rw [rng_len]; omega)
    rintro j y ⟨e, st⟩ hy ⟨g3, g4⟩
    obtain ⟨d1, d2⟩ := rng_at hy
    dsimp only at g3 g4
    refine y_bind (next_ok g4 (by omega) (by decide)) fun t62 h62 => ?_
    refine y_bind (ends_ok h62.2 (by omega) hm hm2) fun t64 h64 => y_eq (room_s (by show e.length ≤ _; omega)) (y_some ⟨?_, h64.le (by omega)⟩)
    show (e ++ [_]).length ≤ _
    rw [List.length_append, List.length_singleton]; omega
  · refine y_eq (room_s (by show S.length ≤ _; omega)) (y_some ⟨?_, hq.le (by omega)⟩)
    show (S ++ [_]).length = _
    rw [List.length_append, List.length_singleton]; omega
theorem chance_ok {st : List Int × Int} {n : Int} (hs : BoxOk st n) (hn : n < 2 ^ 60) : Yes (m_l_chance st) fun r => m_is_chance r.1 = some true ∧ BoxOk r.2 (n + 1) := by
  unfold m_l_chance
  refine y_bind (next_ok hs (by omega) (by decide)) fun t ht => ?_
  refine y_bind (ixL_lit (P := fun c => m_is_chance c = some true) ht.1.1 ht.1.2 ?_) fun c hc => y_some ⟨hc, ht.2⟩
  intro x hx
  simp only [List.mem_cons, List.not_mem_nil, or_false] at hx
  rcases hx with rfl | rfl | rfl | rfl | rfl | rfl | rfl <;> rfl
/-! ### drawn lines are fine -/
def GoodX (n : Nat) (k : Int) (x : PyData) : Prop := ∀ sys : SY, sys.length = n → m_fine_line sys k x = some true
theorem tt2 {a b : Bool} (h1 : a = true) (h2 : b = true) : (a && b) = true := by rw [h1, h2]; rfl
theorem line_ok {st : List Int × Int} {n many k : Int} (hs : BoxOk st n) (hn : n < 2 ^ 40) (hm : 1 ≤ many) (hm2 : many ≤ 100) (hk : 0 ≤ k) : Yes (m_l_line st many k) fun r => GoodX many.toNat k r.1 ∧ BoxOk r.2 (n + 10 + many) := by
  unfold m_l_line
  refine y_bind (next_ok hs (by omega) (by decide)) fun t10 h10 => ?_
  refine y_if (fun c => ?_) fun c => ?_
  · refine y_eq (small62_s (by omega) (by omega)) (y_eq (room_s (by rw [rng_len]; omega)) ?_)
    refine y_bind (Q := fun (p : List Int × (List Int × Int)) => (p.1.length ≤ many.toNat ∧ (∀ x ∈ p.1, 0 ≤ x ∧ x < many) ∧ p.1.Pairwise (· < ·)) ∧ BoxOk p.2 (n + 1 + many)) ?_ fun p hp => y_some ⟨?_, hp.2.le (by omega)⟩
    · refine (y_comp _ (fun i ys s => (ys.length ≤ i ∧ (∀ x ∈ ys, 0 ≤ x ∧ x < (i : Int)) ∧ ys.Pairwise (· < ·)) ∧ BoxOk s (n + 1 + i)) ⟨⟨by simp, by simp, .nil⟩, by simpa using h10.2⟩ ?_).mono fun p hp => ?_
      · rintro i x ys s hx ⟨⟨g1, g2, g3⟩, g4⟩
        obtain ⟨e1, e2⟩ := rng_at hx
        have e1 : x = (i : Int) := by omega
        subst e1
        refine y_bind (next_ok g4 (by omega) (by decide)) fun t ht => y_if (fun c => y_some ⟨⟨?_, ?_, ?_⟩, ht.2.le (by omega)⟩) fun c => y_some ⟨⟨?_, ?_, ?_⟩, ht.2.le (by omega)⟩
        · show (ys ++ [_]).length ≤ _
          rw [List.length_append, List.length_singleton]; omega
        · intro z hz
          rcases List.mem_append.mp hz with hz | hz
          · have := g2 z hz; omega
          · have hz : z ∈ [(i : Int)] := hz
            rw [List.mem_singleton.mp hz]; omega
        · show (ys ++ [(i : Int)]).Pairwise _
          refine List.pairwise_append.mpr ⟨g3, List.pairwise_singleton _ _, fun a ha b hb => ?_⟩
          rw [List.mem_singleton.mp hb]
          exact (g2 a ha).2
        · show (ys ++ []).length ≤ _
          rw [List.append_nil]; omega
        · show ∀ x ∈ ys ++ [], _
          rw [List.append_nil]
          intro z hz; have := g2 z hz; omega
        · show (ys ++ []).Pairwise _
          rw [List.append_nil]; exact g3
      · obtain ⟨⟨g1, g2, g3⟩, g4⟩ := hp
        rw [rng_len] at g1 g2 g4
        exact ⟨⟨by omega, fun x hx => by have := g2 x hx; omega, g3⟩, g4.le (by omega)⟩
    · intro sys hsys
      exact fl_in_ok (xs := p.1) (by have := hp.1.1; omega) (fun x hx => by have := hp.1.2.1 x hx; omega) hp.1.2.2
  · have hk1 : 0 < k := by
      rcases Int.lt_or_eq_of_le hk with h | h
      · exact h
      · exact absurd (by rw [← h]; rfl) c
    refine y_bind (next_ok h10.2 (by omega) hk1) fun t55 h55 => y_bind (next_ok h55.2 (by omega) hk1) fun t60 h60 => ?_
    have r55 : inR k t55.1 = true := inR_iff.mpr h55.1
    have r60 : inR k t60.1 = true := inR_iff.mpr h60.1
    refine y_if (fun _ => y_some ⟨fun sys _ => fl_not.trans (congrArg some r55), h60.2.le (by omega)⟩) fun _ => ?_
    refine y_if (fun _ => y_some ⟨fun sys _ => fl_and.trans (congrArg some (tt2 r55 r60)), h60.2.le (by omega)⟩) fun _ => ?_
    refine y_bind (next_ok h60.2 (by omega) (by decide)) fun t71 h71 => y_bind (next_ok h71.2 (by omega) (by decide)) fun t73 h73 => y_bind (chance_ok h73.2 (by omega)) fun t75 h75 => ?_
    obtain ⟨⟨p, q⟩, s75⟩ := t75
    refine y_if (fun _ => ?_) fun _ => ?_
    · refine y_eq rfl (y_eq (catT_s (by simp)) (y_eq (catT_s (by simp)) (y_some ⟨fun sys _ => ?_, h75.2.le (by omega)⟩)))
      exact (fl_next h75.1).trans (congrArg some r55)
    refine y_if (fun _ => ?_) fun _ => ?_
    · refine y_eq rfl (y_eq (catT_s (by simp)) (y_eq (catT_s (by simp)) (y_some ⟨fun sys _ => ?_, h75.2.le (by omega)⟩)))
      exact (fl_until h75.1).trans (congrArg some (tt2 rfl (tt2 r55 r60)))
    · refine y_eq rfl (y_eq (catT_s (by simp)) (y_bind (next_ok h75.2 (by omega) (by decide)) fun t102 h102 => ?_))
      refine y_bind (ixL_lit (P := fun z => inR 31 z = true) h102.1.1 h102.1.2 (by decide)) fun t104 h104 => y_eq (catT_s (by simp)) (y_some ⟨fun sys _ => ?_, h102.2.le (by omega)⟩)
      exact (fl_within h75.1).trans (congrArg some (tt2 rfl (tt2 h104 (tt2 r55 r60))))
theorem good_app {n : Nat} {l : List PyData} {x : PyData} (h : GoodL n l) (hx : GoodX n (l.length : Int) x) : GoodL n (l ++ [x]) := fun sys hs i y hy => by
  by_cases hi : i < l.length
  · rw [List.getElem?_append_left hi] at hy
    exact h sys hs i y hy
  · rw [List.getElem?_append_right (by omega)] at hy
    have h0 : i - l.length = 0 := by
      have := (List.getElem?_eq_some_iff.mp hy).1
      simp at this
      omega
    rw [h0] at hy
    obtain rfl : x = y := Option.some.inj hy
    rw [show i = l.length by omega]
    exact hx sys hs
theorem sentence_ok {st : List Int × Int} {n many : Int} (hs : BoxOk st n) (hn : n < 2 ^ 39) (hm : 1 ≤ many) (hm2 : many ≤ 100) : Yes (m_l_sentence st many 8) fun r => (1 ≤ r.1.length ∧ r.1.length ≤ 8 ∧ GoodL many.toNat r.1) ∧ BoxOk r.2 (n + 2000) := by
  unfold m_l_sentence
  refine y_bind (next_ok hs (by omega) (by decide)) fun t12 h12 => y_eq (small62_s (by omega) (by omega)) ?_
  refine y_bind (Q := fun (p : List PyData × (List Int × Int)) => (1 ≤ p.1.length ∧ p.1.length ≤ 8 ∧ GoodL many.toNat p.1) ∧ BoxOk p.2 (n + 2000)) ?_ fun p hp => y_some hp
  refine (y_foldI _ (fun i (p : List PyData × (List Int × Int)) => (p.1.length = i ∧ GoodL many.toNat p.1) ∧ BoxOk p.2 (n + 1 + 200 * i)) ⟨⟨rfl, fun sys _ i x hx => by simp at hx⟩, by simpa using h12.2⟩ ?_).mono fun p hp => ?_
  · rintro i x ⟨l, st⟩ hx ⟨⟨g1, g2⟩, g3⟩
    obtain ⟨e1, e2⟩ := rng_at hx
    have e1 : x = (i : Int) := by omega
    subst e1
    dsimp only at g1 g2 g3
    refine y_bind (line_ok (k := (i : Int)) g3 (by omega) hm hm2 (by omega)) fun t36 h36 => y_eq (room_s (by show l.length ≤ _; omega)) (y_some ⟨⟨?_, good_app g2 (by rw [g1]; exact h36.1)⟩, h36.2.le (by omega)⟩)
    show (l ++ [_]).length = _
    rw [List.length_append, List.length_singleton, g1]
  · obtain ⟨⟨g1, g2⟩, g3⟩ := hp
    rw [rng_len] at g1 g3
    exact ⟨⟨by omega, by omega, g2⟩, g3.le (by omega)⟩
end L3

namespace L3
open PySem L2
/-! ### bad lines -/
def BadX (n : Nat) (k : Int) (x : PyData) : Prop := ∀ sys : SY, sys.length = n → m_fine_line sys k x = some false
def BadL (n : Nat) (k : Int) (l : List PyData) : Prop := ∀ x ∈ l, BadX n k x
theorem b_nil {n : Nat} {k : Int} : BadL n k [] := fun x hx => by simp at hx
theorem b_cons {n : Nat} {k : Int} {x : PyData} {l : List PyData} (h : BadX n k x) (h2 : BadL n k l) : BadL n k (x :: l) := fun y hy => by
  rcases List.mem_cons.mp hy with rfl | hy
  · exact h
  · exact h2 y hy
def BL (n : Nat) (k : Int) (m : Nat) (l : List PyData) : Prop := 1 ≤ l.length ∧ l.length ≤ m ∧ BadL n k l
theorem cat_bad {n : Nat} {k : Int} {m : Nat} {l1 l2 : List PyData} (h1 : BL n k m l1) (h2 : BL n k 10 l2) (hm : m ≤ 900) : Yes (catT l1 l2) (BL n k (m + 10)) := by
  obtain ⟨a1, a2, a3⟩ := h1
  obtain ⟨b1, b2, b3⟩ := h2
  refine ⟨_, catT_s (by omega), by rw [List.length_append]; omega, by rw [List.length_append]; omega, fun x hx => ?_⟩
  rcases List.mem_append.mp hx with hx | hx
  · exact a3 x hx
  · exact b3 x hx
variable {n : Nat} {k : Int}
theorem bx_word {w : Str} {rest : List PyData} (h : lookI tb_MEMBERS w = none) : BadX n k (.tuple (.str w :: rest)) := fun sys _ => fl_shape (by rw [h])
theorem bx_len {w : Str} {rest : List PyData} {m : Int} (h : lookI tb_MEMBERS w = some m) (h2 : ¬ (((PyData.str w :: rest).length : Int) = m)) : BadX n k (.tuple (.str w :: rest)) := fun sys _ => fl_shape (by rw [h]; simp only [decide_eq_false h2, Bool.not_false])
theorem bx_in1 {a : Int} (h : ¬ (0 ≤ a ∧ a < (n : Int))) : BadX n k (.tuple [.str (Str.ofString "in"), .tuple [.int a]]) := fun sys hs => by
  refine (fl_in (xs := [a]) (by simp)).trans (congrArg some ?_)
  rw [hs]
  have := inR_false h
  simp [this]
theorem bx_in2 {a b : Int} (h : ¬ (0 ≤ a ∧ a < (n : Int) ∧ 0 ≤ b ∧ b < (n : Int) ∧ a < b)) : BadX n k (.tuple [.str (Str.ofString "in"), .tuple [.int a, .int b]]) := fun sys hs => by
  refine (fl_in (xs := [a, b]) (by simp)).trans (congrArg some ?_)
  rw [hs]
  show (inR n a && (inR n b && true) && (decide (a < b) && true)) = false
  rw [Bool.eq_false_iff]
  intro z
  simp only [Bool.and_eq_true, inR_iff, decide_eq_true_eq] at z
  omega
theorem bx_in3 {a b c : Int} (h : ¬ (0 ≤ a ∧ a < (n : Int) ∧ 0 ≤ b ∧ b < (n : Int) ∧ a < b ∧ b < c)) : BadX n k (.tuple [.str (Str.ofString "in"), .tuple [.int a, .int b, .int c]]) := fun sys hs => by
  refine (fl_in (xs := [a, b, c]) (by simp)).trans (congrArg some ?_)
  rw [hs]
  show (inR n a && (inR n b && (inR n c && true)) && (decide (a < b) && (decide (b < c) && true))) = false
  rw [Bool.eq_false_iff]
  intro z
  simp only [Bool.and_eq_true, inR_iff, decide_eq_true_eq] at z
  omega
theorem bx_not {a : Int} (h : ¬ (0 ≤ a ∧ a < k)) : BadX n k (.tuple [.str (Str.ofString "not"), .int a]) := fun sys _ => fl_not.trans (congrArg some (inR_false h))
theorem and2 {k a b : Int} (h : ¬ (0 ≤ a ∧ a < k ∧ 0 ≤ b ∧ b < k)) : (inR k a && inR k b) = false := by
  rw [Bool.eq_false_iff]
  intro z
  simp only [Bool.and_eq_true, inR_iff] at z
  omega
theorem bx_and {a b : Int} (h : ¬ (0 ≤ a ∧ a < k ∧ 0 ≤ b ∧ b < k)) : BadX n k (.tuple [.str (Str.ofString "and"), .int a, .int b]) := fun sys _ => fl_and.trans (congrArg some (and2 h))
theorem bx_next {p q a : Int} {u v : PyData} {c : Bool} (hc : m_is_chance (p, q) = some c) (h : c = true → ¬ (0 ≤ a ∧ a < k)) : BadX n k (.tuple [.str (Str.ofString "next"), u, v, .tuple [.int p, .int q], .int a]) := fun sys _ => (fl_next hc).trans (congrArg some (by
  cases c with
  | false => rfl
  | true => exact inR_false (h rfl)))
theorem bx_until {p q a b : Int} {u v : PyData} {c : Bool} (hc : m_is_chance (p, q) = some c) (h : c = true → ¬ (0 ≤ a ∧ a < k ∧ 0 ≤ b ∧ b < k)) : BadX n k (.tuple [.str (Str.ofString "until"), u, v, .tuple [.int p, .int q], .int a, .int b]) := fun sys _ => (fl_until hc).trans (congrArg some (by
  cases c with
  | false => rfl
  | true => exact and2 (h rfl)))
theorem bx_within {p q a b s : Int} {u v : PyData} {c : Bool} (hc : m_is_chance (p, q) = some c) (h : c = true → ¬ (0 ≤ s ∧ s < 31 ∧ 0 ≤ a ∧ a < k ∧ 0 ≤ b ∧ b < k)) : BadX n k (.tuple [.str (Str.ofString "within"), u, v, .tuple [.int p, .int q], .int a, .int b, .int s]) := fun sys _ => (fl_within hc).trans (congrArg some (by
  cases c with
  | false => rfl
  | true =>
    have h := h rfl
    rw [Bool.eq_false_iff]
    intro z
    simp only [Bool.and_eq_true, inR_iff, Bool.true_and] at z
    omega))
theorem repA_one {x : PyData} {k : Int} (h1 : 2 ≤ k) (h2 : k ≤ 1000) : repA [x] k = some (List.replicate k.toNat x) := by
  unfold repA
  rw [if_pos ⟨h1, h2, by simp⟩]
  simp
theorem law_true (ns : List Int) (h : ns.length ≤ 63) : m_law ns = some true := by
  suffices hy : Yes (m_law ns) (· = true) by
    obtain ⟨c, h1, rfl⟩ := hy; exact h1
  unfold m_law
  refine y_bind (box_ok h) fun t10 h10 => y_bind (next_ok h10 (by decide) (by decide)) fun t14 h14 => ?_
  obtain ⟨⟨r1, r2⟩, h14⟩ := h14
  refine y_bind (system_ok h14 (by decide) (by omega) (by omega)) fun t19 h19 => ?_
  obtain ⟨l19, h19⟩ := h19
  refine y_bind (sentence_ok h19 (by omega) (by omega) (by omega)) fun t24 h24 => ?_
  obtain ⟨⟨l24, m24, g24⟩, h24⟩ := h24
  have hs : t19.1.length = (1 + t14.1).toNat := by omega
  refine y_eq (valid_true hs l24 (by omega) g24) ?_
  refine y_eq (a := false) ((if_neg (by decide)).trans (bnd valid_nil rfl)) (y_n rfl ?_)
  obtain ⟨n, hn⟩ : ∃ n, n = (1 + t14.1).toNat := ⟨_, rfl⟩
  refine y_bind (cat_bad (n := n) (k := (t24.1.length : Int)) (m := 10) ⟨by simp, by simp, b_cons (bx_in1 (by (try dsimp only); omega)) (b_cons (bx_in1 (by (try dsimp only); omega)) (b_cons (bx_in2 (by (try dsimp only); omega)) (b_cons (bx_len lk_in (by simp)) (b_cons (bx_len lk_in (by simp)) (b_cons (bx_not (by (try dsimp only); omega)) (b_cons (bx_not (by (try dsimp only); omega)) (b_nil)))))))⟩ ⟨by simp, by simp, b_cons (bx_and (by (try dsimp only); omega)) (b_cons (bx_len lk_and (by simp)) (b_cons (bx_len lk_not (by simp)) (b_cons (bx_word lk_or) (b_cons (bx_next (c := true) rfl (fun _ => by (try dsimp only); omega)) (b_cons (bx_len lk_until (by simp)) (b_nil))))))⟩ (by decide)) fun t48 h48 => ?_
  refine y_bind (cat_bad (n := n) (k := (t24.1.length : Int)) (m := 20) h48 ⟨by simp, by simp, b_cons (bx_next (c := false) rfl (fun z => absurd z (by decide))) (b_cons (bx_next (c := false) rfl (fun z => absurd z (by decide))) (b_cons (bx_next (c := false) rfl (fun z => absurd z (by decide))) (b_nil)))⟩ (by decide)) fun t53 h53 => ?_
  refine y_bind (cat_bad (n := n) (k := (t24.1.length : Int)) (m := 30) h53 ⟨by simp, by simp, b_cons (bx_len lk_next (by simp)) (b_cons (bx_len lk_until (by simp)) (b_cons (bx_until (c := true) rfl (fun _ => by (try dsimp only); omega)) (b_nil)))⟩ (by decide)) fun t58 h58 => ?_
  refine y_bind (cat_bad (n := n) (k := (t24.1.length : Int)) (m := 40) h58 ⟨by simp, by simp, b_cons (bx_until (c := false) rfl (fun z => absurd z (by decide))) (b_cons (bx_within (c := true) rfl (fun _ => by (try dsimp only); omega)) (b_cons (bx_word lk_mt) (b_cons (bx_word lk_chance) (b_nil))))⟩ (by decide)) fun t63 h63 => ?_
  refine y_bind (cat_bad (n := n) (k := (t24.1.length : Int)) (m := 50) h63 ⟨by simp, by simp, b_cons (bx_within (c := true) rfl (fun _ => by (try dsimp only); omega)) (b_cons (bx_len lk_within (by simp)) (b_cons (bx_until (c := false) rfl (fun z => absurd z (by decide))) (b_nil)))⟩ (by decide)) fun t68 h68 => ?_
  refine y_bind (cat_bad (n := n) (k := (t24.1.length : Int)) (m := 60) h68 ⟨by simp, by simp, b_cons (bx_within (c := true) rfl (fun _ => by (try dsimp only); omega)) (b_cons (bx_within (c := false) rfl (fun z => absurd z (by decide))) (b_cons (bx_within (c := false) rfl (fun z => absurd z (by decide))) (b_nil)))⟩ (by decide)) fun t73 h73 => ?_
  refine y_bind (cat_bad (n := n) (k := (t24.1.length : Int)) (m := 70) h73 ⟨by simp, by simp, b_cons (bx_and (by (try dsimp only); omega)) (b_cons (bx_and (by (try dsimp only); omega)) (b_cons (bx_and (by (try dsimp only); omega)) (b_cons (bx_until (c := true) rfl (fun _ => by (try dsimp only); omega)) (b_nil))))⟩ (by decide)) fun t81 h81 => ?_
  refine y_bind (cat_bad (n := n) (k := (t24.1.length : Int)) (m := 80) h81 ⟨by simp, by simp, b_cons (bx_until (c := true) rfl (fun _ => by (try dsimp only); omega)) (b_cons (bx_until (c := true) rfl (fun _ => by (try dsimp only); omega)) (b_cons (bx_next (c := true) rfl (fun _ => by (try dsimp only); omega)) (b_nil)))⟩ (by decide)) fun t86 h86 => ?_
  refine y_bind (cat_bad (n := n) (k := (t24.1.length : Int)) (m := 90) h86 ⟨by simp, by simp, b_cons (bx_within (c := true) rfl (fun _ => by (try dsimp only); omega)) (b_cons (bx_within (c := true) rfl (fun _ => by (try dsimp only); omega)) (b_cons (bx_in2 (by (try dsimp only); omega)) (b_nil)))⟩ (by decide)) fun t91 h91 => ?_
  refine y_bind (Q := BL n t24.1.length 110) (y_if (fun c => ?_) fun c => y_some ⟨h91.1, Nat.le_trans h91.2.1 (by decide), h91.2.2⟩) fun s97 h97 => ?_
  · have c := of_decide_eq_true c
    exact y_bind (cat_bad h91 ⟨by simp, by simp, b_cons (bx_in2 (by (try dsimp only); omega)) (b_cons (bx_in2 (by (try dsimp only); omega)) (b_cons (bx_in3 (by (try dsimp only); omega)) (b_nil)))⟩ (by decide)) fun t h => y_some h
  obtain ⟨i1, i2, i3⟩ := h97
  refine y_bind (next_ok h24 (by omega) (by omega)) fun t110 h110 => ?_
  refine y_bind (ixL_lit (P := BadX n t24.1.length) h110.1.1 h110.1.2 i3) fun t112 h112 => ?_
  rw [← hn] at hs g24
  refine y_eq (catT_s (by simp; omega)) (y_eq (valid_false (r := []) hs (by simp; omega) g24 (h112 _ hs)) ?_)
  refine y_eq (a := false) ((if_neg (by decide)).trans (bnd (catT_s (by simp; omega)) (bnd (valid_false hs (by simp; omega) g24 (h112 _ hs)) rfl))) (y_n rfl ?_)
  refine y_bind (next_ok h110.2 (by omega) (by decide)) fun t131 h131 => ?_
  obtain ⟨⟨q1, q2⟩, _⟩ := h131
  refine y_eq (repA_one (by omega) (by omega)) (y_eq (a := decide ((39 : Int) + t131.1 ≤ 40)) ?_ (y_some (decide_eq_true rfl)))
  by_cases c : (39 : Int) + t131.1 ≤ 40
  · rw [decide_eq_true c]
    refine valid_true hs (by rw [List.length_replicate]; omega) (by rw [List.length_replicate]; omega) fun sys h2 i x hx => ?_
    have := List.mem_of_getElem? hx
    rw [(List.mem_replicate.mp this).2]
    refine fl_in_ok (xs := [0]) (by simp) (fun z hz => ?_) (List.pairwise_singleton _ _)
    rw [List.mem_singleton.mp hz]
    omega
  · rw [decide_eq_false c]
    exact valid_long (by rw [List.length_replicate]; omega)
end L3

namespace L3
open PySem PySem.Spec PyProof.Rows L2
/-! ### the end -/
namespace End
def d_ratio : He.DefD := ⟨("ratio", none), "ratio", "ratio", defArgs s_ratio, defBody s_ratio, defScope s_ratio, [], []⟩
def d_is_less : He.DefD := ⟨("is_less", none), "is_less", "is_less", defArgs s_is_less, defBody s_is_less, defScope s_is_less, [], []⟩
def d_parts_of : He.DefD := ⟨("parts_of", none), "parts_of", "parts_of", defArgs s_parts_of, defBody s_parts_of, defScope s_parts_of, [], []⟩
def d__law_draws : He.DefD := ⟨("_law_draws", none), "_law_draws", "_law_draws", defArgs s__law_draws, defBody s__law_draws, defScope s__law_draws, [], []⟩
def d__law_next : He.DefD := ⟨("_law_next", none), "_law_next", "_law_next", defArgs s__law_next, defBody s__law_next, defScope s__law_next, [], []⟩
def d_is_chance : He.DefD := ⟨("is_chance", none), "is_chance", "is_chance", defArgs s_is_chance, defBody s_is_chance, defScope s_is_chance, [], []⟩
def d__law_box : He.DefD := ⟨("_law_box", none), "_law_box", "_law_box", defArgs s__law_box, defBody s__law_box, defScope s__law_box, [], []⟩
def d__law_ends : He.DefD := ⟨("_law_ends", none), "_law_ends", "_law_ends", defArgs s__law_ends, defBody s__law_ends, defScope s__law_ends, [], []⟩
def d__law_chance : He.DefD := ⟨("_law_chance", none), "_law_chance", "_law_chance", defArgs s__law_chance, defBody s__law_chance, defScope s__law_chance, [], []⟩
def d_fine_line : He.DefD := ⟨("fine_line", none), "fine_line", "fine_line", defArgs s_fine_line, defBody s_fine_line, defScope s_fine_line, [], []⟩
def d__law_system : He.DefD := ⟨("_law_system", none), "_law_system", "_law_system", defArgs s__law_system, defBody s__law_system, defScope s__law_system, [], []⟩
def d__law_line : He.DefD := ⟨("_law_line", none), "_law_line", "_law_line", defArgs s__law_line, defBody s__law_line, defScope s__law_line, [], []⟩
def d__law_sentence : He.DefD := ⟨("_law_sentence", none), "_law_sentence", "_law_sentence", defArgs s__law_sentence, defBody s__law_sentence, defScope s__law_sentence, [], []⟩
def d_is_valid : He.DefD := ⟨("is_valid", none), "is_valid", "is_valid", defArgs s_is_valid, defBody s_is_valid, defScope s_is_valid, [], []⟩
def d_law : He.DefD := ⟨("law", none), "law", "law", defArgs s_law, defBody s_law, defScope s_law, [], []⟩
def fn : List He.DefD := [d_ratio, d_is_less, d_parts_of, d__law_draws, d__law_next, d_is_chance, d__law_box, d__law_ends, d__law_chance, d_fine_line, d__law_system, d__law_line, d__law_sentence, d_is_valid, d_law]
def fa : List He.Fa := [.glo "ratio", .glo "is_less", .glo "parts_of", .glo "_law_draws", .glo "_law_next", .glo "is_chance", .glo "_law_box", .glo "_law_ends", .glo "_law_chance", .glo "fine_line", .glo "_law_system", .glo "_law_line", .glo "_law_sentence", .glo "is_valid", .glo "law", .free "range", .free "int", .free "len", .free "tuple", .free "all", .free "enumerate", .int "MOST_STEPS" 30, .int "MOST_LINES" 40]
def tf : List He.Defn := [("fine_line", none), ("is_valid", none)]
def ts : List He.Tab := [(fun K => He.ga K "MEMBERS", ["in", "not", "and", "next", "until", "within"])]
def ex : PySem.W.Frag → Bool := fun K => true && He.eqO (PySem.W.nsIn K mainGlobals "gcd") (some (some (.builtin "math.gcd"))) && tabG K "MEMBERS" tb_MEMBERS && pairG K "ZERO" 0 1 && pairG K "ONE" 1 1
def loose0 : List PySem.Str := ["ZERO", "ONE", "ratio", "is_less", "MOST_LINES", "MOST_STEPS", "MEMBERS", "is_chance", "parts_of", "fine_line", "is_valid", "_law_draws", "_law_box", "_law_next", "_law_gcd", "_law_ratio", "_law_plus", "_law_minus", "_law_times", "_law_less", "_law_mean", "_law_ends", "_law_system", "_law_states", "_law_chance", "_law_line", "_law_sentence"]
abbrev loose : List PySem.Str := loose0
abbrev R : PySem.W.OpenRow := PySem.W.OpenLaw.row PySem.Challenge.rw_bestodds_k34_valid_sentences
abbrev hk : PySem.W.Hook := He.hookX 6 fa fn ts tf ex
def ob (s : PySem.W.SharedT) : He.AlX := He.obsX 6 fa fn ts tf ex (HandSHeadRun.getT s)
theorem ob_eq (s : PySem.W.SharedT) : ob s = hk.obs s.abs := He.obsX_eq (HandSHeadRun.getT_eq s)
def setF (w : World) (b : Bool) : World := { w with params := { w.params with followText := fun s => if s = "special-get-raises" then b else w.params.followText s } }
theorem setF_eq (w : World) : setF w (w.params.followText "special-get-raises") = w := by
  have e : (fun s => if s = "special-get-raises" then w.params.followText "special-get-raises" else w.params.followText s) = w.params.followText := by
    funext s
    by_cases h : s = "special-get-raises"
    · rw [if_pos h, h]
    · rw [if_neg h]
  unfold setF
  rw [e]
theorem run1 (w : World) : HandSHeadRun.RunEqI R (PySem.W.view R.prog [0, 31]) hk ob 4000 loose (setF w true) := by
  unfold HandSHeadRun.RunEqI
  kernel_rfl
theorem run2 (w : World) : HandSHeadRun.RunEqI R (PySem.W.view R.prog [0, 31]) hk ob 4000 loose (setF w false) := by
  unfold HandSHeadRun.RunEqI
  kernel_rfl
theorem run (w : World) : HandSHeadRun.RunEqI R (PySem.W.view R.prog [0, 31]) hk ob 4000 loose w := by
  have k : ∀ b, HandSHeadRun.RunEqI R (PySem.W.view R.prog [0, 31]) hk ob 4000 loose (setF w b) := fun b => by
    cases b
    · exact run2 w
    · exact run1 w
  have k2 := k (w.params.followText "special-get-raises")
  rwa [setF_eq] at k2
theorem facts {w : World} {K : PySem.W.Frag} {h : Heap} {mg : Str → Option Value} {f : Addr} (X : K.In h) (G : h.Ns mainGlobals mg) (hfa : mg ("law" : Str) = some (.ref f)) (c : He.SaysX fa fn ts tf ex w h K) (hm : ∀ ns : List Int, ns.length ≤ 63 → m_law ns = some true) :
    LamX.LawAtS PySem.Challenge.rw_bestodds_k34_valid_sentences w K CX0 6 63 "_law_script" mg f h := by
  obtain ⟨fd0, D0⟩ := c.t.d.def_ 0 (d := d_ratio) rfl
  have F0 : FunC K "ratio" s_ratio (He.fAd K ("ratio", none)) fd0 (He.codeOf K ("ratio", none)) := funC_of D0
  have n0 : mg "ratio" = some (.ref (He.fAd K ("ratio", none))) := He.glo_ok X G (c.t.d.fact 0 (f := .glo "ratio") rfl)
  obtain ⟨fd1, D1⟩ := c.t.d.def_ 1 (d := d_is_less) rfl
  have F1 : FunC K "is_less" s_is_less (He.fAd K ("is_less", none)) fd1 (He.codeOf K ("is_less", none)) := funC_of D1
  have n1 : mg "is_less" = some (.ref (He.fAd K ("is_less", none))) := He.glo_ok X G (c.t.d.fact 1 (f := .glo "is_less") rfl)
  obtain ⟨fd2, D2⟩ := c.t.d.def_ 2 (d := d_parts_of) rfl
  have F2 : FunC K "parts_of" s_parts_of (He.fAd K ("parts_of", none)) fd2 (He.codeOf K ("parts_of", none)) := funC_of D2
  have n2 : mg "parts_of" = some (.ref (He.fAd K ("parts_of", none))) := He.glo_ok X G (c.t.d.fact 2 (f := .glo "parts_of") rfl)
  obtain ⟨fd3, D3⟩ := c.t.d.def_ 3 (d := d__law_draws) rfl
  have F3 : FunC K "_law_draws" s__law_draws (He.fAd K ("_law_draws", none)) fd3 (He.codeOf K ("_law_draws", none)) := funC_of D3
  have n3 : mg "_law_draws" = some (.ref (He.fAd K ("_law_draws", none))) := He.glo_ok X G (c.t.d.fact 3 (f := .glo "_law_draws") rfl)
  obtain ⟨fd4, D4⟩ := c.t.d.def_ 4 (d := d__law_next) rfl
  have F4 : FunC K "_law_next" s__law_next (He.fAd K ("_law_next", none)) fd4 (He.codeOf K ("_law_next", none)) := funC_of D4
  have n4 : mg "_law_next" = some (.ref (He.fAd K ("_law_next", none))) := He.glo_ok X G (c.t.d.fact 4 (f := .glo "_law_next") rfl)
  obtain ⟨fd5, D5⟩ := c.t.d.def_ 5 (d := d_is_chance) rfl
  have F5 : FunC K "is_chance" s_is_chance (He.fAd K ("is_chance", none)) fd5 (He.codeOf K ("is_chance", none)) := funC_of D5
  have n5 : mg "is_chance" = some (.ref (He.fAd K ("is_chance", none))) := He.glo_ok X G (c.t.d.fact 5 (f := .glo "is_chance") rfl)
  obtain ⟨fd6, D6⟩ := c.t.d.def_ 6 (d := d__law_box) rfl
  have F6 : FunC K "_law_box" s__law_box (He.fAd K ("_law_box", none)) fd6 (He.codeOf K ("_law_box", none)) := funC_of D6
  have n6 : mg "_law_box" = some (.ref (He.fAd K ("_law_box", none))) := He.glo_ok X G (c.t.d.fact 6 (f := .glo "_law_box") rfl)
  obtain ⟨fd7, D7⟩ := c.t.d.def_ 7 (d := d__law_ends) rfl
  have F7 : FunC K "_law_ends" s__law_ends (He.fAd K ("_law_ends", none)) fd7 (He.codeOf K ("_law_ends", none)) := funC_of D7
  have n7 : mg "_law_ends" = some (.ref (He.fAd K ("_law_ends", none))) := He.glo_ok X G (c.t.d.fact 7 (f := .glo "_law_ends") rfl)
  obtain ⟨fd8, D8⟩ := c.t.d.def_ 8 (d := d__law_chance) rfl
  have F8 : FunC K "_law_chance" s__law_chance (He.fAd K ("_law_chance", none)) fd8 (He.codeOf K ("_law_chance", none)) := funC_of D8
  have n8 : mg "_law_chance" = some (.ref (He.fAd K ("_law_chance", none))) := He.glo_ok X G (c.t.d.fact 8 (f := .glo "_law_chance") rfl)
  obtain ⟨fd9, D9⟩ := c.t.d.def_ 9 (d := d_fine_line) rfl
  have F9 : FunC K "fine_line" s_fine_line (He.fAd K ("fine_line", none)) fd9 (He.codeOf K ("fine_line", none)) := funC_of D9
  have n9 : mg "fine_line" = some (.ref (He.fAd K ("fine_line", none))) := He.glo_ok X G (c.t.d.fact 9 (f := .glo "fine_line") rfl)
  obtain ⟨fd10, D10⟩ := c.t.d.def_ 10 (d := d__law_system) rfl
  have F10 : FunC K "_law_system" s__law_system (He.fAd K ("_law_system", none)) fd10 (He.codeOf K ("_law_system", none)) := funC_of D10
  have n10 : mg "_law_system" = some (.ref (He.fAd K ("_law_system", none))) := He.glo_ok X G (c.t.d.fact 10 (f := .glo "_law_system") rfl)
  obtain ⟨fd11, D11⟩ := c.t.d.def_ 11 (d := d__law_line) rfl
  have F11 : FunC K "_law_line" s__law_line (He.fAd K ("_law_line", none)) fd11 (He.codeOf K ("_law_line", none)) := funC_of D11
  have n11 : mg "_law_line" = some (.ref (He.fAd K ("_law_line", none))) := He.glo_ok X G (c.t.d.fact 11 (f := .glo "_law_line") rfl)
  obtain ⟨fd12, D12⟩ := c.t.d.def_ 12 (d := d__law_sentence) rfl
  have F12 : FunC K "_law_sentence" s__law_sentence (He.fAd K ("_law_sentence", none)) fd12 (He.codeOf K ("_law_sentence", none)) := funC_of D12
  have n12 : mg "_law_sentence" = some (.ref (He.fAd K ("_law_sentence", none))) := He.glo_ok X G (c.t.d.fact 12 (f := .glo "_law_sentence") rfl)
  obtain ⟨fd13, D13⟩ := c.t.d.def_ 13 (d := d_is_valid) rfl
  have F13 : FunC K "is_valid" s_is_valid (He.fAd K ("is_valid", none)) fd13 (He.codeOf K ("is_valid", none)) := funC_of D13
  have n13 : mg "is_valid" = some (.ref (He.fAd K ("is_valid", none))) := He.glo_ok X G (c.t.d.fact 13 (f := .glo "is_valid") rfl)
  obtain ⟨fd14, D14⟩ := c.t.d.def_ 14 (d := d_law) rfl
  have F14 : FunC K "law" s_law (He.fAd K ("law", none)) fd14 (He.codeOf K ("law", none)) := funC_of D14
  have n14 : mg "law" = some (.ref (He.fAd K ("law", none))) := He.glo_ok X G (c.t.d.fact 14 (f := .glo "law") rfl)
  have y_gcd : mg "gcd" = some (.builtin "math.gcd") := PySem.W.mg_of X G (He.eqO_ok (He.ba (He.ba (He.ba (He.ba c.more).1).1).1).2)
  have y_range : mg "range" = none := He.free_ok X G (c.t.d.fact 15 (f := .free "range") rfl)
  have y_int : mg "int" = none := He.free_ok X G (c.t.d.fact 16 (f := .free "int") rfl)
  have y_len : mg "len" = none := He.free_ok X G (c.t.d.fact 17 (f := .free "len") rfl)
  have y_tuple : mg "tuple" = none := He.free_ok X G (c.t.d.fact 18 (f := .free "tuple") rfl)
  have y_all : mg "all" = none := He.free_ok X G (c.t.d.fact 19 (f := .free "all") rfl)
  have y_enumerate : mg "enumerate" = none := He.free_ok X G (c.t.d.fact 20 (f := .free "enumerate") rfl)
  have v_ZERO : GV K mg "ZERO" (rT2 rInt rInt) ((0 : Int), (1 : Int)) := pairG_ok X G (He.ba (He.ba c.more).1).2
  have v_ONE : GV K mg "ONE" (rT2 rInt rInt) ((1 : Int), (1 : Int)) := pairG_ok X G (He.ba c.more).2
  have v_MEMBERS : GD K w mg "MEMBERS" tb_MEMBERS := tabG_ok X G (He.ba (He.ba (He.ba c.more).1).1).2 (c.t.tab 0 rfl)
  have v_MOST_STEPS : GV K mg "MOST_STEPS" rInt (30 : Int) := by
    obtain ⟨t, ht⟩ := He.int_ok X G (c.t.d.fact 21 (f := .int "MOST_STEPS" 30) rfl)
    exact ⟨.int 30 t, .int 30, ht, ⟨t, rfl⟩, fun _ => rfl⟩
  have v_MOST_LINES : GV K mg "MOST_LINES" rInt (40 : Int) := by
    obtain ⟨t, ht⟩ := He.int_ok X G (c.t.d.fact 22 (f := .int "MOST_LINES" 40) rfl)
    exact ⟨.int 40 t, .int 40, ht, ⟨t, rfl⟩, fun _ => rfl⟩
  have e := hfa.symm.trans n14
  cases e
  have mem : ∀ p ∈ tf.map (He.cT K), ∃ q ∈ tf, He.cT K q = p := fun p hp => List.mem_map.mp hp
  refine ⟨fd14, tf.map (He.cT K), spV K ((tf.map (He.cT K)).map (·.2)) C_law, fun p hp => ?_, fun p hp => ?_, fun p hp => ?_, fun s v => ?_, fun H a ns hl _ hH hS => ?_, fun base KB GB hTB => ?_⟩
  · obtain ⟨q, hq, rfl⟩ := mem p hp; exact c.empty q hq
  · obtain ⟨q, hq, rfl⟩ := mem p hp; exact c.out q hq
  · obtain ⟨q, hq, rfl⟩ := mem p hp; exact PySem.W.codeHd_of_K X (c.hd q hq)
  · exact F14.bindsA (ps := ["_law_script"]) (fun _ _ _ _ _ _ us hl => match us, hl with | [_], _ => rfl) s [v] rfl
  · have hT : ∀ P ∈ (tf.map (He.cT K)).map (·.2), GxR.TabG H P := fun P hP => by
      obtain ⟨p, hp, rfl⟩ := List.mem_map.mp hP
      exact ⟨#[], hH p hp, trivial⟩
    exact ⟨noT H _, ⟨fun _ => none, _⟩, [], [⟨rScr rInt, ns⟩], ⟨rBool, true⟩, [], rfl, Own.start K H _ hT, ⟨⟨a, _, rfl, sq_noT hT hS, paired_ints ns⟩, trivial⟩, ⟨ns, true, rfl, rfl, hm ns hl, rfl, rfl⟩, fun v _ _ _ _ h => h⟩
  · have tbs : ∀ q ∈ tf, ∃ P0, GxR.TabB base mg (He.codeOf K q) P0 ∧ P0 ∈ (tf.map (He.cT K)).map (·.2) := fun q hq => by
      have t := hTB (He.cT K q) (List.mem_map.mpr ⟨q, hq, rfl⟩)
      exact ⟨(He.cT K q).2, ⟨t.code, t.bm, t.gP⟩, List.mem_map.mpr ⟨_, List.mem_map.mpr ⟨q, hq, rfl⟩, rfl⟩⟩
    have b0 := F0.binds (ps := ["n", "d"]) fun _ _ _ _ _ _ us hl => match us, hl with | [_, _], _ => rfl
    have C_0 : Cl PySem.Challenge.rw_bestodds_k34_valid_sentences.prog w K mg base 1 "ratio" (spV K ((tf.map (He.cT K)).map (·.2)) C_ratio) [] := ⟨_, _, ["n", "d"], [], ok_ratio F0 y_gcd, n0, F0.kp, b0, .nil⟩
    have b1 := F1.binds (ps := ["a", "b"]) fun _ _ _ _ _ _ us hl => match us, hl with | [_, _], _ => rfl
    have C_1 : Cl PySem.Challenge.rw_bestodds_k34_valid_sentences.prog w K mg base 1 "is_less" (spV K ((tf.map (He.cT K)).map (·.2)) C_is_less) [] := ⟨_, _, ["a", "b"], [], ok_is_less F1 , n1, F1.kp, b1, .nil⟩
    have b2 := F2.binds (ps := ["line"]) fun _ _ _ _ _ _ us hl => match us, hl with | [_], _ => rfl
    have C_2 : Cl PySem.Challenge.rw_bestodds_k34_valid_sentences.prog w K mg base 1 "parts_of" (spV K ((tf.map (He.cT K)).map (·.2)) C_parts_of) [] := ⟨_, _, ["line"], [], ok_parts_of F2 , n2, F2.kp, b2, .nil⟩
    have b3 := F3.binds (ps := ["_law_cell", "_law_modulus", "_law_count"]) fun _ _ _ _ _ _ us hl => match us, hl with | [_, _, _], _ => rfl
    have C_3 : Cl PySem.Challenge.rw_bestodds_k34_valid_sentences.prog w K mg base 1 "_law_draws" (spV K ((tf.map (He.cT K)).map (·.2)) C__law_draws) [] := ⟨_, _, ["_law_cell", "_law_modulus", "_law_count"], [], ok__law_draws F3 y_range y_int, n3, F3.kp, b3, .nil⟩
    have b4 := F4.binds (ps := ["_law_box_here", "_law_modulus"]) fun _ _ _ _ _ _ us hl => match us, hl with | [_, _], _ => rfl
    have C_4 : Cl PySem.Challenge.rw_bestodds_k34_valid_sentences.prog w K mg base 1 "_law_next" (spV K ((tf.map (He.cT K)).map (·.2)) C__law_next) [] := ⟨_, _, ["_law_box_here", "_law_modulus"], [], ok__law_next F4 y_len y_int, n4, F4.kp, b4, .nil⟩
    have b5 := F5.binds (ps := ["x"]) fun _ _ _ _ _ _ us hl => match us, hl with | [_], _ => rfl
    have C_5 : Cl PySem.Challenge.rw_bestodds_k34_valid_sentences.prog w K mg base 2 "is_chance" (spV K ((tf.map (He.cT K)).map (·.2)) C_is_chance) [] := ⟨_, _, ["x"], [], ok_is_chance F5 C_0 C_1 v_ZERO v_ONE y_len, n5, F5.kp, b5, .nil⟩
    have b6 := F6.binds (ps := ["_law_script"]) fun _ _ _ _ _ _ us hl => match us, hl with | [_], _ => rfl
    have C_6 : Cl PySem.Challenge.rw_bestodds_k34_valid_sentences.prog w K mg base 2 "_law_box" (spC K ((tf.map (He.cT K)).map (·.2)) cBox C__law_box) [] := ⟨_, _, ["_law_script"], [], ok__law_box F6 C_3 y_len, n6, F6.kp, b6, .nil⟩
    have b7 := F7.binds (ps := ["_law_box_here", "_law_states_here"]) fun _ _ _ _ _ _ us hl => match us, hl with | [_, _], _ => rfl
    have C_7 : Cl PySem.Challenge.rw_bestodds_k34_valid_sentences.prog w K mg base 2 "_law_ends" (spV K ((tf.map (He.cT K)).map (·.2)) C__law_ends) [] := ⟨_, _, ["_law_box_here", "_law_states_here"], [], ok__law_ends F7 C_4 y_range y_len y_tuple, n7, F7.kp, b7, .nil⟩
    have b8 := F8.binds (ps := ["_law_box_here"]) fun _ _ _ _ _ _ us hl => match us, hl with | [_], _ => rfl
    have C_8 : Cl PySem.Challenge.rw_bestodds_k34_valid_sentences.prog w K mg base 2 "_law_chance" (spV K ((tf.map (He.cT K)).map (·.2)) C__law_chance) [] := ⟨_, _, ["_law_box_here"], [], ok__law_chance F8 C_4, n8, F8.kp, b8, .nil⟩
    have b9 := F9.binds (ps := ["system", "number", "line"]) fun _ _ _ _ _ _ us hl => match us, hl with | [_, _, _], _ => rfl
    have C_9 : Cl PySem.Challenge.rw_bestodds_k34_valid_sentences.prog w K mg base 3 "fine_line" (spV K ((tf.map (He.cT K)).map (·.2)) C_fine_line) [] := ⟨_, _, ["system", "number", "line"], [], ok_fine_line F9 C_5 C_2 v_MEMBERS v_MOST_STEPS y_len y_all y_range (tbs ("fine_line", none) (by unfold tf; simp)), n9, F9.kp, b9, .nil⟩
    have b10 := F10.binds (ps := ["_law_box_here", "_law_states_here", "_law_most", "_law_dear"]) fun _ _ _ _ _ _ us hl => match us, hl with | [_, _, _, _], _ => rfl
    have C_10 : Cl PySem.Challenge.rw_bestodds_k34_valid_sentences.prog w K mg base 3 "_law_system" (spV K ((tf.map (He.cT K)).map (·.2)) C__law_system) [] := ⟨_, _, ["_law_box_here", "_law_states_here", "_law_most", "_law_dear"], [], ok__law_system F10 C_4 C_7 y_range y_tuple, n10, F10.kp, b10, .nil⟩
    have b11 := F11.binds (ps := ["_law_box_here", "_law_states_here", "_law_number"]) fun _ _ _ _ _ _ us hl => match us, hl with | [_, _, _], _ => rfl
    have C_11 : Cl PySem.Challenge.rw_bestodds_k34_valid_sentences.prog w K mg base 3 "_law_line" (spV K ((tf.map (He.cT K)).map (·.2)) C__law_line) [] := ⟨_, _, ["_law_box_here", "_law_states_here", "_law_number"], [], ok__law_line F11 C_4 C_8 y_range y_tuple, n11, F11.kp, b11, .nil⟩
    have b12 := F12.binds (ps := ["_law_box_here", "_law_states_here", "_law_most"]) fun _ _ _ _ _ _ us hl => match us, hl with | [_, _, _], _ => rfl
    have C_12 : Cl PySem.Challenge.rw_bestodds_k34_valid_sentences.prog w K mg base 4 "_law_sentence" (spV K ((tf.map (He.cT K)).map (·.2)) C__law_sentence) [] := ⟨_, _, ["_law_box_here", "_law_states_here", "_law_most"], [], ok__law_sentence F12 C_4 C_11 y_range y_tuple, n12, F12.kp, b12, .nil⟩
    have b13 := F13.binds (ps := ["system", "sentence"]) fun _ _ _ _ _ _ us hl => match us, hl with | [_, _], _ => rfl
    have C_13 : Cl PySem.Challenge.rw_bestodds_k34_valid_sentences.prog w K mg base 5 "is_valid" (spV K ((tf.map (He.cT K)).map (·.2)) C_is_valid) [] := ⟨_, _, ["system", "sentence"], [], ok_is_valid F13 C_9 v_MOST_LINES y_len y_all y_enumerate (tbs ("is_valid", none) (by unfold tf; simp)), n13, F13.kp, b13, .nil⟩
    exact ok_law F14 C_6 C_4 C_10 C_12 C_13 y_len
end End
end L3
open PySem PySem.W PySem.Calls PyProof.Rows
set_option maxHeartbeats 0 in
theorem PySem.Challenge.cw_bestodds_k34_valid_sentences_holds : PySem.Challenge.rw_bestodds_k34_valid_sentences.Holds := by
  w_on; o_law
  refine HandSHeadRun.head_imp (r := OpenLaw.row PySem.Challenge.rw_bestodds_k34_valid_sentences) (q := view (OpenLaw.row PySem.Challenge.rw_bestodds_k34_valid_sentences).prog [0, 31]) (H := L3.End.hk) (ob := L3.End.ob) (M := 4000) (loose := L3.End.loose) (d := HandSHeadRun.topDef (OpenLaw.row PySem.Challenge.rw_bestodds_k34_valid_sentences).prog 31) (kwd := []) L3.End.ob_eq
    L3.End.run (by kernel_rfl) (by kernel_rfl) (by kernel_rfl) (by rfl) (by first | assumption | decide +kernel) (by decide +kernel) ⟨rfl, rfl, rfl, rfl, rfl, by decide +kernel⟩ ?hw ?hc
  case hw => w_witness2
  case hc =>
    refine LamX.walk_ofTsE (l := PySem.Challenge.rw_bestodds_k34_valid_sentences) (n := 63) (k := 6) (x := "_law_script") (CX := fun _ => L2.CX0) rfl (by decide) (by kernel_rfl) ⟨rfl, by decide, by decide⟩ ?F (fun _ _ _ _ _ z => z)
    intro w mg fa h Y G hmg0
    obtain ⟨K, KX, c⟩ := Y
    have hmg : mg ("law" : PySem.Str) = some (.ref fa) := by
      have e : (HandSHeadRun.topDef (OpenLaw.row PySem.Challenge.rw_bestodds_k34_valid_sentences).prog 31).name = ("law" : PySem.Str) := by kernel_rfl
      rw [← e]
      exact hmg0
    exact ⟨K, KX, L3.End.facts KX G hmg c L3.law_true⟩
#print axioms PySem.Challenge.cw_bestodds_k34_valid_sentences_holds

