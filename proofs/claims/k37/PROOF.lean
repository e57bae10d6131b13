import PyProof.Rows.All
import Wide.All
import OpenK.AllK
import Wide.FinOn
import HandS.ForMost
import HandS.Evl
import HandS.Gcd
import HandS.Wide
import HandS.Conv
import HandS.IsInst
import HandS.Codes
import PySem.Challenge.RW_bestodds_k37_errors
import HandS.AnyAll
import HandS.Comp
import HandS.GenOver
import HandS.GenList
import HandS.HeadHook4
import HandS.HeadWalk
import HandS.Head0
import HandS.Head1
import HandS.Head2
import KE.GoesMore
import HandS.Iter
import HandS.TupAny
import HandS.TupMul
import HandS.Style
import HandS.ListItems
import HandS.SortRule
import HandS.CallLocal
import HandS.SortInts
import HandS.NoneIn
import HandS.HeadHook3
import HandS.DictComp
import HandS.Nested
import HandS.DictEq
import HandS.More
import HandS.Strs
import HandS.SetFor
import KE.SortCalls
import HandS.Deep
import KE.KDictKeyed
import KE.KDictSum
import HandS.TupLen
import HandS.WordsDict
import HandS.Exc
import HandS.ExcOwn
import HandS.ExcIs
import HandS.Small
import HandS.TryMany
import HandS.Text
import HandS.FStr
import HandS.StrMore
import KE.IntTextLaws
import PyProof.StrBlock2
import HandS.ExcSuper
import HandS.ExcInit
import HandS.ExcField
import HandS.FStrTup
import HandS.ClsMeth
import KE.KExcSuper
import HandS.ExcValue
import KE.KExcIs
import HandS.Head3
import HandS.HeadEnd
import HandS.HeadHook1
import HandS.HeadHook2
set_option Elab.async false
set_option linter.all false
set_option maxRecDepth 100000
set_option maxHeartbeats 4000000
namespace L3
open PySem L2
open Evl (Ex ex_rd ex_l ex_t sq_of st_of fresh_back)

abbrev Fg := PySem.W.Frag

/-! ### how data stands in the heap -/
structure Rep (α : Type) where
  is : Fg → Hp → V → α → Prop
  mono : ∀ {K : Fg} {B B' : Hp} {v : V} {a : α}, Ex B B' → is K B v a → is K B' v a
structure CRep (α : Type) where
  is : Fg → Hp → HO → α → Prop
  mono : ∀ {K : Fg} {B B' : Hp} {o : HO} {a : α}, Ex B B' → is K B o a → is K B' o a

theorem paired_mono {α : Type} {r : Rep α} {K : Fg} {B B' : Hp} (e : Ex B B') : ∀ {xs : List V} {as : List α}, Paired (r.is K B) xs as → Paired (r.is K B') xs as
  | _, _, .nil => .nil
  | _, _, .cons h t => .cons (r.mono e h) (paired_mono e t)
theorem paired_len {α β : Type} {F : α → β → Prop} : ∀ {xs : List α} {as : List β}, Paired F xs as → xs.length = as.length
  | _, _, .nil => rfl
  | _, _, .cons _ t => congrArg (· + 1) (paired_len t)
theorem paired_get {α β : Type} {F : α → β → Prop} : ∀ {xs : List α} {as : List β} {i : Nat} {a : β}, Paired F xs as → as[i]? = some a → ∃ x, xs[i]? = some x ∧ F x a
  | _, _, _, _, .nil, e => by simp at e
  | _, _, 0, _, .cons r _, e => by simp at e; subst e; exact ⟨_, rfl, r⟩
  | _, _, i + 1, a, .cons _ t, e => by
    obtain ⟨u, h1, h2⟩ := paired_get (i := i) (a := a) t (by simpa using e)
    exact ⟨u, by simpa using h1, h2⟩
theorem paired_app {α β : Type} {F : α → β → Prop} : ∀ {xs ys : List α} {as bs : List β}, Paired F xs as → Paired F ys bs → Paired F (xs ++ ys) (as ++ bs)
  | _, _, _, _, .nil, s => s
  | _, _, _, _, .cons r t, s => .cons r (paired_app t s)
theorem paired_set {α β : Type} {F : α → β → Prop} {x : α} {a : β} (r : F x a) : ∀ {xs : List α} {as : List β} (i : Nat), Paired F xs as → Paired F (xs.set i x) (as.set i a)
  | _, _, _, .nil => .nil
  | _, _, 0, .cons _ t => .cons r t
  | _, _, i + 1, .cons q t => .cons q (paired_set r i t)
theorem paired_drop {α β : Type} {F : α → β → Prop} : ∀ {xs : List α} {as : List β} (n : Nat), Paired F xs as → Paired F (xs.drop n) (as.drop n)
  | _, _, 0, r => r
  | _, _, _ + 1, .nil => .nil
  | _, _, n + 1, .cons _ t => paired_drop n t
theorem paired_take {α β : Type} {F : α → β → Prop} : ∀ {xs : List α} {as : List β} (n : Nat), Paired F xs as → Paired F (xs.take n) (as.take n)
  | _, _, 0, _ => .nil
  | _, _, _ + 1, .nil => .nil
  | _, _, n + 1, .cons r t => .cons r (paired_take n t)
theorem paired_rev {α β : Type} {F : α → β → Prop} : ∀ {xs : List α} {as : List β}, Paired F xs as → Paired F xs.reverse as.reverse
  | _, _, .nil => .nil
  | _, _, .cons r t => by
    rw [List.reverse_cons, List.reverse_cons]
    exact paired_app (paired_rev t) (.cons r .nil)
theorem paired_map {α β γ : Type} {F : γ → β → Prop} {f : α → γ} {g : α → β} (h : ∀ a, F (f a) (g a)) : ∀ (l : List α), Paired F (l.map f) (l.map g)
  | [] => .nil
  | a :: l => .cons (h a) (paired_map h l)
theorem paired_imp {α β : Type} {F G : α → β → Prop} (h : ∀ a b, F a b → G a b) : ∀ {xs : List α} {as : List β}, Paired F xs as → Paired G xs as
  | _, _, .nil => .nil
  | _, _, .cons r t => .cons (h _ _ r) (paired_imp h t)

def rInt : Rep Int := ⟨fun _ _ v a => v = .int a, fun _ h => h⟩
def rBool : Rep Bool := ⟨fun _ _ v a => v = .bl a, fun _ h => h⟩
def rStr : Rep Str := ⟨fun _ _ v a => v = .str a, fun _ h => h⟩
def rNon : Rep Unit := ⟨fun _ _ v _ => v = .non, fun _ h => h⟩
def rRef : Rep Addr := ⟨fun _ _ v a => v = .ref a, fun _ h => h⟩
def rVal : Rep V := ⟨fun _ _ v a => v = a, fun _ h => h⟩
def rOpt {α : Type} (r : Rep α) : Rep (Option α) := ⟨fun K B v a => match a with | none => v = .non | some x => r.is K B v x, fun {K B B' v a} e h => by
  cases a with
  | none => exact h
  | some x => exact r.mono e h⟩
def rTup {α : Type} (r : Rep α) : Rep (List α) := ⟨fun K B v as => ∃ p xs, v = .ref p ∧ SqT K B p xs ∧ Paired (r.is K B) xs as, fun e ⟨p, xs, h1, h2, h3⟩ => ⟨p, xs, h1, ex_t e h2, paired_mono e h3⟩⟩
/-- the script -/
def rScr {α : Type} (r : Rep α) : Rep (List α) := ⟨fun K B v as => ∃ p xs, v = .ref p ∧ SqL K B p xs ∧ Paired (r.is K B) xs as, fun e ⟨p, xs, h1, h2, h3⟩ => ⟨p, xs, h1, ex_l e h2, paired_mono e h3⟩⟩
def rLst {α : Type} (r : Rep α) : Rep (List α) := ⟨fun K B v as => ∃ p xs, v = .ref p ∧ B p = some (.lst xs) ∧ Paired (r.is K B) xs as, fun e ⟨p, xs, h1, h2, h3⟩ => ⟨p, xs, h1, e _ _ h2, paired_mono e h3⟩⟩
def rSeq {α : Type} (r : Rep α) : Rep (List α) := ⟨fun K B v as => ∃ p xs, v = .ref p ∧ (SqL K B p xs ∨ SqT K B p xs) ∧ Paired (r.is K B) xs as, fun e ⟨p, xs, h1, h2, h3⟩ => ⟨p, xs, h1, h2.imp (ex_l e) (ex_t e), paired_mono e h3⟩⟩
def rT2 {α β : Type} (r : Rep α) (s : Rep β) : Rep (α × β) := ⟨fun K B v a => ∃ p x y, v = .ref p ∧ SqT K B p [x, y] ∧ r.is K B x a.1 ∧ s.is K B y a.2,
  fun e ⟨p, x, y, h1, h2, h3, h4⟩ => ⟨p, x, y, h1, ex_t e h2, r.mono e h3, s.mono e h4⟩⟩
def rT3 {α β γ : Type} (r : Rep α) (s : Rep β) (t : Rep γ) : Rep (α × β × γ) := ⟨fun K B v a => ∃ p x y z, v = .ref p ∧ SqT K B p [x, y, z] ∧ r.is K B x a.1 ∧ s.is K B y a.2.1 ∧ t.is K B z a.2.2,
  fun e ⟨p, x, y, z, h1, h2, h3, h4, h5⟩ => ⟨p, x, y, z, h1, ex_t e h2, r.mono e h3, s.mono e h4, t.mono e h5⟩⟩
def cLst {α : Type} (r : Rep α) : CRep (List α) := ⟨fun K B o as => ∃ xs, o = .lst xs ∧ Paired (r.is K B) xs as, fun e ⟨xs, h1, h2⟩ => ⟨xs, h1, paired_mono e h2⟩⟩
/-- a list [u, v] of two kinds -/
def cL2 {α β : Type} (r : Rep α) (s : Rep β) : CRep (α × β) := ⟨fun K B o a => ∃ x y, o = .lst [x, y] ∧ r.is K B x a.1 ∧ s.is K B y a.2, fun e ⟨x, y, h1, h2, h3⟩ => ⟨x, y, h1, r.mono e h2, s.mono e h3⟩⟩
theorem rTup_seq {α : Type} {r : Rep α} {K : Fg} {B : Hp} {v : V} {as : List α} (h : (rTup r).is K B v as) : (rSeq r).is K B v as := by
  obtain ⟨p, xs, h1, h2, h3⟩ := h
  exact ⟨p, xs, h1, .inr h2, h3⟩
theorem rLst_seq {α : Type} {r : Rep α} {K : Fg} {B : Hp} {v : V} {as : List α} (h : (rLst r).is K B v as) : (rSeq r).is K B v as := by
  obtain ⟨p, xs, h1, h2, h3⟩ := h
  exact ⟨p, xs, h1, .inl (sq_of h2), h3⟩
theorem rl_sc {α : Type} {r : Rep α} {K : Fg} {B : Hp} {v : V} {as : List α} (h : (rLst r).is K B v as) : (rScr r).is K B v as := by
  obtain ⟨p, xs, h1, h2, h3⟩ := h
  exact ⟨p, xs, h1, sq_of h2, h3⟩
theorem rScr_seq {α : Type} {r : Rep α} {K : Fg} {B : Hp} {v : V} {as : List α} (h : (rScr r).is K B v as) : (rSeq r).is K B v as := by
  obtain ⟨p, xs, h1, h2, h3⟩ := h
  exact ⟨p, xs, h1, .inl h2, h3⟩

/-! ### the heap in three: B stays, M is not ours, L may change -/
structure Cell : Type 1 where
  {α : Type}
  p : Addr
  c : CRep α
  a : α
def Cell.ok (K : Fg) (B H : Hp) (x : Cell) : Prop := ∃ o, H x.p = some o ∧ x.c.is K B o x.a
/-- what is not ours; the code objects' tables that may grow -/
structure Fr where
  h : Hp
  T : List Addr
instance : CoeFun Fr fun _ => Addr → Option HO := ⟨Fr.h⟩
instance : CoeOut Fr Hp := ⟨Fr.h⟩
structure Own (K : Fg) (B : Hp) (M : Fr) (L : List Cell) (H : Hp) : Prop where
  b : Ex B H
  m : Ex M.h H
  bm : ∀ a, B a = none ∨ M a = none
  l : ∀ x ∈ L, x.ok K B H ∧ B x.p = none ∧ M x.p = none
  nd : (L.map (·.p)).Nodup
  t : ∀ P ∈ M.T, GxR.TabG H P ∧ B P = none ∧ M P = none ∧ P ∉ L.map (·.p)
section
variable {K : Fg} {B B' H H' : Hp} {M : Fr} {L L' : List Cell} {p : Addr} {o : HO} {α : Type} {c : CRep α} {a a' : α}
theorem Cell.ok.mono {x : Cell} (e : Ex B B') (h : x.ok K B H) : x.ok K B' H := by
  obtain ⟨o, h1, h2⟩ := h
  exact ⟨o, h1, x.c.mono e h2⟩
theorem tab_upd {H : Hp} {P p : Addr} {o : HO} (h : GxR.TabG H P) (ne : P ≠ p) : GxR.TabG (upd H p o) P := by
  obtain ⟨ps, h1, h2⟩ := h
  exact ⟨ps, by rw [upd_ne ne]; exact h1, h2⟩
theorem tab_ne {H : Hp} {P p : Addr} (h : GxR.TabG H P) (hp : H p = none) : P ≠ p := fun e => by
  obtain ⟨ps, h1, _⟩ := h
  rw [e, hp] at h1
  cases h1
/-- without the tables -/
def noT (H : Hp) (T : List Addr) : Hp := fun a => if a ∈ T then none else H a
theorem Own.start (K : Fg) (H : Hp) (T : List Addr) (hT : ∀ P ∈ T, GxR.TabG H P) : Own K (noT H T) ⟨fun _ => none, T⟩ [] H := ⟨fun a u h => by
    unfold noT at h
    split at h
    · cases h
    · exact h, fun _ _ h => (by cases h), fun _ => .inr rfl, fun _ h => absurd h (by simp), by simp, fun P hP => ⟨hT P hP, by unfold noT; rw [if_pos hP], rfl, by simp⟩⟩
theorem sq_noT {K : Fg} {H : Hp} {T : List Addr} {a : Addr} {xs : List V} (hT : ∀ P ∈ T, GxR.TabG H P) (h : SqL K H a xs) : SqL K (noT H T) a xs := by
  have ne : ∀ u, H a = some u → (∀ ps, u ≠ .tbl ps) → noT H T a = some u := fun u e n => by
    unfold noT
    split
    · rename_i hm
      obtain ⟨ps, h1, _⟩ := hT a hm
      rw [e] at h1
      exact absurd (Option.some.inj h1) (n ps)
    · exact e
  rcases h with (h | ⟨o, h⟩) | h
  · exact .inl (.inl (ne _ h fun _ e => by cases e))
  · exact .inl (.inr ⟨o, ne _ h fun _ e => by cases e⟩)
  · exact .inr h
/-- a new thing that stays -/
theorem Own.ext (w : Own K B M L H) (hp : H p = none) : Own K (upd B p o) M L (upd H p o) := by
  have hB : B p = none := fresh_back w.b hp
  have hM : M p = none := fresh_back w.m hp
  refine ⟨fun b u e => ?_, fun b u e => ?_, fun b => ?_, fun x hx => ?_, w.nd, fun P hP => ?_⟩
  rotate_right
  · obtain ⟨h1, h2, h3, h4⟩ := w.t P hP
    have ne := tab_ne h1 hp
    exact ⟨tab_upd h1 ne, by rw [upd_ne ne]; exact h2, h3, h4⟩
  · by_cases hb : b = p
    · rw [hb, upd_same] at e; rw [hb, upd_same]; exact e
    · rw [upd_ne hb] at e; rw [upd_ne hb]; exact w.b b u e
  · rw [upd_ne (ne_of_none e hM)]; exact w.m b u e
  · by_cases hb : b = p
    · right; rw [hb]; exact hM
    · rw [upd_ne hb]; exact w.bm b
  · obtain ⟨⟨u, h1, h2⟩, h3, h4⟩ := w.l x hx
    have ne : x.p ≠ p := ne_of_none h1 hp
    exact ⟨⟨u, by rw [upd_ne ne]; exact h1, x.c.mono (Ex.new hB) h2⟩, by rw [upd_ne ne]; exact h3, h4⟩
/-- a new thing that may change -/
theorem Own.new (w : Own K B M L H) (hp : H p = none) (h : c.is K B o a) : Own K B M (⟨p, c, a⟩ :: L) (upd H p o) := by
  have hB : B p = none := fresh_back w.b hp
  have hM : M p = none := fresh_back w.m hp
  refine ⟨fun b u e => ?_, fun b u e => ?_, w.bm, fun x hx => ?_, ?_, fun P hP => ?_⟩
  rotate_right
  · obtain ⟨h1, h2, h3, h4⟩ := w.t P hP
    have ne := tab_ne h1 hp
    exact ⟨tab_upd h1 ne, h2, h3, fun z => (List.mem_cons.mp z).elim ne h4⟩
  · rw [upd_ne (ne_of_none e hB)]; exact w.b b u e
  · rw [upd_ne (ne_of_none e hM)]; exact w.m b u e
  · rcases List.mem_cons.mp hx with rfl | hx
    · exact ⟨⟨o, upd_same, h⟩, hB, hM⟩
    · obtain ⟨⟨u, h1, h2⟩, h3, h4⟩ := w.l x hx
      exact ⟨⟨u, by rw [upd_ne (ne_of_none h1 hp)]; exact h1, h2⟩, h3, h4⟩
  · rw [List.map_cons, List.nodup_cons]
    refine ⟨fun hm => ?_, w.nd⟩
    obtain ⟨x, hx, e⟩ := List.mem_map.mp hm
    obtain ⟨⟨u, h1, _⟩, _⟩ := w.l x hx
    rw [e, show (Cell.mk p c a).p = p from rfl, hp] at h1
    cases h1
theorem nodup_at : ∀ {l : List Addr} {i j : Nat} {x : Addr}, l.Nodup → l[i]? = some x → l[j]? = some x → i = j := fun {l i j x} h a b => by
  obtain ⟨h1, e1⟩ := List.getElem?_eq_some_iff.mp a
  obtain ⟨h2, e2⟩ := List.getElem?_eq_some_iff.mp b
  exact (List.getElem_inj h).mp (e1.trans e2.symm)
theorem Own.at {i : Nat} {x : Cell} (w : Own K B M L H) (h : L[i]? = some x) : x.ok K B H ∧ B x.p = none ∧ M x.p = none := w.l x (List.mem_of_getElem? h)
theorem Own.ne {i j : Nat} {x y : Cell} (w : Own K B M L H) (h : L[i]? = some x) (h' : L[j]? = some y) (hij : i ≠ j) : x.p ≠ y.p := fun e => hij (nodup_at w.nd (by rw [List.getElem?_map, h]; rfl) (by rw [List.getElem?_map, h']; exact congrArg some e.symm))
/-- a change in place -/
theorem Own.set {i : Nat} (w : Own K B M L H) (h : L[i]? = some ⟨p, c, a⟩) {β : Type} {c' : CRep β} {a' : β} (h' : c'.is K B o a') : Own K B M (L.set i ⟨p, c', a'⟩) (upd H p o) := by
  obtain ⟨_, hB, hM⟩ := w.at h
  have ek : (L.set i ⟨p, c', a'⟩).map (·.p) = L.map (·.p) := by
    rw [List.map_set]
    refine List.ext_getElem? fun j => ?_
    by_cases hij : i = j
    · subst hij
      have hl : i < (L.map (·.p)).length := by rw [List.length_map]; exact (List.getElem?_eq_some_iff.mp h).1
      rw [List.getElem?_set_self hl, List.getElem?_map, h]; rfl
    · rw [List.getElem?_set_ne hij]
  refine ⟨fun b u e => ?_, fun b u e => ?_, w.bm, fun x hx => ?_, ?_, fun P hP => ?_⟩
  rotate_right
  · obtain ⟨h1, h2, h3, h4⟩ := w.t P hP
    have ne : P ≠ p := fun e => h4 (by rw [e]; exact List.mem_map.mpr ⟨_, List.mem_of_getElem? h, rfl⟩)
    exact ⟨tab_upd h1 ne, h2, h3, by rw [ek]; exact h4⟩
  · rw [upd_ne (ne_of_none e hB)]; exact w.b b u e
  · rw [upd_ne (ne_of_none e hM)]; exact w.m b u e
  · obtain ⟨j, hj⟩ := List.getElem?_of_mem hx
    by_cases hij : i = j
    · subst hij
      have hl : i < L.length := (List.getElem?_eq_some_iff.mp h).1
      rw [List.getElem?_set_self hl] at hj
      cases hj
      exact ⟨⟨o, upd_same, h'⟩, hB, hM⟩
    · rw [List.getElem?_set_ne hij] at hj
      obtain ⟨⟨u, h1, h2⟩, h3, h4⟩ := w.at hj
      have ne : x.p ≠ p := w.ne hj h (Ne.symm hij)
      exact ⟨⟨u, by rw [upd_ne ne]; exact h1, h2⟩, h3, h4⟩
  · have e : (L.set i ⟨p, c', a'⟩).map (·.p) = L.map (·.p) := by
      rw [List.map_set]
      refine List.ext_getElem? fun j => ?_
      by_cases hij : i = j
      · subst hij
        have hl : i < (L.map (·.p)).length := by rw [List.length_map]; exact (List.getElem?_eq_some_iff.mp h).1
        rw [List.getElem?_set_self hl, List.getElem?_map, h]; rfl
      · rw [List.getElem?_set_ne hij]
    rw [e]; exact w.nd
theorem Own.perm {L' : List Cell} (w : Own K B M L H) (h : ∀ x ∈ L', x ∈ L) (nd : (L'.map (·.p)).Nodup) : Own K B M L' H := ⟨w.b, w.m, w.bm, fun x hx => w.l x (h x hx), nd, fun P hP => by
  obtain ⟨h1, h2, h3, h4⟩ := w.t P hP
  refine ⟨h1, h2, h3, fun z => h4 ?_⟩
  obtain ⟨x, hx, e⟩ := List.mem_map.mp z
  exact List.mem_map.mpr ⟨x, h x hx, e⟩⟩
theorem Own.erase (w : Own K B M L H) (i : Nat) : Own K B M (L.eraseIdx i) H := by
  refine w.perm (fun x hx => List.mem_of_mem_eraseIdx hx) ?_
  exact w.nd.sublist ((List.eraseIdx_sublist L i).map _)
theorem Own.tail {x : Cell} (w : Own K B M (x :: L) H) : Own K B M L H := w.erase 0
theorem Own.nil (w : Own K B M L H) : Own K B M [] H := w.perm (fun _ h => absurd h (by simp)) (by simp)
/-- what may change stays from now on -/
theorem Own.freeze {i : Nat} {x : Cell} (w : Own K B M L H) (h : L[i]? = some x) : ∃ o, H x.p = some o ∧ x.c.is K B o x.a ∧ B x.p = none ∧ Own K (upd B x.p o) M (L.eraseIdx i) H := by
  obtain ⟨⟨o, h1, h2⟩, hB, hM⟩ := w.at h
  refine ⟨o, h1, h2, hB, fun b u e => ?_, w.m, fun b => ?_, fun y hy => ?_, w.nd.sublist ((List.eraseIdx_sublist L i).map _), fun P hP => ?_⟩
  rotate_right
  · obtain ⟨t1, t2, t3, t4⟩ := w.t P hP
    have ne : P ≠ x.p := fun e => t4 (by rw [e]; exact List.mem_map.mpr ⟨_, List.mem_of_getElem? h, rfl⟩)
    exact ⟨t1, by rw [upd_ne ne]; exact t2, t3, fun z => t4 (((List.eraseIdx_sublist L i).map _).subset z)⟩
  · by_cases hb : b = x.p
    · rw [hb, upd_same] at e; rw [hb, h1]; exact e
    · rw [upd_ne hb] at e; exact w.b b u e
  · by_cases hb : b = x.p
    · right; rw [hb]; exact hM
    · rw [upd_ne hb]; exact w.bm b
  · obtain ⟨⟨u, h3, h4⟩, h5, h6⟩ := w.l y (List.mem_of_mem_eraseIdx hy)
    have ne : y.p ≠ x.p := by
      obtain ⟨j, hj, hne⟩ := List.mem_eraseIdx_iff_getElem?.mp hy
      exact w.ne hne h hj
    exact ⟨⟨u, h3, y.c.mono (Ex.new hB) h4⟩, by rw [upd_ne ne]; exact h5, h6⟩
/-- what is ours as a part of what is not ours -/
def absorb (M : Fr) (L : List Cell) (H : Hp) : Fr := ⟨fun a => if a ∈ L.map (·.p) then H a else M a, M.T⟩
theorem absorb_in {x : Cell} (h : x ∈ L) : absorb M L H x.p = H x.p := by
  exact if_pos (List.mem_map.mpr ⟨x, h, rfl⟩)
theorem absorb_out (h : p ∉ L.map (·.p)) : absorb M L H p = M p := by
  exact if_neg h
/-- L1 is lent, L2 is set aside -/
theorem Own.lend {L1 L2 : List Cell} (w : Own K B M L H) (h1 : ∀ x ∈ L1, x ∈ L) (h2 : ∀ x ∈ L2, x ∈ L) (nd1 : (L1.map (·.p)).Nodup) (dj : ∀ x ∈ L1, x.p ∉ L2.map (·.p)) : Own K B (absorb M L2 H) L1 H := by
  refine ⟨w.b, fun b u e => ?_, fun b => ?_, fun x hx => ?_, nd1, fun P hP => ?_⟩
  rotate_right
  · obtain ⟨t1, t2, t3, t4⟩ := w.t P hP
    have sub : ∀ {L' : List Cell}, (∀ x ∈ L', x ∈ L) → P ∉ L'.map (·.p) := fun {L'} hs z => by
      obtain ⟨x, hx, e⟩ := List.mem_map.mp z
      exact t4 (List.mem_map.mpr ⟨x, hs x hx, e⟩)
    exact ⟨t1, t2, by rw [absorb_out (sub h2)]; exact t3, sub h1⟩
  · by_cases hb : b ∈ L2.map (·.p)
    · have e : (if b ∈ L2.map (·.p) then H b else M b) = some u := e; rw [if_pos hb] at e; exact e
    · rw [absorb_out hb] at e; exact w.m b u e
  · by_cases hb : b ∈ L2.map (·.p)
    · left
      obtain ⟨x, hx, rfl⟩ := List.mem_map.mp hb
      exact (w.l x (h2 x hx)).2.1
    · rw [absorb_out hb]; exact w.bm b
  · obtain ⟨a1, a2, a3⟩ := w.l x (h1 x hx)
    refine ⟨a1, a2, ?_⟩
    rw [absorb_out (dj x hx)]; exact a3
/-- it comes back changed -/
theorem Own.back {L1' L2 : List Cell} (w : Own K B M L H) (h2 : ∀ x ∈ L2, x ∈ L) (nd2 : (L2.map (·.p)).Nodup) (e : Ex B B') (w' : Own K B' (absorb M L2 H) L1' H') (dj : ∀ x ∈ L1', x.p ∉ L2.map (·.p)) : Own K B' M (L1' ++ L2) H' := by
  have inL : ∀ x ∈ L2, ∃ o, H x.p = some o ∧ H' x.p = some o ∧ x.c.is K B o x.a := fun x hx => by
    obtain ⟨⟨o, a1, a2⟩, _⟩ := w.l x (h2 x hx)
    exact ⟨o, a1, w'.m x.p o (by rw [absorb_in hx]; exact a1), a2⟩
  have Min : ∀ b u, M b = some u → b ∉ L2.map (·.p) := fun b u hm hb => by
    obtain ⟨x, hx, rfl⟩ := List.mem_map.mp hb
    rw [(w.l x (h2 x hx)).2.2] at hm
    cases hm
  refine ⟨w'.b, fun b u hm => w'.m b u (by rw [absorb_out (Min b u hm)]; exact hm), fun b => ?_, fun x hx => ?_, ?_, fun P hP => ?_⟩
  rotate_right
  · obtain ⟨t1, t2, t3, t4⟩ := w.t P hP
    obtain ⟨s1, s2, s3, s4⟩ := w'.t P hP
    refine ⟨s1, s2, t3, fun z => ?_⟩
    rw [List.map_append, List.mem_append] at z
    rcases z with z | z
    · exact s4 z
    · obtain ⟨x, hx, e⟩ := List.mem_map.mp z
      exact t4 (List.mem_map.mpr ⟨x, h2 x hx, e⟩)
  · rcases w'.bm b with h | h
    · exact .inl h
    · right
      by_cases hb : b ∈ L2.map (·.p)
      · obtain ⟨x, hx, rfl⟩ := List.mem_map.mp hb
        exact (w.l x (h2 x hx)).2.2
      · rw [absorb_out hb] at h; exact h
  · rcases List.mem_append.mp hx with hx | hx
    · obtain ⟨a1, a2, a3⟩ := w'.l x hx
      refine ⟨a1, a2, ?_⟩
      rw [absorb_out (dj x hx)] at a3; exact a3
    · obtain ⟨o, a1, a2, a3⟩ := inL x hx
      refine ⟨⟨o, a2, x.c.mono e a3⟩, ?_, (w.l x (h2 x hx)).2.2⟩
      rcases w'.bm x.p with h | h
      · exact h
      · rw [absorb_in hx, a1] at h; cases h
  · rw [List.map_append, List.nodup_append]
    refine ⟨w'.nd, nd2, fun a ha b hb hab => ?_⟩
    obtain ⟨x, hx, rfl⟩ := List.mem_map.mp ha
    exact dj x hx (by rw [hab]; exact hb)
end
end L3

namespace L3
open PySem L2
open Evl (Ex ex_rd ex_l ex_t sq_of st_of fresh_back)

/-! ### what an expression gives -/
def EV (K : Fg) (M : Fr) {α : Type} (te : TE) (σ : St) (B : Hp) (L : List Cell) (r : Rep α) (a : α) (L' : List Cell) : Prop :=
  ∀ B1 H, Ex B B1 → Own K B1 M L H → ∀ Q : VK, (∀ v B2 H2, Ex B1 B2 → Own K B2 M L' H2 → r.is K B2 v a → Q v H2) → te σ H Q
/-- a new list that may change -/
def EVL (K : Fg) (M : Fr) {α : Type} (te : TE) (σ : St) (B : Hp) (L : List Cell) (r : Rep α) (as : List α) (L' : List Cell) : Prop :=
  ∀ B1 H, Ex B B1 → Own K B1 M L H → ∀ Q : VK, (∀ p B2 H2, Ex B1 B2 → Own K B2 M (⟨p, cLst r, as⟩ :: L') H2 → Q (.ref p) H2) → te σ H Q
def ET (K : Fg) (M : Fr) (tt : TT) (σ : St) (B : Hp) (L : List Cell) (b : Bool) (L' : List Cell) : Prop :=
  ∀ B1 H, Ex B B1 → Own K B1 M L H → ∀ Q : Bool → Hp → Prop, (∀ B2 H2, Ex B1 B2 → Own K B2 M L' H2 → Q b H2) → tt σ H Q
structure Arg : Type 1 where
  {α : Type}
  r : Rep α
  a : α
def Arg.is (K : Fg) (B : Hp) (v : V) (x : Arg) : Prop := x.r.is K B v x.a
def ArgsIs (K : Fg) (B : Hp) : List V → List Arg → Prop
  | [], [] => True
  | v :: vs, a :: as => a.is K B v ∧ ArgsIs K B vs as
  | _, _ => False
theorem args_mono {K : Fg} {B B' : Hp} (e : Ex B B') : ∀ {vs : List V} {as : List Arg}, ArgsIs K B vs as → ArgsIs K B' vs as
  | [], [], _ => trivial
  | _ :: _, a :: _, h => ⟨a.r.mono e h.1, args_mono e h.2⟩
  | [], _ :: _, h => h
  | _ :: _, [], h => h
def EA (K : Fg) (M : Fr) (ta : TA) (σ : St) (B : Hp) (L : List Cell) (as : List Arg) (L' : List Cell) : Prop :=
  ∀ B1 H, Ex B B1 → Own K B1 M L H → ∀ Q : List V → Hp → Prop, (∀ vs B2 H2, Ex B1 B2 → Own K B2 M L' H2 → ArgsIs K B2 vs as → Q vs H2) → ta σ H Q

/-! ### partial operations of the mirrors -/
theorem bindS {α β : Type} {o : Option α} {f : α → Option β} {b : β} (h : Option.bind o f = some b) : ∃ a, o = some a ∧ f a = some b := by
  cases o with
  | none => cases h
  | some a => exact ⟨a, rfl, h⟩
def CMulX (i j : Int) : Prop := ((-(2 ^ 64) < i ∧ i < 2 ^ 64) ∨ (-(2 ^ 64) < j ∧ j < 2 ^ 64)) ∨ i.natAbs.log2 + j.natAbs.log2 < 1000000
instance (i j : Int) : Decidable (CMulX i j) := by unfold CMulX; infer_instance
theorem op_mulX {X : Cx} : OpR X (binaryOp .Mult) (rI CMulX fun i j => .int (i * j)) := opI fun _ _ _ _ _ _ _ hc q => PyProof.Rows.mul_int q (Or.elim hc CMul.ok CMulW.ok)
def mulI (i j : Int) : Option Int := if CMulX i j then some (i * j) else none
def divI (i j : Int) : Option Int := if 0 < j ∧ j.natAbs.log2 < 9000 then some (i / j) else none
def modI (i j : Int) : Option Int := if 0 < j then some (i % j) else none
def powI (i j : Int) : Option Int := if 0 ≤ j ∧ j ≤ 1000000 ∧ i.natAbs < 2 ^ 64 then some (i ^ j.toNat) else none
def ixL {α : Type} (xs : List α) (i : Int) : Option α := atI xs i
def room (n : Nat) : Option Unit := if n < sizeLine then some () else none
theorem mulI_some {i j k : Int} (h : mulI i j = some k) : CMulX i j ∧ k = i * j := by
  unfold mulI at h
  split at h
  · rename_i hc; exact ⟨hc, (Option.some.inj h).symm⟩
  · cases h
theorem divI_some {i j k : Int} (h : divI i j = some k) : CDivW i j ∧ k = i / j := by
  unfold divI at h
  split at h
  · rename_i hc; exact ⟨hc, (Option.some.inj h).symm⟩
  · cases h
theorem modI_some {i j k : Int} (h : modI i j = some k) : 0 < j ∧ k = i % j := by
  unfold modI at h
  split at h
  · rename_i hc; exact ⟨hc, (Option.some.inj h).symm⟩
  · cases h
theorem powI_some {i j k : Int} (h : powI i j = some k) : CPow i j ∧ k = i ^ j.toNat := by
  unfold powI at h
  split at h
  · rename_i hc; exact ⟨hc, (Option.some.inj h).symm⟩
  · cases h
theorem room_some {n : Nat} {u : Unit} (h : room n = some u) : n < sizeLine := by
  unfold room at h
  split at h
  · rename_i hc; exact hc
  · cases h
/-- an index in the mirror's list is one in the heap's -/
theorem atI_paired {α : Type} {F : V → α → Prop} {xs : List V} {as : List α} {i : Int} {a : α} (h : Paired F xs as) (e : atI as i = some a) : ∃ x, atI xs i = some x ∧ F x a := by
  unfold atI at e ⊢
  rw [paired_len h]
  revert e
  cases ixN as.length i with
  | none => intro e; simp at e
  | some j => intro e; exact paired_get h (by simpa using e)

section
variable {K : Fg} {M : Fr} {σ : St} {B : Hp} {L L1 L2 L' : List Cell} {α β γ δ : Type} {r : Rep α} {s : Rep β} {t : Rep γ} {ta tb tc te : TE} {tt tu : TT} {tA : TA} {i j k : Int} {b c : Bool}
/-! ### expressions -/
theorem ev_var {n : Nat} {v : V} {a : α} (h : σ[n]? = some (some v)) (hr : r.is K B v a) : EV K M (tVar n) σ B L r a L := fun B1 H e w Q q => ⟨v, h, q v B1 H (Ex.refl _) w (r.mono e hr)⟩
theorem ev_varI {n : Nat} {v : V} (h : σ[n]? = some (some v)) (hr : v = .int i) : EV K M (tVar n) σ B L rInt i L := ev_var h hr
theorem ev_varB {n : Nat} {v : V} (h : σ[n]? = some (some v)) (hr : v = .bl b) : EV K M (tVar n) σ B L rBool b L := ev_var h hr
theorem ev_varS {n : Nat} {v : V} {x : Str} (h : σ[n]? = some (some v)) (hr : v = .str x) : EV K M (tVar n) σ B L rStr x L := ev_var h hr
theorem ev_varR {n : Nat} {p : Addr} (h : σ[n]? = some (some (.ref p))) : EV K M (tVar n) σ B L rRef p L := ev_var h rfl
theorem ev_k {v : V} {a : α} (hr : ∀ B, r.is K B v a) : EV K M (tC v) σ B L r a L := fun B1 H e w Q q => q v B1 H (Ex.refl _) w (hr B1)
theorem ev_int : EV K M (tC (.int i)) σ B L rInt i L := ev_k fun _ => rfl
theorem ev_bl : EV K M (tC (.bl b)) σ B L rBool b L := ev_k fun _ => rfl
theorem ev_str {x : Str} : EV K M (tC (.str x)) σ B L rStr x L := ev_k fun _ => rfl
theorem ev_non : EV K M (tC .non) σ B L (rOpt r) none L := ev_k fun _ => rfl
theorem ev_as {a : α} {b : β} (h : EV K M te σ B L r a L') (f : ∀ B v, r.is K B v a → s.is K B v b) : EV K M te σ B L s b L' := fun B1 H e w Q q => h B1 H e w Q fun v B2 H2 e2 w2 h2 => q v B2 H2 e2 w2 (f _ _ h2)
theorem ev_seqT {as : List α} (h : EV K M te σ B L (rTup r) as L') : EV K M te σ B L (rSeq r) as L' := ev_as h fun _ _ => rTup_seq
theorem ev_seqS {as : List α} (h : EV K M te σ B L (rScr r) as L') : EV K M te σ B L (rSeq r) as L' := ev_as h fun _ _ => rScr_seq
theorem ev_scr {as : List α} (h : EV K M te σ B L (rLst r) as L') : EV K M te σ B L (rScr r) as L' := ev_as h fun _ _ => rl_sc
theorem ev_seqL {as : List α} (h : EV K M te σ B L (rLst r) as L') : EV K M te σ B L (rSeq r) as L' := ev_as h fun _ _ => rLst_seq
theorem ev_sm {a : α} (h : EV K M te σ B L r a L') : EV K M te σ B L (rOpt r) (some a) L' := ev_as h fun _ _ h => h
/-- a new list, left as it is -/
theorem ev_frz {as : List α} (h : EVL K M te σ B L r as L') : EV K M te σ B L (rLst r) as L' := fun B1 H e w Q q => h B1 H e w Q fun p B2 H2 e2 w2 => by
  obtain ⟨o, h1, ⟨xs, h2, h3⟩, h4, w3⟩ := w2.freeze (i := 0) rfl
  have h4 : B2 p = none := h4
  have e3 : Ex B2 (upd B2 p o) := Ex.new h4
  refine q _ (upd B2 p o) H2 (e2.trans e3) w3 ⟨p, xs, rfl, ?_, paired_mono e3 h3⟩
  rw [upd_same, h2]
/-- two values, one operation -/
theorem ev_op {R : R2} {a : α} {b : β} {c : γ} (ha : EV K M ta σ B L r a L1) (hb : EV K M tb σ B L1 s b L2)
    (h : ∀ B1 H1 x y (Q : VK), Own K B1 M L2 H1 → r.is K B1 x a → s.is K B1 y b → (∀ v, t.is K B1 v c → Q v H1) → R x y H1 Q) : EV K M (tOp R ta tb) σ B L t c L2 := fun B1 H e w Q q =>
  ha B1 H e w _ fun x B2 H2 e2 w2 hx => hb B2 H2 (e.trans e2) w2 _ fun y B3 H3 e3 w3 hy => h B3 H3 x y Q w3 (r.mono e3 hx) hy fun v hv => q v B3 H3 (e2.trans e3) w3 hv
theorem ev_un {R : V → Hp → VK → Prop} {a : α} {c : γ} (ha : EV K M ta σ B L r a L1) (h : ∀ B1 H1 x (Q : VK), Own K B1 M L1 H1 → r.is K B1 x a → (∀ v, t.is K B1 v c → Q v H1) → R x H1 Q) : EV K M (tUn R ta) σ B L t c L1 := fun B1 H e w Q q =>
  ha B1 H e w _ fun x B2 H2 e2 w2 hx => h B2 H2 x Q w2 hx fun v hv => q v B2 H2 e2 w2 hv
theorem ev_I0 {g : Int → Int → Int} (ha : EV K M ta σ B L rInt i L1) (hb : EV K M tb σ B L1 rInt j L2) : EV K M (tOp (rI0 fun i j => .int (g i j)) ta tb) σ B L rInt (g i j) L2 :=
  ev_op ha hb fun _ _ _ _ _ _ hx hy q => ⟨i, j, hx, hy, q _ rfl⟩
theorem ev_B0 {g : Int → Int → Bool} (ha : EV K M ta σ B L rInt i L1) (hb : EV K M tb σ B L1 rInt j L2) : EV K M (tOp (rI0 fun i j => .bl (g i j)) ta tb) σ B L rBool (g i j) L2 :=
  ev_op ha hb fun _ _ _ _ _ _ hx hy q => ⟨i, j, hx, hy, q _ rfl⟩
theorem ev_mul (ha : EV K M ta σ B L rInt i L1) (hb : EV K M tb σ B L1 rInt j L2) (h : mulI i j = some k) : EV K M (tOp (rI CMulX fun i j => .int (i * j)) ta tb) σ B L rInt k L2 :=
  ev_op ha hb fun _ _ _ _ _ _ hx hy q => ⟨i, j, hx, hy, (mulI_some h).1, q _ (by rw [(mulI_some h).2]; rfl)⟩
theorem ev_div (ha : EV K M ta σ B L rInt i L1) (hb : EV K M tb σ B L1 rInt j L2) (h : divI i j = some k) : EV K M (tOp (rI CDivW fun i j => .int (i / j)) ta tb) σ B L rInt k L2 :=
  ev_op ha hb fun _ _ _ _ _ _ hx hy q => ⟨i, j, hx, hy, (divI_some h).1, q _ (by rw [(divI_some h).2]; rfl)⟩
theorem ev_mod (ha : EV K M ta σ B L rInt i L1) (hb : EV K M tb σ B L1 rInt j L2) (h : modI i j = some k) : EV K M (tOp (rI (fun _ j => 0 < j) fun i j => .int (i % j)) ta tb) σ B L rInt k L2 :=
  ev_op ha hb fun _ _ _ _ _ _ hx hy q => ⟨i, j, hx, hy, (modI_some h).1, q _ (by rw [(modI_some h).2]; rfl)⟩
theorem ev_pow (ha : EV K M ta σ B L rInt i L1) (hb : EV K M tb σ B L1 rInt j L2) (h : powI i j = some k) : EV K M (tOp (rI CPow fun i j => .int (i ^ j.toNat)) ta tb) σ B L rInt k L2 :=
  ev_op ha hb fun _ _ _ _ _ _ hx hy q => ⟨i, j, hx, hy, (powI_some h).1, q _ (by rw [(powI_some h).2]; rfl)⟩
theorem ev_neg (ha : EV K M ta σ B L rInt i L1) : EV K M (tUn (rU fun i => .int (-i)) ta) σ B L rInt (-i) L1 := ev_un ha fun _ _ _ _ _ hx q => ⟨i, hx, q _ rfl⟩
theorem ev_eqI (ha : EV K M ta σ B L rInt i L1) (hb : EV K M tb σ B L1 rInt j L2) : EV K M (tOp rEq ta tb) σ B L rBool (decide (i = j)) L2 :=
  ev_op ha hb fun _ _ _ _ _ _ hx hy q => by
    have hx : _ = V.int i := hx
    have hy : _ = V.int j := hy
    subst hx hy
    exact ⟨rfl, q _ (by show V.bl _ = V.bl _; congr 1; simp)⟩
theorem ev_neI (ha : EV K M ta σ B L rInt i L1) (hb : EV K M tb σ B L1 rInt j L2) : EV K M (tOp rNe ta tb) σ B L rBool (!decide (i = j)) L2 :=
  ev_op ha hb fun _ _ _ _ _ _ hx hy q => by
    have hx : _ = V.int i := hx
    have hy : _ = V.int j := hy
    subst hx hy
    exact ⟨rfl, q _ (by show V.bl _ = V.bl _; congr 1; simp)⟩
theorem ev_eqS {x y : Str} (ha : EV K M ta σ B L rStr x L1) (hb : EV K M tb σ B L1 rStr y L2) : EV K M (tOp rEq ta tb) σ B L rBool (decide (x = y)) L2 :=
  ev_op ha hb fun _ _ _ _ _ _ hx hy q => by
    have hx : _ = V.str x := hx
    have hy : _ = V.str y := hy
    subst hx hy
    exact ⟨rfl, q _ (by show V.bl _ = V.bl _; congr 1; simp)⟩
theorem ev_neS {x y : Str} (ha : EV K M ta σ B L rStr x L1) (hb : EV K M tb σ B L1 rStr y L2) : EV K M (tOp rNe ta tb) σ B L rBool (!decide (x = y)) L2 :=
  ev_op ha hb fun _ _ _ _ _ _ hx hy q => by
    have hx : _ = V.str x := hx
    have hy : _ = V.str y := hy
    subst hx hy
    exact ⟨rfl, q _ (by show V.bl _ = V.bl _; congr 1; simp)⟩
theorem ev_eqB {x y : Bool} (ha : EV K M ta σ B L rBool x L1) (hb : EV K M tb σ B L1 rBool y L2) : EV K M (tOp rEq ta tb) σ B L rBool (decide (x = y)) L2 :=
  ev_op ha hb fun _ _ _ _ _ _ hx hy q => by
    have hx : _ = V.bl x := hx
    have hy : _ = V.bl y := hy
    subst hx hy
    exact ⟨rfl, q _ (by show V.bl _ = V.bl _; congr 1; simp)⟩
/-- x is None -/
theorem ev_isN {a : Option α} (ha : EV K M ta σ B L (rOpt r) a L1) (hn : ∀ B v x, r.is K B v x → v ≠ .non) : EV K M (tIsN ta) σ B L rBool a.isNone L1 := fun B1 H e w Q q =>
  ha B1 H e w _ fun x B2 H2 e2 w2 hx => q _ B2 H2 e2 w2 (by
    show V.bl _ = V.bl _
    congr 1
    cases a with
    | none => exact decide_eq_true (show x = V.non from hx)
    | some a => exact decide_eq_false (hn _ _ _ hx))
theorem ev_notN {a : Option α} (ha : EV K M ta σ B L (rOpt r) a L1) (hn : ∀ B v x, r.is K B v x → v ≠ .non) : EV K M (tNotN ta) σ B L rBool a.isSome L1 := fun B1 H e w Q q =>
  ha B1 H e w _ fun x B2 H2 e2 w2 hx => q _ B2 H2 e2 w2 (by
    show V.bl _ = V.bl _
    congr 1
    cases a with
    | none => rw [decide_eq_true (show x = V.non from hx)]; rfl
    | some a => rw [decide_eq_false (hn _ _ _ hx)]; rfl)
/-! ### tuples and lists -/
theorem ea_nil : EA K M tNil σ B L [] L := fun B1 H e w Q q => q [] B1 H (Ex.refl _) w trivial
theorem ea_cons {a : α} {as : List Arg} (ha : EV K M ta σ B L r a L1) (hr : EA K M tA σ B L1 as L2) : EA K M (tCons ta tA) σ B L (⟨r, a⟩ :: as) L2 := fun B1 H e w Q q =>
  ha B1 H e w _ fun x B2 H2 e2 w2 hx => hr B2 H2 (e.trans e2) w2 _ fun vs B3 H3 e3 w3 hvs => q (x :: vs) B3 H3 (e2.trans e3) w3 ⟨r.mono e3 hx, hvs⟩
theorem ev_T2 {a : α} {b : β} (h : EA K M tA σ B L [⟨r, a⟩, ⟨s, b⟩] L') : EV K M (tTup tA) σ B L (rT2 r s) (a, b) L' := fun B1 H e w Q q =>
  h B1 H e w _ fun vs B2 H2 e2 w2 hv => by
    match vs, hv with
    | [_, _], ⟨h1, h2, _⟩ => exact ⟨by show 2 ≤ sizeLine; decide, fun p hp => q _ (upd B2 p _) _ (e2.trans (Ex.new (fresh_back w2.b hp))) (w2.ext hp) ⟨p, _, _, rfl, st_of upd_same, r.mono (Ex.new (fresh_back w2.b hp)) h1, s.mono (Ex.new (fresh_back w2.b hp)) h2⟩⟩
theorem ev_T3 {a : α} {b : β} {c : γ} (h : EA K M tA σ B L [⟨r, a⟩, ⟨s, b⟩, ⟨t, c⟩] L') : EV K M (tTup tA) σ B L (rT3 r s t) (a, b, c) L' := fun B1 H e w Q q =>
  h B1 H e w _ fun vs B2 H2 e2 w2 hv => by
    match vs, hv with
    | [_, _, _], ⟨h1, h2, h3, _⟩ => exact ⟨by show 3 ≤ sizeLine; decide, fun p hp => q _ (upd B2 p _) _ (e2.trans (Ex.new (fresh_back w2.b hp))) (w2.ext hp) ⟨p, _, _, _, rfl, st_of upd_same, r.mono (Ex.new (fresh_back w2.b hp)) h1, s.mono (Ex.new (fresh_back w2.b hp)) h2, t.mono (Ex.new (fresh_back w2.b hp)) h3⟩⟩
theorem homog : ∀ {as : List α} {vs : List V}, ArgsIs K B vs (as.map (Arg.mk r)) → Paired (r.is K B) vs as
  | [], [], _ => .nil
  | _ :: _, _ :: _, h => .cons h.1 (homog h.2)
  | [], _ :: _, h => h.elim
  | _ :: _, [], h => h.elim
theorem ev_tup (as : List α) (h : EA K M tA σ B L (as.map (Arg.mk r)) L') (hl : Nat.ble as.length 100000 = true := by rfl) : EV K M (tTup tA) σ B L (rTup r) as L' := fun B1 H e w Q q =>
  h B1 H e w _ fun vs B2 H2 e2 w2 hv => ⟨by rw [paired_len (homog hv)]; exact Evl.sz_of (Nat.le_of_ble_eq_true hl), fun p hp => q _ (upd B2 p _) _ (e2.trans (Ex.new (fresh_back w2.b hp))) (w2.ext hp) ⟨p, _, rfl, st_of upd_same, paired_mono (Ex.new (fresh_back w2.b hp)) (homog hv)⟩⟩
theorem el_lst (as : List α) (h : EA K M tA σ B L (as.map (Arg.mk r)) L') (hl : Nat.ble as.length 100000 = true := by rfl) : EVL K M (tLst tA) σ B L r as L' := fun B1 H e w Q q =>
  h B1 H e w _ fun vs B2 H2 e2 w2 hv => ⟨by rw [paired_len (homog hv)]; exact Evl.sz_of (Nat.le_of_ble_eq_true hl), fun p hp => q p B2 _ e2 (w2.new hp ⟨vs, rfl, homog hv⟩)⟩
theorem ev_fst {a : α × β} (ha : EV K M ta σ B L (rT2 r s) a L1) : EV K M (tOp (rIx K) ta (tC (.int 0))) σ B L r a.1 L1 := fun B1 H e w Q q =>
  ha B1 H e w _ fun x B2 H2 e2 w2 hx => by
    obtain ⟨p, x0, x1, rfl, hs, h0, h1⟩ := hx
    exact .inr (.inl ⟨p, _, 0, x0, rfl, rfl, ex_t w2.b hs, rfl, q _ B2 H2 e2 w2 h0⟩)
theorem ev_snd {a : α × β} (ha : EV K M ta σ B L (rT2 r s) a L1) : EV K M (tOp (rIx K) ta (tC (.int 1))) σ B L s a.2 L1 := fun B1 H e w Q q =>
  ha B1 H e w _ fun x B2 H2 e2 w2 hx => by
    obtain ⟨p, x0, x1, rfl, hs, h0, h1⟩ := hx
    exact .inr (.inl ⟨p, _, 1, x1, rfl, rfl, ex_t w2.b hs, rfl, q _ B2 H2 e2 w2 h1⟩)
theorem ev_ix {xs : List α} {a : α} (ha : EV K M ta σ B L (rSeq r) xs L1) (hb : EV K M tb σ B L1 rInt i L2) (h : ixL xs i = some a) : EV K M (tOp (rIx K) ta tb) σ B L r a L2 :=
  ev_op ha hb fun B1 H1 x y Q w hx hy q => by
    obtain ⟨p, vs, rfl, hs, hv⟩ := hx
    obtain ⟨x, e, hx⟩ := atI_paired hv h
    rcases hs with hs | hs
    · exact .inl ⟨p, vs, i, x, rfl, hy, ex_l w.b hs, e, q _ hx⟩
    · exact .inr (.inl ⟨p, vs, i, x, rfl, hy, ex_t w.b hs, e, q _ hx⟩)
/-- of a list that may change -/
theorem ev_ixC {n : Nat} {p : Addr} {xs : List α} {a : α} (ha : EV K M ta σ B L rRef p L1) (hb : EV K M tb σ B L1 rInt i L2) (hc : L2[n]? = some ⟨p, cLst r, xs⟩) (h : ixL xs i = some a) : EV K M (tOp (rIx K) ta tb) σ B L r a L2 :=
  ev_op ha hb fun B1 H1 x y Q w hx hy q => by
    obtain ⟨⟨o, h1, vs, h2, hv⟩, _⟩ := w.at hc
    obtain ⟨x, e, hx'⟩ := atI_paired hv h
    exact .inl ⟨p, vs, i, x, hx, hy, sq_of (by rw [h1, h2]), e, q _ hx'⟩
def rLen (K : Fg) : List V → Hp → VK → Prop := fun xs H Q => ∃ p ys, xs = [.ref p] ∧ (SqL K H p ys ∨ SqT K H p ys) ∧ Q (.int ys.length) H
theorem ev_cb {R : List V → Hp → VK → Prop} {as : List Arg} {c : γ} (ha : EA K M tA σ B L as L1) (h : ∀ B1 H1 vs (Q : VK), Own K B1 M L1 H1 → ArgsIs K B1 vs as → (∀ v, t.is K B1 v c → Q v H1) → R vs H1 Q) : EV K M (tCB R tA) σ B L t c L1 := fun B1 H e w Q q =>
  ha B1 H e w _ fun vs B2 H2 e2 w2 hv => h B2 H2 vs Q w2 hv fun v hr => q v B2 H2 e2 w2 hr
theorem ev_cb1 {R : List V → Hp → VK → Prop} {a : α} {c : γ} (ha : EV K M ta σ B L r a L1) (h : ∀ B1 H1 x (Q : VK), Own K B1 M L1 H1 → r.is K B1 x a → (∀ v, t.is K B1 v c → Q v H1) → R [x] H1 Q) : EV K M (tCB R (tCons ta tNil)) σ B L t c L1 := fun B1 H e w Q q =>
  ha B1 H e w _ fun v B2 H2 e2 w2 hv => h B2 H2 v Q w2 hv fun v hr => q v B2 H2 e2 w2 hr
theorem ev_len {xs : List α} (ha : EV K M ta σ B L (rSeq r) xs L1) : EV K M (tCB (rLen K) (tCons ta tNil)) σ B L rInt (xs.length : Int) L1 :=
  ev_cb1 ha fun B1 H1 x Q w hx q => by
    obtain ⟨p, vs, rfl, hs, hv⟩ := hx
    exact ⟨p, vs, rfl, hs.imp (ex_l w.b) (ex_t w.b), q _ (by rw [paired_len hv]; rfl)⟩
theorem ev_lenC {n : Nat} {p : Addr} {xs : List α} (ha : EV K M ta σ B L rRef p L1) (hc : L1[n]? = some ⟨p, cLst r, xs⟩) : EV K M (tCB (rLen K) (tCons ta tNil)) σ B L rInt (xs.length : Int) L1 :=
  ev_cb1 ha fun B1 H1 x Q w hx q => by
    obtain ⟨⟨o, h1, vs, h2, hv⟩, _⟩ := w.at hc
    have h1 : H1 p = some o := h1
    exact ⟨p, vs, congrArg (fun z => [z]) hx, .inl (sq_of (by rw [h1, h2])), q _ (by rw [paired_len hv]; rfl)⟩
theorem ev_abs (ha : EV K M ta σ B L rInt i L1) : EV K M (tCB (fun xs H Q => ∃ i, xs = [.int i] ∧ Q (.int (if i < 0 then -i else i)) H) (tCons ta tNil)) σ B L rInt (if i < 0 then -i else i) L1 :=
  ev_cb1 ha fun B1 H1 x Q w hx q => ⟨i, congrArg (fun z => [z]) hx, q _ rfl⟩
def rInt1 : List V → Hp → VK → Prop := fun xs H Q => (∃ i, xs = [.int i] ∧ Q (.int i) H) ∨ ∃ k, xs = [.bl k] ∧ Q (.int (if k then 1 else 0)) H
theorem ev_intI (ha : EV K M ta σ B L rInt i L1) : EV K M (tCB rInt1 (tCons ta tNil)) σ B L rInt i L1 := ev_cb1 ha fun B1 H1 x Q w hx q => .inl ⟨i, congrArg (fun z => [z]) hx, q _ rfl⟩
theorem ev_intB (ha : EV K M ta σ B L rBool b L1) : EV K M (tCB rInt1 (tCons ta tNil)) σ B L rInt (if b then 1 else 0) L1 := ev_cb1 ha fun B1 H1 x Q w hx q => .inr ⟨b, congrArg (fun z => [z]) hx, q _ rfl⟩
theorem ev_gcd (ha : EV K M ta σ B L rInt i L1) (hb : EV K M tb σ B L1 rInt j L2) : EV K M (tCB rGcd (tCons ta (tCons tb tNil))) σ B L rInt ((Nat.gcd i.natAbs j.natAbs : Nat) : Int) L2 :=
  ev_cb (ea_cons ha (ea_cons hb ea_nil)) fun B1 H1 vs Q w hv q => by
    match vs, hv with
    | [_, _], ⟨h1, h2, _⟩ => exact ⟨i, j, by rw [show _ = V.int i from h1, show _ = V.int j from h2], q _ rfl⟩
/-! ### tests, and, or, not -/
theorem et_test (h : EV K M te σ B L rBool b L') : ET K M (tTest te) σ B L b L' := fun B1 H e w Q q => h B1 H e w _ fun v B2 H2 e2 w2 hv => ⟨b, hv, q B2 H2 e2 w2⟩
theorem et_B (h : EV K M te σ B L rBool b L') : ET K M (tB te) σ B L b L' := fun B1 H e w Q q => h B1 H e w _ fun v B2 H2 e2 w2 hv => ⟨b, hv, q B2 H2 e2 w2⟩
theorem et_not (h : ET K M tt σ B L b L') : ET K M (tNot tt) σ B L (!b) L' := fun B1 H e w Q q => h B1 H e w _ fun B2 H2 e2 w2 => q B2 H2 e2 w2
theorem et_and {b c : Bool} (h1 : ET K M tt σ B L b L1) (h2 : b = true → ET K M tu σ B L1 c L1) : ET K M (tAnd tt tu) σ B L (b && c) L1 := fun B1 H e w Q q => h1 B1 H e w _ fun B2 H2 e2 w2 => by
  cases b with
  | true => exact h2 rfl B2 H2 (e.trans e2) w2 Q fun B3 H3 e3 w3 => q B3 H3 (e2.trans e3) w3
  | false => exact q B2 H2 e2 w2
theorem et_or {b c : Bool} (h1 : ET K M tt σ B L b L1) (h2 : b = false → ET K M tu σ B L1 c L1) : ET K M (tOr tt tu) σ B L (b || c) L1 := fun B1 H e w Q q => h1 B1 H e w _ fun B2 H2 e2 w2 => by
  cases b with
  | true => exact q B2 H2 e2 w2
  | false => exact h2 rfl B2 H2 (e.trans e2) w2 Q fun B3 H3 e3 w3 => q B3 H3 (e2.trans e3) w3
/-- where the right side changes things -/
theorem et_and' {b d : Bool} (h1 : ET K M tt σ B L b L1) (h2 : b = true → ET K M tu σ B L1 d L2) (h3 : b = false → d = false ∧ L2 = L1) : ET K M (tAnd tt tu) σ B L d L2 := fun B1 H e w Q q => h1 B1 H e w _ fun B2 H2 e2 w2 => by
  cases b with
  | true => exact h2 rfl B2 H2 (e.trans e2) w2 Q fun B3 H3 e3 w3 => q B3 H3 (e2.trans e3) w3
  | false => obtain ⟨rfl, rfl⟩ := h3 rfl; exact q B2 H2 e2 w2
theorem et_or' {b d : Bool} (h1 : ET K M tt σ B L b L1) (h2 : b = false → ET K M tu σ B L1 d L2) (h3 : b = true → d = true ∧ L2 = L1) : ET K M (tOr tt tu) σ B L d L2 := fun B1 H e w Q q => h1 B1 H e w _ fun B2 H2 e2 w2 => by
  cases b with
  | true => obtain ⟨rfl, rfl⟩ := h3 rfl; exact q B2 H2 e2 w2
  | false => exact h2 rfl B2 H2 (e.trans e2) w2 Q fun B3 H3 e3 w3 => q B3 H3 (e2.trans e3) w3
theorem ev_andV {b d : Bool} (h1 : EV K M ta σ B L rBool b L1) (h2 : b = true → EV K M tb σ B L1 rBool d L2) (h3 : b = false → d = false ∧ L2 = L1) : EV K M (tAndV ta tb) σ B L rBool d L2 := fun B1 H e w Q q => h1 B1 H e w _ fun x B2 H2 e2 w2 hx => ⟨b, hx, by
  cases b with
  | true => exact h2 rfl B2 H2 (e.trans e2) w2 Q fun v B3 H3 e3 w3 hv => q v B3 H3 (e2.trans e3) w3 hv
  | false => obtain ⟨rfl, rfl⟩ := h3 rfl; exact q _ B2 H2 e2 w2 rfl⟩
theorem ev_orV {b d : Bool} (h1 : EV K M ta σ B L rBool b L1) (h2 : b = false → EV K M tb σ B L1 rBool d L2) (h3 : b = true → d = true ∧ L2 = L1) : EV K M (tOrV ta tb) σ B L rBool d L2 := fun B1 H e w Q q => h1 B1 H e w _ fun x B2 H2 e2 w2 hx => ⟨b, hx, by
  cases b with
  | true => obtain ⟨rfl, rfl⟩ := h3 rfl; exact q _ B2 H2 e2 w2 rfl
  | false => exact h2 rfl B2 H2 (e.trans e2) w2 Q fun v B3 H3 e3 w3 hv => q v B3 H3 (e2.trans e3) w3 hv⟩
theorem ev_notV (h : EV K M ta σ B L rBool b L1) : EV K M (tNotV ta) σ B L rBool (!b) L1 := fun B1 H e w Q q => h B1 H e w _ fun x B2 H2 e2 w2 hx => ⟨b, hx, q _ B2 H2 e2 w2 rfl⟩
theorem ev_if {a : α} (h : ET K M tt σ B L b L1) (h1 : b = true → EV K M ta σ B L1 r a L2) (h2 : b = false → EV K M tb σ B L1 r a L2) : EV K M (tIf tt ta tb) σ B L r a L2 := fun B1 H e w Q q => h B1 H e w _ fun B2 H2 e2 w2 => by
  cases b with
  | true => exact h1 rfl B2 H2 (e.trans e2) w2 Q fun v B3 H3 e3 w3 hv => q v B3 H3 (e2.trans e3) w3 hv
  | false => exact h2 rfl B2 H2 (e.trans e2) w2 Q fun v B3 H3 e3 w3 hv => q v B3 H3 (e2.trans e3) w3 hv
end
end L3

namespace L3
open PySem L2
open Evl (Ex ex_rd ex_l ex_t sq_of st_of fresh_back)

/-! ### promises -/
def spV (K : Fg) (T : List Addr) (C : List Arg → List Cell → Arg → List Cell → Prop) : Sp := fun vs H Q _ => ∃ B M L as r L', M.T = T ∧ Own K B M L H ∧ ArgsIs K B vs as ∧ C as L r L' ∧
  ∀ v B' H', Ex B B' → Own K B' M L' H' → r.is K B' v → Q v H'
theorem args_len {K : Fg} {B : Hp} : ∀ {vs : List V} {as : List Arg}, ArgsIs K B vs as → vs.length = as.length
  | [], [], _ => rfl
  | _ :: _, _ :: _, h => congrArg (· + 1) (args_len h.2)
  | [], _ :: _, h => h.elim
  | _ :: _, [], h => h.elim
theorem FnScope.of {N ps : List Str} {sc : Scope} (h1 : sc.kind = .function) (h2 : sc.isCoroutine = false) (h3 : sc.isGenerator = false) (h : FnScope N ps sc) : FnScope N ps sc := h

section
variable {K : Fg} {M : Fr} {σ : St} {B : Hp} {L L1 L2 L' : List Cell} {α β γ δ : Type} {r : Rep α} {s : Rep β} {t : Rep γ} {ta tb tc te : TE} {tt tu : TT} {tA : TA} {i j k : Int} {b c : Bool}
theorem nodup_one {x : Cell} : ([x].map (·.p)).Nodup := by simp
/-- a def that changes nothing of ours -/
theorem ev_call {C : List Arg → List Cell → Arg → List Cell → Prop} {E : XK} {as : List Arg} {a : α} (ha : EA K M tA σ B L as L1) (h : C as [] ⟨r, a⟩ []) : EV K M (tCall (spV K M.T C) [] E tA) σ B L r a L1 := fun B1 H e w Q q =>
  ha B1 H e w _ fun vs B2 H2 e2 w2 hv => by
    show spV K M.T C (vs ++ []) H2 Q E
    rw [List.append_nil]
    refine ⟨B2, absorb M L1 H2, [], as, ⟨r, a⟩, [], rfl, w2.lend (L1 := []) (L2 := L1) (fun _ h => absurd h (by simp)) (fun _ h => h) (by simp) (fun _ h => absurd h (by simp)), hv, h, fun v B' H' e3 w3 hr => ?_⟩
    exact q v B' H' (e2.trans e3) (w2.back (L1' := []) (fun _ h => h) w2.nd e3 w3 (fun _ h => absurd h (by simp))) hr
theorem erase_mem {x : Cell} {n : Nat} (w : (L.map (·.p)).Nodup) (h : L[n]? = some x) : x.p ∉ (L.eraseIdx n).map (·.p) := fun hm => by
  obtain ⟨y, hy, e⟩ := List.mem_map.mp hm
  obtain ⟨j, hj, hne⟩ := List.mem_eraseIdx_iff_getElem?.mp hy
  exact hj (nodup_at w (by rw [List.getElem?_map, hne]; rfl) (by rw [List.getElem?_map, h]; exact congrArg some e.symm))
theorem set_perm {x x' : Cell} {n : Nat} (h : L[n]? = some x) : ∀ y ∈ L.set n x', y ∈ x' :: L.eraseIdx n := fun y hy => by
  obtain ⟨m, hm⟩ := List.getElem?_of_mem hy
  by_cases e : n = m
  · subst e
    rw [List.getElem?_set_self (List.getElem?_eq_some_iff.mp h).1] at hm
    cases hm
    exact List.mem_cons_self
  · rw [List.getElem?_set_ne e] at hm
    exact List.mem_cons_of_mem _ (List.mem_eraseIdx_iff_getElem?.mpr ⟨m, Ne.symm e, hm⟩)
theorem set_keys {x x' : Cell} {n : Nat} (h : L[n]? = some x) (hp : x'.p = x.p) : (L.set n x').map (·.p) = L.map (·.p) := by
  rw [List.map_set, hp]
  refine List.ext_getElem? fun j => ?_
  by_cases hij : n = j
  · subst hij
    have hl : n < (L.map (·.p)).length := by rw [List.length_map]; exact (List.getElem?_eq_some_iff.mp h).1
    rw [List.getElem?_set_self hl, List.getElem?_map, h]; rfl
  · rw [List.getElem?_set_ne hij]
/-- a def that changes the one at n -/
theorem ev_callC {C : List Arg → List Cell → Arg → List Cell → Prop} {E : XK} {as : List Arg} {a : α} (n : Nat) {x x' : Cell} (ha : EA K M tA σ B L as L1) (hx : L1[n]? = some x) (h : C as [x] ⟨r, a⟩ [x']) (hp : x'.p = x.p) : EV K M (tCall (spV K M.T C) [] E tA) σ B L r a (L1.set n x') := fun B1 H e w Q q =>
  ha B1 H e w _ fun vs B2 H2 e2 w2 hv => by
    show spV K M.T C (vs ++ []) H2 Q E
    rw [List.append_nil]
    have nd := w2.nd
    have hn := erase_mem nd hx
    have sub : ∀ y ∈ L1.eraseIdx n, y ∈ L1 := fun y hy => List.mem_of_mem_eraseIdx hy
    refine ⟨B2, absorb M (L1.eraseIdx n) H2, [x], as, ⟨r, a⟩, [x'], rfl, w2.lend (L1 := [x]) (L2 := L1.eraseIdx n) (fun y h => by rw [List.mem_singleton.mp h]; exact List.mem_of_getElem? hx) sub nodup_one (fun y h => by rw [List.mem_singleton.mp h]; exact hn), hv, h, fun v B' H' e3 w3 hr => ?_⟩
    have w4 : Own K B' M ([x'] ++ L1.eraseIdx n) H' := w2.back (L1' := [x']) sub (nd.sublist ((List.eraseIdx_sublist L1 n).map _)) e3 w3 (fun y h => by rw [List.mem_singleton.mp h, hp]; exact hn)
    exact q v B' H' (e2.trans e3) (w4.perm (set_perm hx) (by rw [set_keys hx hp]; exact nd)) hr

/-! ### statements -/
variable {D : Ends} {tz t1 t2 : TS} {H : Hp}
theorem q_asg {n : Nat} {a : α} (w : Own K B M L H) (h : EV K M te σ B L r a L') (q : ∀ v B' H', Ex B B' → Own K B' M L' H' → r.is K B' v a → tz D (σ.set n (some v)) H') : tSeq (tAsg te (gName n)) tz D σ H := h B H (Ex.refl _) w _ q
theorem q_asgL {n : Nat} {as : List α} (w : Own K B M L H) (h : EVL K M te σ B L r as L') (q : ∀ p B' H', Ex B B' → Own K B' M (⟨p, cLst r, as⟩ :: L') H' → tz D (σ.set n (some (.ref p))) H') : tSeq (tAsg te (gName n)) tz D σ H := h B H (Ex.refl _) w _ q
theorem q_drop {a : α} (w : Own K B M L H) (h : EV K M te σ B L r a L') (q : ∀ B' H', Ex B B' → Own K B' M L' H' → tz D σ H') : tSeq (tDrop te) tz D σ H := h B H (Ex.refl _) w _ fun _ B' H' e w' _ => q B' H' e w'
theorem q_ret {a : α} (w : Own K B M L H) (h : EV K M te σ B L r a L') (q : ∀ v B' H', Ex B B' → Own K B' M L' H' → r.is K B' v a → D.rt v H') : tSeq (tRet te) tz D σ H := h B H (Ex.refl _) w _ q
theorem q_retN (w : Own K B M L H) (q : D.rt .non H) : tSeq tRetN tz D σ H := q
/-- a list of ours goes out -/
theorem q_retC {n m : Nat} {p : Addr} {as : List α} (w : Own K B M L H) (hs : σ[m]? = some (some (.ref p))) (hc : L[n]? = some ⟨p, cLst r, as⟩) (q : ∀ v B', Ex B B' → Own K B' M (L.eraseIdx n) H → (rLst r).is K B' v as → D.rt v H) : tSeq (tRet (tVar m)) tz D σ H := by
  obtain ⟨o, h1, ⟨xs, h2, h3⟩, h4, w'⟩ := w.freeze hc
  have h4 : B p = none := h4
  refine ⟨_, hs, q _ _ (Ex.new h4) w' ⟨p, xs, rfl, ?_, paired_mono (Ex.new h4) h3⟩⟩
  show upd B p o p = _
  rw [upd_same, h2]
theorem q_if (w : Own K B M L H) (h : ET K M tt σ B L b L') (h1 : b = true → ∀ B' H', Ex B B' → Own K B' M L' H' → t1 { D with nx := tz D } σ H') (h2 : b = false → ∀ B' H', Ex B B' → Own K B' M L' H' → t2 { D with nx := tz D } σ H') : tSeq (tIfS tt t1 t2) tz D σ H :=
  h B H (Ex.refl _) w _ fun B' H' e w' => by
    cases b with
    | true => exact h1 rfl B' H' e w'
    | false => exact h2 rfl B' H' e w'
theorem q_ifc (w : Own K B M L H) (h : ET K M tt σ B L b L') (h1 : b = true → ∀ B' H', Ex B B' → Own K B' M L' H' → t1 D σ H') (h2 : b = false → ∀ B' H', Ex B B' → Own K B' M L' H' → t2 D σ H') : tIfS tt t1 t2 D σ H :=
  h B H (Ex.refl _) w _ fun B' H' e w' => by
    cases b with
    | true => exact h1 rfl B' H' e w'
    | false => exact h2 rfl B' H' e w'
theorem q_cut {t : TS} (Mid : St → Hp → Prop) (h : t { D with nx := Mid } σ H) (k : ∀ σ' H', Mid σ' H' → tz D σ' H') : Evl.tCut t tz D σ H := ⟨Mid, h, k⟩
theorem q_app {n m : Nat} {p : Addr} {as : List α} {a : α} (w : Own K B M L H) (hs : σ[m]? = some (some (.ref p))) (h : EV K M te σ B L r a L') (hc : L'[n]? = some ⟨p, cLst r, as⟩) (hc0 : ∃ n0 : Nat, ∃ a0 : List α, L[n0]? = some ⟨p, cLst r, a0⟩) (hr : room as.length = some ())
    (q : ∀ B' H', Ex B B' → Own K B' M (L'.set n ⟨p, cLst r, as ++ [a]⟩) H' → tz D σ H') : tSeq (tDrop (tBM K "list" rAppend (tVar m) (tCons te tNil))) tz D σ H := by
  obtain ⟨n0, a0, hc0⟩ := hc0
  obtain ⟨⟨o, h1, ys, h2, h3⟩, _⟩ := w.at hc0
  have h1 : H p = some o := h1
  refine ⟨_, hs, .inl ⟨rfl, _, sq_of (xs := ys) (by rw [h1, h2])⟩, h B H (Ex.refl _) w _ fun v B' H' e w' hv => ?_⟩
  obtain ⟨⟨o', g1, xs, g2, g3⟩, _⟩ := w'.at hc
  have g1 : H' p = some o' := g1
  exact ⟨p, xs, v, rfl, rfl, by rw [g1, g2], by rw [paired_len g3]; exact room_some hr, q B' _ e (w'.set hc ⟨_, rfl, paired_app g3 (.cons hv .nil)⟩)⟩
/-- l[i] = e -/
theorem q_setC {n m : Nat} {p : Addr} {as : List α} {a : α} {l : Nat} (w : Own K B M L H) (h : EV K M te σ B L r a L1) (hs : σ[m]? = some (some (.ref p))) (hb : EV K M tb σ B L1 rInt i L2) (hc : L2[n]? = some ⟨p, cLst r, as⟩) (hi : ixN as.length i = some l)
    (q : ∀ B' H', Ex B B' → Own K B' M (L2.set n ⟨p, cLst r, as.set l a⟩) H' → tz D σ H') : tSeq (tAsg te (gSub (tVar m) tb rSetL)) tz D σ H :=
  h B H (Ex.refl _) w _ fun v B1 H1 e1 w1 hv => ⟨_, hs, hb B1 H1 e1 w1 _ fun y B2 H2 e2 w2 hy => by
    obtain ⟨⟨o', g1, xs, g2, g3⟩, _⟩ := w2.at hc
    have g1 : H2 p = some o' := g1
    refine ⟨p, xs, i, l, rfl, hy, by rw [g1, g2], by rw [paired_len g3]; exact hi, q B2 _ (e1.trans e2) (w2.set hc ⟨_, rfl, paired_set (r.mono e2 hv) l g3⟩)⟩⟩
/-- l[1] = e of a list [u, v] -/
theorem q_set1 {n m : Nat} {p : Addr} {a : α × β} {x : β} (w : Own K B M L H) (h : EV K M te σ B L s x L1) (hs : σ[m]? = some (some (.ref p))) (hc : L1[n]? = some ⟨p, cL2 r s, a⟩)
    (q : ∀ B' H', Ex B B' → Own K B' M (L1.set n ⟨p, cL2 r s, (a.1, x)⟩) H' → tz D σ H') : tSeq (tAsg te (gSub (tVar m) (tC (.int 1)) rSetL)) tz D σ H :=
  h B H (Ex.refl _) w _ fun v B1 H1 e1 w1 hv => ⟨_, hs, by
    obtain ⟨⟨o', g1, x0, x1, g2, g3, g4⟩, _⟩ := w1.at hc
    have g1 : H1 p = some o' := g1
    exact ⟨p, [x0, x1], 1, 1, rfl, rfl, by rw [g1, g2], rfl, q B1 _ e1 (w1.set hc ⟨x0, v, rfl, g3, hv⟩)⟩⟩
theorem ev_l2fst {n m : Nat} {p : Addr} {a : α × β} (hs : σ[m]? = some (some (.ref p))) (hc : L[n]? = some ⟨p, cL2 r s, a⟩) : EV K M (tOp (rIx K) (tVar m) (tC (.int 0))) σ B L r a.1 L := fun B1 H e w Q q => by
  obtain ⟨⟨o', g1, x0, x1, g2, g3, g4⟩, _⟩ := w.at hc
  have g1 : H p = some o' := g1
  exact ⟨_, hs, .inl ⟨p, [x0, x1], 0, x0, rfl, rfl, sq_of (by rw [g1, g2]), rfl, q _ B1 H (Ex.refl _) w g3⟩⟩
theorem ev_l2snd {n m : Nat} {p : Addr} {a : α × β} (hs : σ[m]? = some (some (.ref p))) (hc : L[n]? = some ⟨p, cL2 r s, a⟩) : EV K M (tOp (rIx K) (tVar m) (tC (.int 1))) σ B L s a.2 L := fun B1 H e w Q q => by
  obtain ⟨⟨o', g1, x0, x1, g2, g3, g4⟩, _⟩ := w.at hc
  have g1 : H p = some o' := g1
  exact ⟨_, hs, .inl ⟨p, [x0, x1], 1, x1, rfl, rfl, sq_of (by rw [g1, g2]), rfl, q _ B1 H (Ex.refl _) w g4⟩⟩
/-- a new list [u, v] -/
theorem q_asgL2 {n : Nat} {a : α} {b : β} (w : Own K B M L H) (h : EA K M tA σ B L [⟨r, a⟩, ⟨s, b⟩] L') (q : ∀ p B' H', Ex B B' → Own K B' M (⟨p, cL2 r s, (a, b)⟩ :: L') H' → tz D (σ.set n (some (.ref p))) H') : tSeq (tAsg (tLst tA) (gName n)) tz D σ H :=
  h B H (Ex.refl _) w _ fun vs B' H' e w' hv => by
    match vs, hv with
    | [_, _], ⟨h1, h2, _⟩ => exact ⟨by show 2 ≤ sizeLine; decide, fun p hp => q p B' _ e (w'.new hp ⟨_, _, rfl, h1, h2⟩)⟩
theorem q_par {n m : Nat} {a : α} {b : β} (w : Own K B M L H) (h : EA K M tA σ B L [⟨r, a⟩, ⟨s, b⟩] L') (q : ∀ u v B' H', Ex B B' → Own K B' M L' H' → r.is K B' u a → s.is K B' v b → tz D ((σ.set n (some u)).set m (some v)) H') : tSeq (tPar n m tA) tz D σ H :=
  h B H (Ex.refl _) w _ fun vs B' H' e w' hv => by
    match vs, hv with
    | [_, _], ⟨h1, h2, _⟩ => exact ⟨_, _, rfl, q _ _ B' H' e w' h1 h2⟩

/-! ### loops -/
inductive Stp (S R : Type) where
  | nx (s : S)
  | bk (s : S)
  | rt (r : R)
def loopM {S R α : Type} (f : S → α → Option (Stp S R)) : S → List α → Option (Stp S R)
  | s, [] => some (.nx s)
  | s, x :: xs => match f s x with
    | some (.nx s') => loopM f s' xs
    | o => o
def foldO {S α : Type} (f : S → α → Option S) : S → List α → Option S
  | s, [] => some s
  | s, x :: xs => match f s x with
    | some s' => foldO f s' xs
    | none => none
theorem loop_fold {S R α : Type} (f : S → α → Option S) : ∀ (xs : List α) (s : S), loopM (R := R) (fun s x => (f s x).map Stp.nx) s xs = (foldO f s xs).map Stp.nx
  | [], _ => rfl
  | x :: xs, s => by
    unfold loopM foldO
    cases f s x with
    | none => rfl
    | some s' => exact loop_fold f xs s'
/-- what is walked: xs, item by item, whatever is ours -/
structure Wk (K : Fg) (M : Fr) (J : It) (B : Hp) (r : Rep α) (xs : List α) : Prop where
  go : ∀ (i : Nat) a B' L' H', Ex B B' → Own K B' M L' H' → xs[i]? = some a → J.go i H' ∧ ∀ x H2, J.yld i H' x H2 → ∃ B2, Ex B' B2 ∧ Own K B2 M L' H2 ∧ r.is K B2 x a
  stop : ∀ B' L' H', Ex B B' → Own K B' M L' H' → J.stop xs.length H'
def EI (K : Fg) (M : Fr) (wi : TI) (σ : St) (B : Hp) (L : List Cell) (r : Rep α) (xs : List α) (L' : List Cell) : Prop :=
  ∀ B1 H, Ex B B1 → Own K B1 M L H → ∀ R : It → Hp → Prop, (∀ J B2 H2, Ex B1 B2 → Own K B2 M L' H2 → Wk K M J B2 r xs → R J H2) → wi σ H R
theorem ei_tup {xs : List α} (h : EV K M te σ B L (rTup r) xs L') : EI K M (iTup K te) σ B L r xs L' := fun B1 H e w R q => h B1 H e w _ fun v B2 H2 e2 w2 hv => by
  obtain ⟨p, vs, rfl, hs, hp⟩ := hv
  refine ⟨p, rfl, ⟨vs, ex_t w2.b hs⟩, q _ B2 H2 e2 w2 ⟨fun i a B' L' H' e' w' hi => ?_, fun B' L' H' e' w' => ⟨vs, ex_t (e'.trans w'.b) hs, by rw [paired_len hp]; exact Nat.le_refl _⟩⟩⟩
  obtain ⟨x, hx, hr⟩ := paired_get hp hi
  refine ⟨⟨vs, x, ex_t (e'.trans w'.b) hs, hx⟩, fun y H3 hy => ?_⟩
  obtain ⟨rfl, hy⟩ := hy
  have := hy vs (ex_t (e'.trans w'.b) hs)
  rw [hx] at this
  cases this
  exact ⟨B', Ex.refl _, w', r.mono e' hr⟩
theorem ei_scr {xs : List α} (h : EV K M te σ B L (rScr r) xs L') : EI K M (iList K te) σ B L r xs L' := fun B1 H e w R q => h B1 H e w _ fun v B2 H2 e2 w2 hv => by
  obtain ⟨p, vs, rfl, hs, hp⟩ := hv
  refine ⟨p, rfl, ⟨vs, ex_l w2.b hs⟩, q _ B2 H2 e2 w2 ⟨fun i a B' L' H' e' w' hi => ?_, fun B' L' H' e' w' => ⟨vs, ex_l (e'.trans w'.b) hs, by rw [paired_len hp]; exact Nat.le_refl _⟩⟩⟩
  obtain ⟨x, hx, hr⟩ := paired_get hp hi
  refine ⟨⟨vs, x, ex_l (e'.trans w'.b) hs, hx⟩, fun y H3 hy => ?_⟩
  obtain ⟨rfl, hy⟩ := hy
  have := hy vs (ex_l (e'.trans w'.b) hs)
  rw [hx] at this
  cases this
  exact ⟨B', Ex.refl _, w', r.mono e' hr⟩
theorem ei_lst {xs : List α} (h : EV K M te σ B L (rLst r) xs L') : EI K M (iList K te) σ B L r xs L' := ei_scr (ev_scr h)
/-- lo, lo + 1, .. below hi -/
def rng (lo hi : Int) : List Int := (List.range (hi - lo).toNat).map fun (k : Nat) => lo + (k : Int)
theorem rng_len (lo hi : Int) : (rng lo hi).length = (hi - lo).toNat := by simp [rng]
theorem rng_get {lo hi : Int} {i : Nat} {a : Int} (h : (rng lo hi)[i]? = some a) : i < (hi - lo).toNat ∧ a = lo + (i : Int) := by
  unfold rng at h
  rw [List.getElem?_map] at h
  cases e : (List.range (hi - lo).toNat)[i]? with
  | none => rw [e] at h; cases h
  | some k =>
    rw [e] at h
    obtain ⟨h1, h2⟩ := List.getElem?_eq_some_iff.mp e
    rw [List.getElem_range] at h2
    rw [List.length_range] at h1
    subst h2
    exact ⟨h1, (Option.some.inj h).symm⟩
def small62 (i : Int) : Option Unit := if -(2 ^ 62) ≤ i ∧ i < 2 ^ 62 then some () else none
theorem small62_some {u : Unit} (h : small62 i = some u) : -(2 ^ 62) ≤ i ∧ i < 2 ^ 62 := by
  unfold small62 at h
  split at h
  · assumption
  · cases h
theorem wk_rng {lo hi : Int} : Wk K M (Itr lo (hi - lo).toNat) B rInt (rng lo hi) :=
  ⟨fun i a B' L' H' e' w' hi => by
    obtain ⟨h1, rfl⟩ := rng_get hi
    exact ⟨h1, fun x H2 hy => ⟨B', Ex.refl _, by rw [hy.1]; exact w', hy.2⟩⟩, fun B' L' H' e' w' => by rw [rng_len]; exact Nat.le_refl _⟩
theorem ei_rng1 (h : EA K M tA σ B L [⟨rInt, j⟩] L') (hj : small62 j = some ()) : EI K M (iRng1 tA) σ B L rInt (rng 0 j) L' := fun B1 H e w R q => h B1 H e w _ fun vs B2 H2 e2 w2 hv => by
  match vs, hv with
  | [_], ⟨h1, _⟩ =>
    refine ⟨j, by rw [show _ = V.int j from h1], (small62_some hj).1, (small62_some hj).2, q _ B2 H2 e2 w2 ?_⟩
    have := wk_rng (K := K) (M := M) (B := B2) (lo := 0) (hi := j)
    rw [show j - 0 = j by omega] at this
    exact this
theorem ei_rng2 (h : EA K M tA σ B L [⟨rInt, i⟩, ⟨rInt, j⟩] L') (hi : small62 i = some ()) (hj : small62 j = some ()) : EI K M (iRng2 tA) σ B L rInt (rng i j) L' := fun B1 H e w R q => h B1 H e w _ fun vs B2 H2 e2 w2 hv => by
  match vs, hv with
  | [_, _], ⟨h1, h2, _⟩ => exact ⟨i, j, by rw [show _ = V.int i from h1, show _ = V.int j from h2], ⟨(small62_some hi).1, (small62_some hi).2, (small62_some hj).1, (small62_some hj).2⟩, q _ B2 H2 e2 w2 wk_rng⟩

theorem loopM_drop {S R : Type} {f : S → α → Option (Stp S R)} {s s' : S} {xs : List α} {i : Nat} {a : α} (h : xs[i]? = some a) : loopM f s (xs.drop i) = (match f s a with | some (.nx s') => loopM f s' (xs.drop (i + 1)) | o => o) := by
  obtain ⟨h1, h2⟩ := List.getElem?_eq_some_iff.mp h
  rw [List.drop_eq_getElem_cons h1, h2]
  rfl
theorem q_for {S R : Type} {wi : TI} {g : TG} {tb : TS} {xs : List α} (w : Own K B M L H) (hi : EI K M wi σ B L r xs L1) (f : S → α → Option (Stp S R)) (P : S → Hp → St → Prop) (Lf : S → List Cell) (s0 : S) {o : Stp S R} (hm : loopM f s0 xs = some o)
    (h0 : ∀ B', Ex B B' → P s0 B' σ) (hL : Lf s0 = L1)
    (hs : ∀ s x st v B0 B' H' σ', f s x = some st → Ex B B0 → P s B0 σ' → Ex B0 B' → Own K B' M (Lf s) H' → r.is K B' v x → (∀ q, st = .rt q → o = .rt q) → ∀ (N : St → Hp → Prop) (BK : St → Hp → Prop),
      (∀ s3 B3 H3 σ3, st = .nx s3 → Ex B' B3 → Own K B3 M (Lf s3) H3 → P s3 B3 σ3 → N σ3 H3) → (∀ s3 B3 H3 σ3, st = .bk s3 → Ex B' B3 → Own K B3 M (Lf s3) H3 → P s3 B3 σ3 → BK σ3 H3) →
      g v σ' H' fun σ2 H2 => tb { D with nx := N, ct := N, bk := BK } σ2 H2)
    (hd : ∀ s B' H' σ', (o = .nx s ∨ o = .bk s) → Ex B B' → Own K B' M (Lf s) H' → P s B' σ' → tz D σ' H') : tSeq (tFor wi g tb) tz D σ H :=
  hi B H (Ex.refl _) w _ fun J B1 H1 e1 w1 k => by
    refine ⟨fun i m σ' H' => m = xs.length - i ∧ i ≤ xs.length ∧ ∃ s B', Ex B1 B' ∧ Own K B' M (Lf s) H' ∧ P s B' σ' ∧ loopM f s (xs.drop i) = some o, ⟨xs.length, by simp, Nat.zero_le _, s0, B1, Ex.refl _, by rw [hL]; exact w1, h0 B1 e1, hm⟩, ?_⟩
    rintro i m σ' H' ⟨rfl, hle, s, B', e', w', hP, hl⟩
    by_cases hlt : i < xs.length
    · right
      obtain ⟨a, ha⟩ : ∃ a, xs[i]? = some a := ⟨xs[i], List.getElem?_eq_getElem hlt⟩
      obtain ⟨hgo, hy⟩ := k.go i a B' _ H' e' w' ha
      rw [loopM_drop (s' := s) ha] at hl
      cases hst : f s a with
      | none => rw [hst] at hl; cases hl
      | some st =>
        rw [hst] at hl
        refine ⟨hgo, fun σ3 H3 => ∃ s3 B3, st = .nx s3 ∧ Ex B1 B3 ∧ Own K B3 M (Lf s3) H3 ∧ P s3 B3 σ3, fun σ3 H3 ⟨s3, B3, e3, a1, a2, a3⟩ => ?_, fun x H2 hy2 => ?_⟩
        · subst e3
          exact ⟨_, (by omega : xs.length - (i + 1) < xs.length - i), rfl, hlt, s3, B3, a1, a2, a3, hl⟩
        · obtain ⟨B2, e2, w2, hr⟩ := hy x H2 hy2
          refine hs s a st x B' B2 H2 σ' hst (e1.trans e') hP e2 w2 hr (fun q e => by rw [e] at hl; exact (Option.some.inj hl).symm) _ _ (fun s3 B3 H3 σ3 e3 e4 w3 p3 => ⟨s3, B3, e3, (e'.trans e2).trans e4, w3, p3⟩) (fun s3 B3 H3 σ3 e3 e4 w3 p3 => ?_)
          rw [e3] at hl
          exact hd s3 B3 H3 σ3 (.inr (Option.some.inj hl).symm) (((e1.trans e').trans e2).trans e4) w3 p3
    · left
      have : i = xs.length := by omega
      subst this
      rw [List.drop_length] at hl
      have ho : o = .nx s := (Option.some.inj hl).symm
      exact ⟨k.stop B' _ H' e' w', hd s B' H' σ' (.inl ho) (e1.trans e') w' hP⟩
end
end L3

namespace L3
open PySem L2
open Evl (Ex ex_rd ex_l ex_t sq_of st_of fresh_back)

theorem args1 {K : Fg} {B : Hp} {vs : List V} {x : Arg} (h : ArgsIs K B vs [x]) : ∃ u, vs = [u] ∧ x.is K B u := by
  match vs, h with
  | [_], ⟨h1, _⟩ => exact ⟨_, rfl, h1⟩
theorem args2 {K : Fg} {B : Hp} {vs : List V} {x y : Arg} (h : ArgsIs K B vs [x, y]) : ∃ u v, vs = [u, v] ∧ x.is K B u ∧ y.is K B v := by
  match vs, h with
  | [_, _], ⟨h1, h2, _⟩ => exact ⟨_, _, rfl, h1, h2⟩
theorem args3 {K : Fg} {B : Hp} {vs : List V} {x y z : Arg} (h : ArgsIs K B vs [x, y, z]) : ∃ u v w, vs = [u, v, w] ∧ x.is K B u ∧ y.is K B v ∧ z.is K B w := by
  match vs, h with
  | [_, _, _], ⟨h1, h2, h3, _⟩ => exact ⟨_, _, _, rfl, h1, h2, h3⟩
theorem args4 {K : Fg} {B : Hp} {vs : List V} {x y z a : Arg} (h : ArgsIs K B vs [x, y, z, a]) : ∃ u v w t, vs = [u, v, w, t] ∧ x.is K B u ∧ y.is K B v ∧ z.is K B w ∧ a.is K B t := by
  match vs, h with
  | [_, _, _, _], ⟨h1, h2, h3, h4, _⟩ => exact ⟨_, _, _, _, rfl, h1, h2, h3, h4⟩
theorem args5 {K : Fg} {B : Hp} {vs : List V} {x y z a b : Arg} (h : ArgsIs K B vs [x, y, z, a, b]) : ∃ u v w t s, vs = [u, v, w, t, s] ∧ x.is K B u ∧ y.is K B v ∧ z.is K B w ∧ a.is K B t ∧ b.is K B s := by
  match vs, h with
  | [_, _, _, _, _], ⟨h1, h2, h3, h4, h5, _⟩ => exact ⟨_, _, _, _, _, rfl, h1, h2, h3, h4, h5⟩
theorem args6 {K : Fg} {B : Hp} {vs : List V} {x y z a b c : Arg} (h : ArgsIs K B vs [x, y, z, a, b, c]) : ∃ u v w t s r, vs = [u, v, w, t, s, r] ∧ x.is K B u ∧ y.is K B v ∧ z.is K B w ∧ a.is K B t ∧ b.is K B s ∧ c.is K B r := by
  match vs, h with
  | [_, _, _, _, _, _], ⟨h1, h2, h3, h4, h5, h6, _⟩ => exact ⟨_, _, _, _, _, _, rfl, h1, h2, h3, h4, h5, h6⟩
/-- a constant of the module -/
structure GV (K : Fg) (mg : Str → Option Value) (x : Str) {α : Type} (r : Rep α) (a : α) : Prop where
  ex : ∃ (u : Value) (v : V), mg x = some u ∧ RelV v u ∧ ∀ B, r.is K B v a
def absI (i : Int) : Int := if i < 0 then -i else i
def gcdI (i j : Int) : Int := ((Nat.gcd i.natAbs j.natAbs : Nat) : Int)
def ixO (n : Nat) (i : Int) : Option Nat := ixN n i

section
variable {K : Fg} {M : Fr} {σ : St} {B : Hp} {L L1 L2 L' : List Cell} {α β γ δ : Type} {r : Rep α} {s : Rep β} {t : Rep γ} {ta tb tc te : TE} {tt tu : TT} {tA : TA} {i j k : Int} {b c : Bool}
theorem ev_add (ha : EV K M ta σ B L rInt i L1) (hb : EV K M tb σ B L1 rInt j L2) : EV K M (tOp (rI0 fun i j => .int (i + j)) ta tb) σ B L rInt (i + j) L2 := ev_I0 (g := fun i j => i + j) ha hb
theorem ev_sub (ha : EV K M ta σ B L rInt i L1) (hb : EV K M tb σ B L1 rInt j L2) : EV K M (tOp (rI0 fun i j => .int (i - j)) ta tb) σ B L rInt (i - j) L2 := ev_I0 (g := fun i j => i - j) ha hb
theorem ev_bitand (ha : EV K M ta σ B L rInt i L1) (hb : EV K M tb σ B L1 rInt j L2) : EV K M (tOp (rI0 fun i j => .int (Builtin.bitAnd i j)) ta tb) σ B L rInt (Builtin.bitAnd i j) L2 := ev_I0 (g := fun i j => Builtin.bitAnd i j) ha hb
abbrev rLt : R2 := rI0 fun i j => .bl (decide (i < j))
abbrev rLe : R2 := rI0 fun i j => .bl (decide (i ≤ j))
abbrev rGt : R2 := rI0 fun i j => .bl (decide (j < i))
abbrev rGe : R2 := rI0 fun i j => .bl (decide (j ≤ i))
theorem ev_lt (ha : EV K M ta σ B L rInt i L1) (hb : EV K M tb σ B L1 rInt j L2) : EV K M (tOp rLt ta tb) σ B L rBool (decide (i < j)) L2 := ev_B0 (g := fun i j => decide (i < j)) ha hb
theorem ev_le (ha : EV K M ta σ B L rInt i L1) (hb : EV K M tb σ B L1 rInt j L2) : EV K M (tOp rLe ta tb) σ B L rBool (decide (i ≤ j)) L2 := ev_B0 (g := fun i j => decide (i ≤ j)) ha hb
theorem ev_gt (ha : EV K M ta σ B L rInt i L1) (hb : EV K M tb σ B L1 rInt j L2) : EV K M (tOp rGt ta tb) σ B L rBool (decide (i > j)) L2 := ev_B0 (g := fun i j => decide (j < i)) ha hb
theorem ev_ge (ha : EV K M ta σ B L rInt i L1) (hb : EV K M tb σ B L1 rInt j L2) : EV K M (tOp rGe ta tb) σ B L rBool (decide (i ≥ j)) L2 := ev_B0 (g := fun i j => decide (j ≤ i)) ha hb
theorem ev_ch {g g' : Int → Int → Bool} (ha : EV K M ta σ B L rInt i L1) (hb : EV K M tb σ B L1 rInt j L2) (hc : EV K M tc σ B L2 rInt k L2) : EV K M (tChain (rI0 fun i j => .bl (g i j)) (rI0 fun i j => .bl (g' i j)) ta tb tc) σ B L rBool (g i j && g' j k) L2 := fun B1 H e w Q q =>
  ha B1 H e w _ fun x B2 H2 e2 w2 hx => hb B2 H2 (e.trans e2) w2 _ fun y B3 H3 e3 w3 hy => ⟨i, j, hx, hy, g i j, rfl, by
    cases hg : g i j with
    | true => exact hc B3 H3 ((e.trans e2).trans e3) w3 _ fun z B4 H4 e4 w4 hz => ⟨j, k, hy, hz, q _ B4 H4 ((e2.trans e3).trans e4) w4 (by show V.bl _ = V.bl _; rw [hg]; rfl)⟩
    | false => exact q _ B3 H3 (e2.trans e3) w3 (by show V.bl _ = V.bl _; rw [hg]; rfl)⟩
theorem ev_ch_lt_lt (ha : EV K M ta σ B L rInt i L1) (hb : EV K M tb σ B L1 rInt j L2) (hc : EV K M tc σ B L2 rInt k L2) : EV K M (tChain rLt rLt ta tb tc) σ B L rBool (decide (i < j) && decide (j < k)) L2 := ev_ch (g := fun i j => decide (i < j)) (g' := fun i j => decide (i < j)) ha hb hc
theorem ev_ch_le_lt (ha : EV K M ta σ B L rInt i L1) (hb : EV K M tb σ B L1 rInt j L2) (hc : EV K M tc σ B L2 rInt k L2) : EV K M (tChain rLe rLt ta tb tc) σ B L rBool (decide (i ≤ j) && decide (j < k)) L2 := ev_ch (g := fun i j => decide (i ≤ j)) (g' := fun i j => decide (i < j)) ha hb hc
theorem ev_ch_lt_le (ha : EV K M ta σ B L rInt i L1) (hb : EV K M tb σ B L1 rInt j L2) (hc : EV K M tc σ B L2 rInt k L2) : EV K M (tChain rLt rLe ta tb tc) σ B L rBool (decide (i < j) && decide (j ≤ k)) L2 := ev_ch (g := fun i j => decide (i < j)) (g' := fun i j => decide (i ≤ j)) ha hb hc
theorem ev_ch_le_le (ha : EV K M ta σ B L rInt i L1) (hb : EV K M tb σ B L1 rInt j L2) (hc : EV K M tc σ B L2 rInt k L2) : EV K M (tChain rLe rLe ta tb tc) σ B L rBool (decide (i ≤ j) && decide (j ≤ k)) L2 := ev_ch (g := fun i j => decide (i ≤ j)) (g' := fun i j => decide (i ≤ j)) ha hb hc
theorem ev_and0 {d : Bool} (h1 : EV K M ta σ B L rBool b L1) (h2 : b = true → EV K M tb σ B L1 rBool d L1) : EV K M (tAndV ta tb) σ B L rBool (b && d) L1 := fun B1 H e w Q q => h1 B1 H e w _ fun x B2 H2 e2 w2 hx => ⟨b, hx, by
  cases b with
  | true => exact h2 rfl B2 H2 (e.trans e2) w2 Q fun v B3 H3 e3 w3 hv => q v B3 H3 (e2.trans e3) w3 hv
  | false => exact q _ B2 H2 e2 w2 rfl⟩
theorem ev_or0 {d : Bool} (h1 : EV K M ta σ B L rBool b L1) (h2 : b = false → EV K M tb σ B L1 rBool d L1) : EV K M (tOrV ta tb) σ B L rBool (b || d) L1 := fun B1 H e w Q q => h1 B1 H e w _ fun x B2 H2 e2 w2 hx => ⟨b, hx, by
  cases b with
  | true => exact q _ B2 H2 e2 w2 rfl
  | false => exact h2 rfl B2 H2 (e.trans e2) w2 Q fun v B3 H3 e3 w3 hv => q v B3 H3 (e2.trans e3) w3 hv⟩
/-! ### targets -/
variable {H : Hp} {Qs : St → Hp → Prop} {g : TG} {gs : TGs}
theorem g_T2 {a : α × β} {v : V} {gs : TGs} (h : (rT2 r s).is K B v a) (w : Own K B M L H) (q : ∀ x y, r.is K B x a.1 → s.is K B y a.2 → gs [x, y] σ H Qs) : gTup K 2 gs v σ H Qs := by
  obtain ⟨p, x, y, rfl, h1, h2, h3⟩ := h
  exact ⟨p, _, rfl, ex_t w.b h1, rfl, q x y h2 h3⟩
theorem g_T3 {a : α × β × γ} {v : V} {gs : TGs} (h : (rT3 r s t).is K B v a) (w : Own K B M L H) (q : ∀ x y z, r.is K B x a.1 → s.is K B y a.2.1 → t.is K B z a.2.2 → gs [x, y, z] σ H Qs) : gTup K 3 gs v σ H Qs := by
  obtain ⟨p, x, y, z, rfl, h1, h2, h3, h4⟩ := h
  exact ⟨p, _, rfl, ex_t w.b h1, rfl, q x y z h2 h3 h4⟩
theorem g_cons {v : V} {vs : List V} (h : g v σ H fun σ' H' => gs vs σ' H' Qs) : gCons g gs (v :: vs) σ H Qs := ⟨v, vs, rfl, h⟩
theorem g_name {n : Nat} {v : V} (h : Qs (σ.set n (some v)) H) : gName n v σ H Qs := h
theorem g_nil (h : Qs σ H) : gNil [] σ H Qs := ⟨rfl, h⟩
/-! ### more statements -/
variable {D : Ends} {tz t1 t2 : TS}
theorem q_aug {n : Nat} {v : V} {f : Int → Int → Int} (w : Own K B M L H) (hs : σ[n]? = some (some v)) (hv : v = .int i) (h : EV K M te σ B L rInt j L') (q : ∀ v B' H', Ex B B' → Own K B' M L' H' → rInt.is K B' v (f i j) → tz D (σ.set n (some v)) H') : tSeq (tAug n te (ipI f)) tz D σ H :=
  ⟨v, hs, h B H (Ex.refl _) w _ fun y B' H' e w' hy => ⟨i, j, hv, hy, q _ B' H' e w' rfl⟩⟩
theorem q_unp {a : α} (w : Own K B M L H) (h : EV K M te σ B L r a L') (q : ∀ v B' H', Ex B B' → Own K B' M L' H' → r.is K B' v a → g v σ H' (tz D)) : tSeq (tAsg te g) tz D σ H := h B H (Ex.refl _) w _ q
def Stp.out {S R : Type} : Stp S R → S ⊕ R
  | .nx s => .inl s
  | .bk s => .inl s
  | .rt q => .inr q
def Stp.st {S : Type} : Stp S Empty → S
  | .nx s => s
  | .bk s => s
  | .rt q => nomatch q
def loopR {S R α : Type} (f : S → α → Option (Stp S R)) (s : S) (xs : List α) : Option (S ⊕ R) := (loopM f s xs).map Stp.out
def loopB {S α : Type} (f : S → α → Option (Stp S Empty)) (s : S) (xs : List α) : Option S := (loopM f s xs).map Stp.st
theorem q_forR {S R : Type} {wi : TI} {g : TG} {tb : TS} {xs : List α} (w : Own K B M L H) (hi : EI K M wi σ B L r xs L1) (f : S → α → Option (Stp S R)) (P : S → Hp → St → Prop) (Lf : S → List Cell) (s0 : S) {o : S ⊕ R} (hm : loopR f s0 xs = some o)
    (h0 : ∀ B', Ex B B' → P s0 B' σ) (hL : Lf s0 = L1)
    (hs : ∀ s x st v B0 B' H' σ', f s x = some st → Ex B B0 → P s B0 σ' → Ex B0 B' → Own K B' M (Lf s) H' → r.is K B' v x → (∀ q, st = .rt q → o = .inr q) → ∀ (N : St → Hp → Prop) (BK : St → Hp → Prop),
      (∀ s3 B3 H3 σ3, st = .nx s3 → Ex B' B3 → Own K B3 M (Lf s3) H3 → P s3 B3 σ3 → N σ3 H3) → (∀ s3 B3 H3 σ3, st = .bk s3 → Ex B' B3 → Own K B3 M (Lf s3) H3 → P s3 B3 σ3 → BK σ3 H3) →
      g v σ' H' fun σ2 H2 => tb { D with nx := N, ct := N, bk := BK } σ2 H2)
    (hd : ∀ s B' H' σ', o = .inl s → Ex B B' → Own K B' M (Lf s) H' → P s B' σ' → tz D σ' H') : tSeq (tFor wi g tb) tz D σ H := by
  unfold loopR at hm
  cases h : loopM f s0 xs with
  | none => rw [h] at hm; cases hm
  | some o' =>
    rw [h] at hm
    have hm : o'.out = o := Option.some.inj hm
    refine q_for w hi f P Lf s0 h h0 hL (fun s x st v B0 B' H' σ' a1 a2 a3 a4 a5 a6 a7 => hs s x st v B0 B' H' σ' a1 a2 a3 a4 a5 a6 fun q e => ?_) fun s B' H' σ' a1 => hd s B' H' σ' ?_
    · rw [← hm, a7 q e]; rfl
    · rcases a1 with rfl | rfl
      · exact hm.symm
      · exact hm.symm
theorem q_forB {S : Type} {wi : TI} {g : TG} {tb : TS} {xs : List α} (w : Own K B M L H) (hi : EI K M wi σ B L r xs L1) (f : S → α → Option (Stp S Empty)) (P : S → Hp → St → Prop) (Lf : S → List Cell) (s0 : S) {s1 : S} (hm : loopB f s0 xs = some s1)
    (h0 : ∀ B', Ex B B' → P s0 B' σ) (hL : Lf s0 = L1)
    (hs : ∀ s x st v B0 B' H' σ', f s x = some st → Ex B B0 → P s B0 σ' → Ex B0 B' → Own K B' M (Lf s) H' → r.is K B' v x → ∀ (N : St → Hp → Prop) (BK : St → Hp → Prop),
      (∀ s3 B3 H3 σ3, st = .nx s3 → Ex B' B3 → Own K B3 M (Lf s3) H3 → P s3 B3 σ3 → N σ3 H3) → (∀ s3 B3 H3 σ3, st = .bk s3 → Ex B' B3 → Own K B3 M (Lf s3) H3 → P s3 B3 σ3 → BK σ3 H3) →
      g v σ' H' fun σ2 H2 => tb { D with nx := N, ct := N, bk := BK } σ2 H2)
    (hd : ∀ B' H' σ', Ex B B' → Own K B' M (Lf s1) H' → P s1 B' σ' → tz D σ' H') : tSeq (tFor wi g tb) tz D σ H := by
  unfold loopB at hm
  cases h : loopM f s0 xs with
  | none => rw [h] at hm; cases hm
  | some o' =>
    rw [h] at hm
    have hm : o'.st = s1 := Option.some.inj hm
    refine q_for w hi f P Lf s0 h h0 hL (fun s x st v B0 B' H' σ' a1 a2 a3 a4 a5 a6 _ => hs s x st v B0 B' H' σ' a1 a2 a3 a4 a5 a6) fun s B' H' σ' a1 => ?_
    have e : s1 = s := by
      rcases a1 with rfl | rfl
      · exact hm.symm
      · exact hm.symm
    subst e
    exact hd B' H' σ'
theorem q_fold {S : Type} {wi : TI} {g : TG} {tb : TS} {xs : List α} (w : Own K B M L H) (hi : EI K M wi σ B L r xs L1) (f : S → α → Option S) (P : S → Hp → St → Prop) (Lf : S → List Cell) (s0 : S) {s1 : S} (hm : foldO f s0 xs = some s1)
    (h0 : ∀ B', Ex B B' → P s0 B' σ) (hL : Lf s0 = L1)
    (hs : ∀ s x s' v B0 B' H' σ', f s x = some s' → Ex B B0 → P s B0 σ' → Ex B0 B' → Own K B' M (Lf s) H' → r.is K B' v x → ∀ (N : St → Hp → Prop) (BK : St → Hp → Prop),
      (∀ B3 H3 σ3, Ex B' B3 → Own K B3 M (Lf s') H3 → P s' B3 σ3 → N σ3 H3) →
      g v σ' H' fun σ2 H2 => tb { D with nx := N, ct := N, bk := BK } σ2 H2)
    (hd : ∀ B' H' σ', Ex B B' → Own K B' M (Lf s1) H' → P s1 B' σ' → tz D σ' H') : tSeq (tFor wi g tb) tz D σ H := by
  have h := loop_fold (R := Empty) f xs s0
  rw [hm] at h
  refine q_for w hi _ P Lf s0 h h0 hL (fun s x st v B0 B' H' σ' a1 a2 a3 a4 a5 a6 _ N BK hN hB => ?_) fun s B' H' σ' a1 => ?_
  · cases e : f s x with
    | none => rw [e] at a1; cases a1
    | some s' =>
      rw [e] at a1
      have a1 : st = .nx s' := (Option.some.inj a1).symm
      exact hs s x s' v B0 B' H' σ' e a2 a3 a4 a5 a6 N BK fun B3 H3 σ3 => hN s' B3 H3 σ3 a1
  · have e : s1 = s := by
      rcases a1 with h | h
      · cases h; rfl
      · cases h
    subst e
    exact hd B' H' σ'
end
/-- a def that may be called by its name -/
structure Cl (P : Program) (w : World) (K : Fg) (mg : Str → Option Value) (base : Heap) (k : Nat) (x : Str) (sp : Sp) (dvs : List V) : Prop where
  ex : ∃ (f : Addr) (fd : FuncData) (ps : List Str) (ds : List Value), FnOk P w K mg base CX0 k f fd ps sp ∧ mg x = some (.ref f) ∧ PySem.W.keepIn K (.ref f) = true ∧ Binds K fd ps ds ∧ Vals dvs ds
theorem pe_c {X : Cx} {k j : Nat} {x : Str} {sp : Sp} {dvs : List V} {p pos : Pos} {e : Expr} {es : List Expr} {t : TA} (c : Cl X.prog X.w X.K X.mg X.base k x sp dvs) (hr : Room j X.A) (hk : k ≤ j) (hg : Gl X x) (ha : PA X (e :: es) t)
    (hdb : (x == ("__debug__" : Str)) = false := by decide) (he : starEach (e :: es) X.env = (false, eval e X.env) :: starEach es X.env := by rfl) (hpl : (backTo pos (starEach es X.env)).any (·.1) = false := by rfl) :
    PE X (.Call (.Name x p) (e :: es) [] pos) (tCall sp dvs E0 t) := by
  obtain ⟨f, fd, ps, ds, F, hm, kp, b, d⟩ := c.ex
  exact pe_call F (hr.mono hk) hg hm kp b d pass0 ha hdb he hpl
theorem bt_len : bootBuiltins "len" = some (.builtin "len") := by decide +kernel
theorem bt_abs : bootBuiltins "abs" = some (.builtin "abs") := by decide +kernel
theorem bt_int : bootBuiltins "int" = some (.type "int") := by decide +kernel
theorem bt_isinstance : bootBuiltins "isinstance" = some (.builtin "isinstance") := by decide +kernel
theorem bt_sum : bootBuiltins "sum" = some (.builtin "sum") := by decide +kernel
theorem bt_any : bootBuiltins "any" = some (.builtin "any") := by decide +kernel
theorem bt_all : bootBuiltins "all" = some (.builtin "all") := by decide +kernel
theorem bt_list : bootBuiltins "list" = some (.type "list") := by decide +kernel
theorem bt_bool : bootBuiltins "bool" = some (.type "bool") := by decide +kernel
theorem bt_tuple : bootBuiltins "tuple" = some (.type "tuple") := by decide +kernel
theorem bt_sorted : bootBuiltins "sorted" = some (.builtin "sorted") := by decide +kernel
theorem bt_set : bootBuiltins "set" = some (.type "set") := by decide +kernel
theorem bt_str : bootBuiltins "str" = some (.type "str") := by decide +kernel
theorem bt_max : bootBuiltins "max" = some (.builtin "max") := by decide +kernel
theorem bt_min : bootBuiltins "min" = some (.builtin "min") := by decide +kernel
theorem bt_enumerate : bootBuiltins "enumerate" = some (.type "enumerate") := by decide +kernel
theorem bt_zip : bootBuiltins "zip" = some (.type "zip") := by decide +kernel
theorem bt_dict : bootBuiltins "dict" = some (.type "dict") := by decide +kernel
theorem room_hu {A : Around} {k : Nat} (hr : Room k A) : A.units + 64 < cLine := hr.units
theorem nn_rInt {K : Fg} {B : Hp} {v : V} {x : Int} (h : rInt.is K B v x) : v ≠ .non := by
  have h : v = .int x := h
  subst h; intro e; cases e
end L3

namespace L3
open PySem L2
open Evl (Ex ex_rd ex_l ex_t sq_of st_of fresh_back)

/-! ### data of any form -/
theorem exl {K : Fg} {B B' : Hp} {a : Addr} {xs : List V} (e : Ex B B') (h : SqL K B a xs) : SqL K B' a xs := ex_l e h
mutual
theorem dp_mono {K : Fg} {B B' : Hp} (e : Ex B B') : ∀ {v : V} {d : PyData}, Dp K B v d → Dp K B' v d
  | _, _, .non => .non
  | _, _, .bl b => .bl b
  | _, _, .int i => .int i
  | _, _, .str x => .str x
  | _, _, .lst h t => .lst (ex_l e h) (dpAll_mono e t)
  | _, _, .tup h t => .tup (ex_t e h) (dpAll_mono e t)
theorem dpAll_mono {K : Fg} {B B' : Hp} (e : Ex B B') : ∀ {vs : List V} {ds : List PyData}, DpAll K B vs ds → DpAll K B' vs ds
  | _, _, .nil => .nil
  | _, _, .cons h t => .cons (dp_mono e h) (dpAll_mono e t)
end
def rDat : Rep PyData := ⟨fun K B v d => Dp K B v d, fun e h => dp_mono e h⟩
theorem dpAll_paired {K : Fg} {B : Hp} : ∀ {vs : List V} {ds : List PyData}, DpAll K B vs ds → Paired (rDat.is K B) vs ds
  | _, _, .nil => .nil
  | _, _, .cons h t => .cons h (dpAll_paired t)
theorem dpAll_of {K : Fg} {B : Hp} {α : Type} {r : Rep α} {f : α → PyData} (h : ∀ v a, r.is K B v a → Dp K B v (f a)) : ∀ {vs : List V} {as : List α}, Paired (r.is K B) vs as → DpAll K B vs (as.map f)
  | _, _, .nil => .nil
  | _, _, .cons r t => .cons (h _ _ r) (dpAll_of h t)
/-- typed data as data -/
structure DR {α : Type} (r : Rep α) (f : α → PyData) (n : Nat) : Prop where
  dp : ∀ K B v a, r.is K B v a → Dp K B v (f a)
  lay : ∀ a, (f a).canLay0 = true
  dep : ∀ a, (f a).depth ≤ n
  eqv : ∀ a b, PyData.eqv (f a) (f b) = true ↔ a = b
  inj : ∀ a b, f a = f b → a = b
theorem layAll {α : Type} {f : α → PyData} (h : ∀ a, (f a).canLay0 = true) : ∀ l : List α, PyData.canLayAll0 (l.map f) = true
  | [] => rfl
  | a :: l => by simp only [List.map_cons, PyData.canLayAll0, h a, layAll h l, Bool.and_self]
theorem depAll {α : Type} {f : α → PyData} {n : Nat} (h : ∀ a, (f a).depth ≤ n) : ∀ l : List α, PyData.depthAll (l.map f) ≤ n
  | [] => by simp [PyData.depthAll]
  | a :: l => by simp only [List.map_cons, PyData.depthAll]; have := h a; have := depAll h l; omega
theorem eqvAll {α : Type} {f : α → PyData} (h : ∀ a b, PyData.eqv (f a) (f b) = true ↔ a = b) : ∀ l m : List α, PyData.eqvAll (l.map f) (m.map f) = true ↔ l = m
  | [], [] => by simp [PyData.eqvAll]
  | [], b :: m => by simp [PyData.eqvAll]
  | a :: l, [] => by simp [PyData.eqvAll]
  | a :: l, b :: m => by simp only [List.map_cons, PyData.eqvAll, Bool.and_eq_true, h a b, eqvAll h l m, List.cons.injEq]
theorem map_inj {α β : Type} {f : α → β} (h : ∀ a b, f a = f b → a = b) : ∀ l m : List α, l.map f = m.map f → l = m
  | [], [], _ => rfl
  | [], _ :: _, e => by simp at e
  | _ :: _, [], e => by simp at e
  | a :: l, b :: m, e => by
    rw [List.map_cons, List.map_cons, List.cons.injEq] at e
    rw [h _ _ e.1, map_inj h l m e.2]
theorem dr_int : DR rInt PyData.int 1 := ⟨fun _ _ _ a h => by have h : _ = V.int a := h; subst h; exact .int a, fun _ => rfl, fun _ => by simp [PyData.depth], fun a b => by simp [PyData.eqv], fun a b h => by injection h⟩
theorem dr_bool : DR rBool PyData.bool 1 := ⟨fun _ _ _ a h => by have h : _ = V.bl a := h; subst h; exact .bl a, fun _ => rfl, fun _ => by simp [PyData.depth], fun a b => by simp [PyData.eqv], fun a b h => by injection h⟩
def dNon : Unit → PyData := fun _ => .none
theorem dr_non : DR rNon dNon 1 := ⟨fun _ _ _ a h => by have h : _ = V.non := h; subst h; exact .non, fun _ => rfl, fun _ => by simp [PyData.depth, dNon], fun a b => by simp [PyData.eqv, dNon], fun a b h => rfl⟩
def dTup {α : Type} (f : α → PyData) (l : List α) : PyData := .tuple (l.map f)
def dLst {α : Type} (f : α → PyData) (l : List α) : PyData := .list (l.map f)
def dT2 {α β : Type} (f : α → PyData) (g : β → PyData) (a : α × β) : PyData := .tuple [f a.1, g a.2]
def dT3 {α β γ : Type} (f : α → PyData) (g : β → PyData) (h : γ → PyData) (a : α × β × γ) : PyData := .tuple [f a.1, g a.2.1, h a.2.2]
def dOpt {α : Type} (f : α → PyData) : Option α → PyData
  | none => .none
  | some a => f a
section
variable {α β γ : Type} {r : Rep α} {s : Rep β} {t : Rep γ} {f : α → PyData} {g : β → PyData} {h : γ → PyData} {n m k : Nat}
theorem dr_tup (d : DR r f n) : DR (rTup r) (dTup f) (n + 1) := ⟨fun K B v a ⟨p, xs, h1, h2, h3⟩ => by subst h1; exact .tup h2 (dpAll_of (d.dp K B) h3), fun a => by simpa [dTup, PyData.canLay0] using layAll d.lay a,
  fun a => by have := depAll d.dep a; simp only [dTup, PyData.depth]; omega, fun a b => by simpa [dTup, PyData.eqv] using eqvAll d.eqv a b, fun a b e => by unfold dTup at e; injection e with e; exact map_inj d.inj a b e⟩
theorem dr_lst (d : DR r f n) : DR (rLst r) (dLst f) (n + 1) := ⟨fun K B v a ⟨p, xs, h1, h2, h3⟩ => by subst h1; exact .lst (sq_of h2) (dpAll_of (d.dp K B) h3), fun a => by simpa [dLst, PyData.canLay0] using layAll d.lay a,
  fun a => by have := depAll d.dep a; simp only [dLst, PyData.depth]; omega, fun a b => by simpa [dLst, PyData.eqv] using eqvAll d.eqv a b, fun a b e => by unfold dLst at e; injection e with e; exact map_inj d.inj a b e⟩
theorem dr_T2 (d : DR r f n) (e : DR s g m) : DR (rT2 r s) (dT2 f g) (max n m + 1) := ⟨fun K B v a ⟨p, x, y, h1, h2, h3, h4⟩ => by subst h1; exact .tup h2 (.cons (d.dp _ _ _ _ h3) (.cons (e.dp _ _ _ _ h4) .nil)),
  fun a => by simp [dT2, PyData.canLay0, PyData.canLayAll0, d.lay, e.lay], fun a => by have := d.dep a.1; have := e.dep a.2; simp only [dT2, PyData.depth, PyData.depthAll]; omega,
  fun a b => by simp only [dT2, PyData.eqv, PyData.eqvAll, Bool.and_true, Bool.and_eq_true, d.eqv, e.eqv]; exact ⟨fun ⟨x, y⟩ => Prod.ext x y, fun e => by rw [e]; exact ⟨rfl, rfl⟩⟩,
  fun a b q => by unfold dT2 at q; injection q with q; injection q with q1 q2; injection q2 with q2 _; exact Prod.ext (d.inj _ _ q1) (e.inj _ _ q2)⟩
theorem dr_T3 (d : DR r f n) (e : DR s g m) (c : DR t h k) : DR (rT3 r s t) (dT3 f g h) (max n (max m k) + 1) := ⟨fun K B v a ⟨p, x, y, z, h1, h2, h3, h4, h5⟩ => by subst h1; exact .tup h2 (.cons (d.dp _ _ _ _ h3) (.cons (e.dp _ _ _ _ h4) (.cons (c.dp _ _ _ _ h5) .nil))),
  fun a => by simp [dT3, PyData.canLay0, PyData.canLayAll0, d.lay, e.lay, c.lay], fun a => by have := d.dep a.1; have := e.dep a.2.1; have := c.dep a.2.2; simp only [dT3, PyData.depth, PyData.depthAll]; omega,
  fun a b => by simp only [dT3, PyData.eqv, PyData.eqvAll, Bool.and_true, Bool.and_eq_true, d.eqv, e.eqv, c.eqv]; exact ⟨fun ⟨x, y, z⟩ => Prod.ext x (Prod.ext y z), fun e => by rw [e]; exact ⟨rfl, rfl, rfl⟩⟩,
  fun a b q => by unfold dT3 at q; injection q with q; injection q with q1 q2; injection q2 with q2 q3; injection q3 with q3 _; exact Prod.ext (d.inj _ _ q1) (Prod.ext (e.inj _ _ q2) (c.inj _ _ q3))⟩
theorem DR.dec [DecidableEq α] (d : DR r f n) (a b : α) : PyData.eqv (f a) (f b) = decide (a = b) := by
  rw [Bool.eq_iff_iff, d.eqv, decide_eq_true_iff]
theorem DR.sh (d : DR r f n) (hn : n ≤ 64) (a : α) : SeqAt.shaped (f a) = true := by
  unfold SeqAt.shaped
  rw [d.lay a, decide_eq_true (Nat.le_trans (d.dep a) hn)]; rfl
end
/-! ### operations on data -/
def isNoneD : PyData → Bool
  | .none => true
  | _ => false
def isBoolD : PyData → Bool
  | .bool _ => true
  | _ => false
def isIntD : PyData → Bool
  | .bool _ => true
  | .int _ => true
  | _ => false
def isStrD : PyData → Bool
  | .str _ => true
  | _ => false
def isTupD : PyData → Bool
  | .tuple _ => true
  | _ => false
def isLstD : PyData → Bool
  | .list _ => true
  | _ => false
def tyName : PyData → String
  | .none => "NoneType"
  | .bool _ => "bool"
  | .int _ => "int"
  | .str _ => "str"
  | .list _ => "list"
  | .tuple _ => "tuple"
  | .dict _ => "dict"
def eqvD (a b : PyData) : Option Bool := if SeqAt.shaped a = true ∧ SeqAt.shaped b = true then some (PyData.eqv a b) else none
def lenD : PyData → Option Int
  | .list xs => some xs.length
  | .tuple xs => some xs.length
  | _ => none
def ixD : PyData → Int → Option PyData
  | .list xs, i => atI xs i
  | .tuple xs, i => atI xs i
  | _, _ => none
theorem dp_ty {K : Fg} {B H : Hp} {v : V} {d : PyData} (e : Ex B H) (h : Dp K B v d) : TyX K H v (.type (tyName d)) := by
  cases h with
  | non => exact .base .non
  | bl b => exact .base (.bl b)
  | int i => exact .base (.int i)
  | str x => exact .base (.str x)
  | lst h t =>
    rcases ex_l e h with (h | ⟨o, h⟩) | ⟨o, its, n, h, hc, _⟩
    · exact .base (.lst h)
    · exact .base (.frz h)
    · exact .kList h hc
  | tup h t =>
    rcases ex_t e h with (h | ⟨o, h⟩) | ⟨o, its, n, h, hc, _⟩
    · exact .base (.tup h)
    · exact .fTuple h
    · exact .kTuple h hc
section
variable {K : Fg} {M : Fr} {σ : St} {B : Hp} {L L1 L2 L' : List Cell} {α β γ δ : Type} {r : Rep α} {s : Rep β} {t : Rep γ} {ta tb tc te : TE} {tt tu : TT} {tA : TA} {i j k : Int} {b c : Bool} {d d' : PyData}
theorem ev_dat {f : α → PyData} {n : Nat} {a : α} (h : EV K M te σ B L r a L') (D : DR r f n) : EV K M te σ B L rDat (f a) L' := ev_as h fun _ _ h => D.dp _ _ _ _ h
theorem ev_isND (ha : EV K M ta σ B L rDat d L1) : EV K M (tIsN ta) σ B L rBool (isNoneD d) L1 := fun B1 H e w Q q =>
  ha B1 H e w _ fun x B2 H2 e2 w2 hx => q _ B2 H2 e2 w2 (by
    show V.bl _ = V.bl _
    congr 1
    have hx : Dp K B2 x d := hx
    cases hx <;> rfl)
theorem ev_isi (T : String) (g : PyData → Bool) (hg : ∀ n d, tyName d = n → kitB n T = some (g d)) (ha : EV K M ta σ B L rDat d L1) : EV K M (tCB (rIsi K) (tCons ta (tCons (tC (.ty T)) tNil))) σ B L rBool (g d) L1 := fun B1 H e w Q q =>
  ha B1 H e w _ fun x B2 H2 e2 w2 hx => ⟨x, .ty T, .type (tyName d), .type T, g d, rfl, .ty T, dp_ty w2.b hx, kit_ty (hg _ d rfl), q _ B2 H2 e2 w2 rfl⟩
def kt (T : String) (g : String → Bool) : Bool := (kitB "NoneType" T == some (g "NoneType")) && (kitB "bool" T == some (g "bool")) && (kitB "int" T == some (g "int")) && (kitB "str" T == some (g "str")) && (kitB "list" T == some (g "list")) && (kitB "tuple" T == some (g "tuple")) && (kitB "dict" T == some (g "dict"))
theorem kt_of {T : String} {g : String → Bool} (h : kt T g = true) (d : PyData) : kitB (tyName d) T = some (g (tyName d)) := by
  unfold kt at h
  simp only [Bool.and_eq_true, beq_iff_eq] at h
  cases d <;> simp only [tyName] <;> simp_all
theorem isi_bool : ∀ n d, tyName d = n → kitB n "bool" = some (isBoolD d) := fun n d e => by
  subst e
  rw [kt_of (g := fun n => n == "bool") (by decide +kernel) d]
  cases d <;> rfl
theorem isi_int : ∀ n d, tyName d = n → kitB n "int" = some (isIntD d) := fun n d e => by
  subst e
  rw [kt_of (g := fun n => n == "bool" || n == "int") (by decide +kernel) d]
  cases d <;> rfl
theorem isi_str : ∀ n d, tyName d = n → kitB n "str" = some (isStrD d) := fun n d e => by
  subst e
  rw [kt_of (g := fun n => n == "str") (by decide +kernel) d]
  cases d <;> rfl
theorem isi_tuple : ∀ n d, tyName d = n → kitB n "tuple" = some (isTupD d) := fun n d e => by
  subst e
  rw [kt_of (g := fun n => n == "tuple") (by decide +kernel) d]
  cases d <;> rfl
theorem isi_list : ∀ n d, tyName d = n → kitB n "list" = some (isLstD d) := fun n d e => by
  subst e
  rw [kt_of (g := fun n => n == "list") (by decide +kernel) d]
  cases d <;> rfl
theorem ev_eqvD (ha : EV K M ta σ B L rDat d L1) (hb : EV K M tb σ B L1 rDat d' L2) (h : eqvD d d' = some b) : EV K M (tOp (rEqD K) ta tb) σ B L rBool b L2 :=
  ev_op ha hb fun B1 H1 x y Q w hx hy q => by
    unfold eqvD at h
    split at h
    · rename_i hc
      exact ⟨d, d', dp_mono w.b hx, dp_mono w.b hy, hc.1, hc.2, q _ (by rw [Option.some.inj h]; rfl)⟩
    · cases h
/-- == of typed data -/
theorem ev_eqT {f : α → PyData} {n : Nat} {a a' : α} [DecidableEq α] (D : DR r f n) (hn : n ≤ 64) (ha : EV K M ta σ B L r a L1) (hb : EV K M tb σ B L1 r a' L2) : EV K M (tOp (rEqD K) ta tb) σ B L rBool (decide (a = a')) L2 :=
  ev_op ha hb fun B1 H1 x y Q w hx hy q => ⟨f a, f a', dp_mono w.b (D.dp _ _ _ _ hx), dp_mono w.b (D.dp _ _ _ _ hy), D.sh hn a, D.sh hn a', q _ (by rw [D.dec]; rfl)⟩
theorem ev_neT {f : α → PyData} {n : Nat} {a a' : α} [DecidableEq α] (D : DR r f n) (hn : n ≤ 64) (ha : EV K M ta σ B L r a L1) (hb : EV K M tb σ B L1 r a' L2) : EV K M (tOp (rNeD K) ta tb) σ B L rBool (!decide (a = a')) L2 :=
  ev_op ha hb fun B1 H1 x y Q w hx hy q => ⟨f a, f a', dp_mono w.b (D.dp _ _ _ _ hx), dp_mono w.b (D.dp _ _ _ _ hy), D.sh hn a, D.sh hn a', q _ (by rw [D.dec]; rfl)⟩
theorem dpAll_len {vs : List V} {ds : List PyData} (h : DpAll K B vs ds) : vs.length = ds.length := paired_len (dpAll_paired h)
theorem ev_lenD (ha : EV K M ta σ B L rDat d L1) (h : lenD d = some i) : EV K M (tCB (rLen K) (tCons ta tNil)) σ B L rInt i L1 :=
  ev_cb1 ha fun B1 H1 x Q w hx q => by
    have hx : Dp K B1 x d := hx
    cases hx with
    | lst h1 t =>
      rw [← (Option.some.inj h : _ = i)] at q
      exact ⟨_, _, rfl, .inl (ex_l w.b h1), q _ (by rw [dpAll_len t]; rfl)⟩
    | tup h1 t =>
      rw [← (Option.some.inj h : _ = i)] at q
      exact ⟨_, _, rfl, .inr (ex_t w.b h1), q _ (by rw [dpAll_len t]; rfl)⟩
    | _ => cases h
theorem ev_ixD (ha : EV K M ta σ B L rDat d L1) (hb : EV K M tb σ B L1 rInt i L2) (h : ixD d i = some d') : EV K M (tOp (rIx K) ta tb) σ B L rDat d' L2 :=
  ev_op ha hb fun B1 H1 x y Q w hx hy q => by
    have hx : Dp K B1 x d := hx
    cases hx with
    | lst h1 t =>
      obtain ⟨z, e, hz⟩ := atI_paired (dpAll_paired t) h
      exact .inl ⟨_, _, i, z, rfl, hy, ex_l w.b h1, e, q _ hz⟩
    | tup h1 t =>
      obtain ⟨z, e, hz⟩ := atI_paired (dpAll_paired t) h
      exact .inr (.inl ⟨_, _, i, z, rfl, hy, ex_t w.b h1, e, q _ hz⟩)
    | _ => cases h
end
/-- nothing is promised: at any level -/
theorem fn_none {P : Program} {w : World} {K : Fg} {mg : Str → Option Value} {base : Heap} {k : Nat} {f : Addr} {fd : FuncData} {ps : List Str} {T : List Addr} {C : List Arg → List Cell → Arg → List Cell → Prop} (h : ∀ as L r L', ¬ C as L r L') : FnOk P w K mg base CX0 k f fd ps (spV K T C) :=
  ⟨fun vs H Q E ⟨_, _, _, _, _, _, _, _, _, c, _⟩ => (h _ _ _ _ c).elim, fun A outer s H args us vs Q E _ _ _ _ ⟨_, _, _, _, _, _, _, _, _, c, _⟩ => (h _ _ _ _ c).elim⟩
end L3

namespace L3
open PySem L2

/-! ### the mirrors: they answer, and the answer is as told -/
def Yes {α : Type} (o : Option α) (P : α → Prop) : Prop := ∃ a, o = some a ∧ P a
section
variable {α β S R : Type} {o : Option α} {P Q : α → Prop} {i j : Int}
theorem Yes.mono (h : Yes o P) (f : ∀ a, P a → Q a) : Yes o Q := by obtain ⟨a, h1, h2⟩ := h; exact ⟨a, h1, f a h2⟩
theorem y_some {a : α} (h : P a) : Yes (some a) P := ⟨a, rfl, h⟩
theorem y_bind {f : α → Option β} {T : β → Prop} (h : Yes o Q) (k : ∀ a, Q a → Yes (f a) T) : Yes (Option.bind o f) T := by
  obtain ⟨a, rfl, h2⟩ := h
  exact k a h2
theorem y_eq {a : α} {f : α → Option β} {T : β → Prop} (h : o = some a) (k : Yes (f a) T) : Yes (Option.bind o f) T := by
  subst h; exact k
theorem y_if {c : Prop} [Decidable c] {p q : Option α} (h1 : c → Yes p P) (h2 : ¬ c → Yes q P) : Yes (if c then p else q) P := by
  split
  · exact h1 (by assumption)
  · exact h2 (by assumption)
theorem y_and {c : Prop} [Decidable c] {p q : Option α} (h1 : c → p = q) : (if c then p else q) = q := by
  split
  · exact h1 (by assumption)
  · rfl
theorem mulI_l (h1 : -(2 ^ 64) < i) (h2 : i < 2 ^ 64) : mulI i j = some (i * j) := if_pos (Or.inl (Or.inl ⟨h1, h2⟩))
theorem mulI_r (h1 : -(2 ^ 64) < j) (h2 : j < 2 ^ 64) : mulI i j = some (i * j) := if_pos (Or.inl (Or.inr ⟨h1, h2⟩))
theorem mulI_w {a b : Nat} (ha : i.natAbs < 2 ^ a) (hb : j.natAbs < 2 ^ b) (h0 : 0 < a) (h1 : 0 < b) (h : a + b ≤ 1000000) : mulI i j = some (i * j) := if_pos (Or.inr (wide_mul ha hb h0 h1 h))
theorem divI_s (h1 : 0 < j) (h2 : j < 2 ^ 64) : divI i j = some (i / j) := if_pos ⟨h1, by
  have : j.natAbs < 2 ^ 64 := by omega
  have := PySem.Flt.log2_lt_of (by decide) this
  omega⟩
theorem divI_w {b : Nat} (h1 : 0 < j) (hb : j.natAbs < 2 ^ b) (h0 : 0 < b) (h9 : b ≤ 9000) : divI i j = some (i / j) := if_pos (wide_div (i := i) h1 hb h0 h9)
theorem modI_s (h : 0 < j) : modI i j = some (i % j) := if_pos h
theorem room_s {n : Nat} (h : n ≤ 1000000) : room n = some () := if_pos (Nat.lt_of_le_of_lt h (by decide))
theorem small62_s (h1 : -(2 ^ 62) ≤ i) (h2 : i < 2 ^ 62) : small62 i = some () := if_pos ⟨h1, h2⟩
theorem ixL_s {xs : List α} {n : Nat} {a : α} (h : xs[n]? = some a) (hi : i = n) : ixL xs i = some a := by
  subst hi
  unfold ixL atI
  have hl := (List.getElem?_eq_some_iff.mp h).1
  simp [ixN]
  have h2 := (List.getElem?_eq_some_iff.mp h).2
  simp_all
/-- with a number of the item -/
theorem y_foldI (f : S → α → Option S) (I : Nat → S → Prop) {xs : List α} {s : S} (h0 : I 0 s) (hs : ∀ (i : Nat) x s, xs[i]? = some x → I i s → Yes (f s x) (I (i + 1))) : Yes (foldO f s xs) (I xs.length) := by
  induction xs generalizing s I with
  | nil => exact ⟨s, rfl, h0⟩
  | cons x xs ih =>
    obtain ⟨s', h1, h2⟩ := hs 0 x s rfl h0
    unfold foldO
    rw [h1]
    exact ih (fun i => I (i + 1)) h2 fun i y s hy hI => hs (i + 1) y s (by simpa using hy) hI
theorem y_fold (f : S → α → Option S) (I : S → Prop) {xs : List α} {s : S} (h0 : I s) (hs : ∀ x s, x ∈ xs → I s → Yes (f s x) I) : Yes (foldO f s xs) I :=
  y_foldI f (fun _ => I) h0 fun i x s hx hI => hs x s (List.mem_of_getElem? hx) hI
/-- a loop that may return -/
theorem y_loopI (f : S → α → Option (Stp S R)) (I : Nat → S → Prop) (E : Stp S R → Prop) {xs : List α} {s : S} (h0 : I 0 s)
    (hs : ∀ (i : Nat) x s, xs[i]? = some x → I i s → Yes (f s x) fun t => match t with | .nx s' => I (i + 1) s' | t => E t) (hE : ∀ s, I xs.length s → E (.nx s)) : Yes (loopM f s xs) E := by
  induction xs generalizing s I with
  | nil => exact ⟨.nx s, rfl, hE s h0⟩
  | cons x xs ih =>
    obtain ⟨t, h1, h2⟩ := hs 0 x s rfl h0
    unfold loopM
    rw [h1]
    match t, h2 with
    | .nx s', h2 => exact ih (fun i => I (i + 1)) h2 (fun i y s hy hI => hs (i + 1) y s (by simpa using hy) hI) hE
    | .bk s', h2 => exact ⟨_, rfl, h2⟩
    | .rt r, h2 => exact ⟨_, rfl, h2⟩
theorem rng_mem {lo hi : Int} {x : Int} (h : x ∈ rng lo hi) : lo ≤ x ∧ x < hi := by
  obtain ⟨i, hi⟩ := List.getElem?_of_mem h
  obtain ⟨h1, h2⟩ := rng_get hi
  omega
theorem rng_at {lo hi : Int} {i : Nat} {x : Int} (h : (rng lo hi)[i]? = some x) : x = lo + i ∧ lo + i < hi := by
  obtain ⟨h1, h2⟩ := rng_get h
  exact ⟨h2, by omega⟩
theorem y_loopR (f : S → α → Option (Stp S R)) (I : Nat → S → Prop) (E : S ⊕ R → Prop) {xs : List α} {s : S} (h0 : I 0 s)
    (hs : ∀ (i : Nat) x s, xs[i]? = some x → I i s → Yes (f s x) fun t => match t with | .nx s' => I (i + 1) s' | .bk s' => E (.inl s') | .rt r => E (.inr r)) (hE : ∀ s, I xs.length s → E (.inl s)) : Yes (loopR f s xs) E := by
  obtain ⟨t, h1, h2⟩ := y_loopI f I (fun t => match t with | .nx s' => E (.inl s') | .bk s' => E (.inl s') | .rt r => E (.inr r)) h0 (fun i x s hx hI => (hs i x s hx hI).mono fun t ht => by
    cases t <;> exact ht) hE
  unfold loopR
  rw [h1]
  cases t <;> exact ⟨_, rfl, h2⟩
theorem y_loopB (f : S → α → Option (Stp S Empty)) (I : Nat → S → Prop) (E : S → Prop) {xs : List α} {s : S} (h0 : I 0 s)
    (hs : ∀ (i : Nat) x s, xs[i]? = some x → I i s → Yes (f s x) fun t => match t with | .nx s' => I (i + 1) s' | .bk s' => E s' | .rt r => False) (hE : ∀ s, I xs.length s → E s) : Yes (loopB f s xs) E := by
  obtain ⟨t, h1, h2⟩ := y_loopI f I (fun t => match t with | .nx s' => E s' | .bk s' => E s' | .rt r => False) h0 (fun i x s hx hI => (hs i x s hx hI).mono fun t ht => by
    cases t <;> exact ht) hE
  unfold loopB
  rw [h1]
  cases t with
  | nx s => exact ⟨_, rfl, h2⟩
  | bk s => exact ⟨_, rfl, h2⟩
  | rt r => exact h2.elim
end
end L3
namespace L3
open PySem L2
theorem paired_ints {K : Fg} {B : Hp} : ∀ ns : List Int, Paired (rInt.is K B) (ns.map V.int) ns
  | [] => .nil
  | _ :: l => .cons rfl (paired_ints l)
end L3

/-! a generator expression in any, all, sum: what is walked and the element are any -/
namespace L3G
open PySem PySem.Spec PyProof.Rows L2 GxR

structure GSc (sc scope : Scope) : Prop where
  kind : scope.kind = .function
  co : scope.isCoroutine = false
  cell : ∀ y ∈ scope.names, y.2 ≠ .cell
  dot : scope.names.lookup (".0" : Str) = some NameKind.local
  free : ∀ y ∈ scope.names, y.2 = .free → sc.names.lookup y.1 = some .cell ∨ sc.names.lookup y.1 = some .free
def gsB (sc scope : Scope) : Bool :=
  decide (scope.kind = .function) && !scope.isCoroutine && decide (scope.names.lookup (".0" : Str) = some NameKind.local) && scope.names.all fun y => !decide (y.2 = .cell) && (!decide (y.2 = .free) || decide (sc.names.lookup y.1 = some .cell) || decide (sc.names.lookup y.1 = some .free))
theorem gs_by {sc scope : Scope} (h : gsB sc scope = true) : GSc sc scope := by
  unfold gsB at h
  simp only [Bool.and_eq_true, Bool.or_eq_true, Bool.not_eq_true', decide_eq_true_eq, decide_eq_false_iff_not, List.all_eq_true] at h
  obtain ⟨⟨⟨h1, h2⟩, h3⟩, h4⟩ := h
  refine ⟨h1, h2, fun y hy => (h4 y hy).1, h3, fun y hy e => ?_⟩
  rcases (h4 y hy).2 with (z | z) | z
  · exact absurd e z
  · exact .inl z
  · exact .inr z
/-- the slots of the generator's frame: none, or a captured slot -/
def capS (js : List (Option Nat)) (σ : L2.St) : L2.St := js.map fun
  | none => none
  | some j => (σ[j]?).getD none
def capB (N NG : List Str) (scope : Scope) (js : List (Option Nat)) : Bool :=
  decide (js.length = NG.length) && (List.range js.length).all fun i => match js[i]? with
    | some (some j) => (match NG[i]? with
      | some y => decide (N[j]? = some y) && decide (scope.names.lookup y = some .free)
      | none => false)
    | _ => true
theorem capB_at {N NG : List Str} {scope : Scope} {js : List (Option Nat)} (h : capB N NG scope js = true) {σ : L2.St} {i : Nat} {y : Str} {v : V} (hy : NG[i]? = some y) (hv : (capS js σ)[i]? = some (some v)) :
    ∃ j : Nat, N[j]? = some y ∧ σ[j]? = some (some v) ∧ scope.names.lookup y = some .free := by
  unfold capB at h
  rw [Bool.and_eq_true, List.all_eq_true] at h
  unfold capS at hv
  rw [List.getElem?_map] at hv
  cases e : js[i]? with
  | none => rw [e] at hv; cases hv
  | some o =>
    rw [e] at hv
    have hi : i < js.length := (List.getElem?_eq_some_iff.mp e).1
    have q := h.2 i (List.mem_range.mpr hi)
    rw [e, hy] at q
    cases o with
    | none => cases hv
    | some j =>
      have q : (decide (N[j]? = some y) && decide (scope.names.lookup y = some .free)) = true := q
      rw [Bool.and_eq_true, decide_eq_true_eq, decide_eq_true_eq] at q
      refine ⟨j, q.1, ?_, q.2⟩
      have hv : (σ[j]?).getD none = some v := Option.some.inj hv
      cases e2 : σ[j]? with
      | none => rw [e2] at hv; cases hv
      | some u => rw [e2] at hv; exact congrArg some hv
theorem capB_len {N NG : List Str} {scope : Scope} {js : List (Option Nat)} (h : capB N NG scope js = true) : js.length = NG.length := by
  unfold capB at h
  rw [Bool.and_eq_true] at h
  exact of_decide_eq_true h.1

abbrev gEnv (X : Cx) (scope : Scope) (C : Addr) (code : Value) : Env := genEnv scope (cloFrom X.env.cells scope.names []) C code builtinsNs X.env
abbrev gCode (X : Cx) (elt tg iter : Expr) (scope : Scope) (gpos : Pos) (it : Addr) (C : Addr) (code : Value) : Code :=
  .compLoop (.GeneratorExp elt [⟨tg, iter, [], 0⟩] scope gpos) 0 (.ref it) .none (gEnv X scope C code)
abbrev gCode0 (X : Cx) (elt tg iter : Expr) (scope : Scope) (gpos : Pos) (it : Addr) (C : Addr) (code : Value) : Code :=
  .compStart (.GeneratorExp elt [⟨tg, iter, [], 0⟩] scope gpos) 0 (.ref it) .none (gEnv X scope C code)
/-- the Around of the generator's frame -/
abbrev gA (X : Cx) (cenv : Env) : Around := ⟨X.A.handled, X.A.depth + 1, pushEnvs [cenv] X.A.frames, X.A.guards, X.A.units + 5⟩
/-- the context of the generator's frame, made at s -/
abbrev gCx (X : Cx) (s : Shared) (H : Hp) (NG : List Str) (ex : List Addr) (cenv : Env) : Cx where
  prog := X.prog
  w := X.w
  K := X.K
  mg := X.mg
  base := X.base
  A := gA X cenv
  N := NG
  s_0 := s
  H_0 := H
  env := cenv
  outer := X.stack
  stack := cenv :: X.stack
  ex := ex
  fn := fun _ => false
  calm := true
  pn := []
  xe := fun _ _ => False
section
variable {X : Cx} {pins : List (Addr × Obj)} {σ : L2.St} {H : Hp} {s : Shared}
theorem gA_eq (X : Cx) (elt tg iter : Expr) (scope : Scope) (gpos : Pos) (it C : Addr) (code : Value) : X.A.in1.in1.over (gCode X elt tg iter scope gpos it C code) [] = gA X (gEnv X scope C code) := rfl
theorem gA_eq0 (X : Cx) (elt tg iter : Expr) (scope : Scope) (gpos : Pos) (it C : Addr) (code : Value) : X.A.in1.in1.over (gCode0 X elt tg iter scope gpos it C code) [] = gA X (gEnv X scope C code) := rfl
theorem room_g {k : Nat} {cenv : Env} (r : Room (k + 1) X.A) : Room k (gA X cenv) := ⟨r.hd, by have := r.dp; show X.A.depth + 1 + 3 * k + 5 < _; omega, by have := r.un; show X.A.units + 5 + 16 * k + 200 < _; omega⟩
theorem inv_gens {g' : Array GenState} {t' : Nat} (I : Inv X pins σ H s) (hg : AllBare g') : Inv X pins σ H { s with gens := g', toks := t' } :=
  ⟨I.ok, I.os, hg, I.base, I.loc, I.cell, I.free, I.freeC, I.pin, I.hok, I.len⟩
theorem gen_start {NG : List Str} {fp : List Addr} {scope : Scope} {code : Value} {it : Addr} {js : List (Option Nat)} {h₁ : Heap} {g₁ : Array GenState} {tk : Nat} (I : Inv X pins σ H s) (G : GSc X.env.scope scope) (hf : ∀ b ∈ fp, FpOk X pins H b) (hfl : ∀ b ∈ fp, b < s.heap.objs.size) (hd : X.A.handled = none)
    (hns : h₁.Ns s.heap.objs.size fun y => if y = (".0" : Str) then some (.ref it) else none) (kp : ∀ b o, s.heap.get? b = some o → h₁.get? b = some o) (hg : AllBare g₁) (hN : capB X.N NG scope js = true) :
    Inv (gCx X s H NG fp (gEnv X scope s.heap.objs.size code)) [] (capS js σ) H { s with heap := h₁, gens := g₁, toks := tk } := by
  have hfree : ∀ y ∈ scope.names, y.2 = .free → ∃ c, X.env.cells.lookup y.1 = some c := fun y hy e => by
    rcases G.free y hy e with k | k
    · exact I.ok.has _ (.inl k)
    · exact I.ok.has _ (.inr k)
  have cm : ∀ {y c}, (cloFrom X.env.cells scope.names []).lookup y = some c → X.env.cells.lookup y = some c := fun {y c} e => by
    rcases cloFrom_mem (PySem.mem_of_lookup e) with hm | ⟨h1, h2⟩
    · cases hm
    · obtain ⟨c1, hc⟩ := hfree _ h1 rfl
      have hc : X.env.cells.lookup y = some c1 := hc
      have e2 : c = c1 := by
        rw [h2, hc] <;> rfl
      rw [e2]
      exact hc
  have look : ∀ {y}, scope.names.lookup y = some .free → ∃ c, (cloFrom X.env.cells scope.names []).lookup y = some c := fun {y} hl => by
    have hy : (y, NameKind.free) ∈ scope.names := PySem.mem_of_lookup hl
    exact mem_lookup (cloFrom_has (cells := X.env.cells) (acc := []) hy)
  have cellK : ∀ {c : Addr} {v : Option Value}, s.heap.IsCell c v → h₁.IsCell c v := fun {c v} ⟨o, ho, hd⟩ => ⟨o, kp _ _ ho, hd⟩
  refine ⟨⟨I.ok.mod, G.kind, I.ok.glob, rfl, Nat.le_refl _, fun y z c e1 e2 => I.ok.inj y z c (cm e1) (cm e2), fun y hy => ?_, fun y c z _ => ?_, fun _ => hd, ?_, .inr ⟨rfl, rfl⟩, fun b hb => ⟨Nat.ne_of_lt (hfl b hb), fun y c e => (hf b hb).2.2.2.2.1 y c (cm e)⟩, I.bs, Nat.le_trans I.ok.bsz I.sz, fun b o e hb => ?_,
      fun b hb z => ?_, I.stack, I.stkFree⟩,
    rfl, hg, Un.kept kp, ⟨_, hns, fun i y v e1 e2 e3 => ?_⟩, fun y c e => ?_, I.hok.fresh (Nat.le_refl _), fun y c e => I.freeC y c (cm e), fun q hq => absurd (show q ∈ ([] : List (Addr × Obj)) ++ [] from hq) (by simp), I.hok.kept kp, ?_⟩
  · have hy : scope.names.lookup y = some .cell ∨ scope.names.lookup y = some .free := hy
    rcases hy with hy | hy
    · exact absurd rfl (G.cell _ (PySem.mem_of_lookup hy))
    · exact look hy
  · have z : false = true := z
    cases z
  · show pushEnvs [_] X.A.frames = _
    rw [I.ok.frames]
    rfl
  · rcases (hf b hb).2.2.2.1 with z | z
    · exact I.ok.noex b o e z
    · exact absurd (Nat.lt_of_lt_of_le (Heap.lt_size (I.ok.bs b o e).1) z) (Nat.lt_irrefl _)
  · rcases List.mem_cons.mp (I.stkSub b z) with e | e
    · exact (hf b hb).2.1 e
    · exact (hf b hb).2.2.1 e
  · obtain ⟨j, h1, h2, h3⟩ := capB_at hN e1 e2
    obtain ⟨m, hn, hl⟩ := I.loc
    have hfr := G.free _ (PySem.mem_of_lookup h3) rfl
    have hvis : Vis X.env.scope y := hfr.elim (fun k => .inr (.inl k)) (fun k => .inr (.inr k))
    obtain ⟨w', r, q⟩ := hl j y v h1 h2 hvis
    obtain ⟨c2, h4⟩ := look h3
    refine ⟨w', r, .inr ⟨.inr h3, c2, h4, ?_⟩⟩
    have c1 := cm h4
    rcases q with ⟨k', _⟩ | ⟨_, c3, e', z⟩
    · have k' : X.env.scope.names.lookup y = some .local := k'
      rcases hfr with k2 | k2 <;> rw [show X.env.scope.names.lookup y = _ from k2] at k' <;> cases k'
    · rw [c1] at e'
      cases e'
      exact cellK z
  · obtain ⟨w', z⟩ := I.cell y c (cm e)
    exact ⟨w', cellK z⟩
  · show (capS js σ).length = NG.length
    unfold capS
    rw [List.length_map]
    exact capB_len hN
end
/-! ### the run -/
/-- the consumer's own objects -/
def SOk (S : List Addr) (H : Hp) (s : Shared) : Prop := ∀ b ∈ S, H b = none ∧ ∃ o, s.heap.get? b = some o ∧ ∀ v, o.data ≠ .cell v
section
variable (X : Cx) (s0 : Shared) (H0 : Hp) (NG : List Str) (fp : List Addr) (cenv : Env) (a : Addr) (ob : Obj) (S : List Addr) (tn : Nat → Heap → Prop) (N : Nat) (Z : Nat → L2.St → Hp → Prop) (P : Nat → V → L2.St → Hp → Prop) (F : Nat → L2.St → Hp → Prop)
def gR : GenEnd := fun n s₀ r s => r = .ok .next ∧ ∃ i σ H, n + i = N + 1 ∧ F i σ H ∧ Inv (gCx X s0 H0 NG fp cenv) ([(a, ob)] ++ pinsAt S s₀.heap) σ H s
def gY : Protocol := fun n s₀ v s kap => ∃ i y σ H, n + i = N ∧ i < N ∧ RelV y v ∧ P i y σ H ∧ Inv (gCx X s0 H0 NG fp cenv) ([(a, ob)] ++ pinsAt S s₀.heap) σ H s ∧ tn (i + 1) s.heap ∧ (∀ b ∈ fp, H b = none) ∧ (∀ b ∈ S, H b = none) ∧
  ∀ s'' : Shared, Z (i + 1) σ H → Inv (gCx X s0 H0 NG fp cenv) [(a, ob)] σ H s'' → tn (i + 1) s''.heap → SOk S H s'' → kap (.send .none) s''
end
structure GFix (X : Cx) (s0 : Shared) (fp : List Addr) (cenv : Env) (a : Addr) (S : List Addr) : Prop where
  f : ∀ b ∈ fp, b ≠ cenv.locals ∧ b ∉ frs X.stack ∧ (∀ x c, cenv.cells.lookup x = some c → c ≠ b) ∧ b ≠ a ∧ b ∉ S
  s : ∀ b ∈ S, s0.heap.objs.size ≤ b ∧ b ≠ cenv.locals ∧ b ∉ frs X.stack ∧ (∀ x c, cenv.cells.lookup x = some c → c ≠ b) ∧ b ≠ a
section
variable {X : Cx} {s0 : Shared} {H0 : Hp} {NG : List Str} {fp : List Addr} {cenv : Env} {a : Addr} {ob : Obj} {S : List Addr} {tn : Nat → Heap → Prop} {N : Nat} {Z : Nat → L2.St → Hp → Prop} {P : Nat → V → L2.St → Hp → Prop} {F : Nat → L2.St → Hp → Prop}
theorem seg_loop {elt tg iter : Expr} {scope : Scope} {gpos : Pos} {it C : Addr} {code : Value} {J : It} {g : TG} {te : TE} (hce : cenv = gEnv X scope C code) (hco : scope.isCoroutine = false) (fx : GFix X s0 fp cenv a S)
    (T : Turn X.prog X.w X.K tg J fp it tn) (hg : PG (gCx X s0 H0 NG fp cenv) tg g) (he : PE (gCx X s0 H0 NG fp cenv) elt te)
    (turn : ∀ i σ H, Z i σ H → (J.stop i H ∧ F i σ H) ∨ (J.go i H ∧ i < N ∧ ∀ x H2, J.yld i H x H2 → g x σ H2 fun σ2 H3 => te σ2 H3 fun y H4 => P i y σ2 H4)) :
    ∀ (k i : Nat) (s : Shared) (σ : L2.St) (H : Hp), N - i = k → i ≤ N → Z i σ H → Inv (gCx X s0 H0 NG fp cenv) [(a, ob)] σ H s → tn i s.heap → (∀ b ∈ fp, H b = none) → SOk S H s →
      Seg (model X.prog X.w) X.A.in1.in1 (gR X s0 H0 NG fp cenv a ob S N F) (gY X s0 H0 NG fp cenv a ob S tn N Z P) (N + 1 - i) s (gCode X elt tg iter scope gpos it C code) ((model X.prog X.w).den (gCode X elt tg iter scope gpos it C code)) [] s := by
  subst hce
  intro k
  induction k with
  | zero =>
    intro i s σ H hk hi hZ I st fr so
    have fS : ∀ b ∈ S, FpOk (gCx X s0 H0 NG fp (gEnv X scope C code)) [(a, ob)] H b := fun b hb => ⟨(so b hb).1, (fx.s b hb).2.1, (fx.s b hb).2.2.1, .inr (fx.s b hb).1, (fx.s b hb).2.2.2.1, fun p hp => by
      have hp : p ∈ [(a, ob)] := hp
      rw [List.mem_singleton.mp hp]; exact Ne.symm (fx.s b hb).2.2.2.2⟩
    have I1 := I.pinned fS fun b hb => (so b hb).2
    have fF : ∀ {H' : Hp}, (∀ b ∈ fp, H' b = none) → ∀ b ∈ fp, FpOk (gCx X s0 H0 NG fp (gEnv X scope C code)) ([(a, ob)] ++ pinsAt S s.heap) H' b := fun hn b hb => ⟨hn b hb, (fx.f b hb).1, (fx.f b hb).2.1, .inl hb, (fx.f b hb).2.2.1, fun p hp => by
      have hp : p ∈ [(a, ob)] ++ pinsAt S s.heap := hp
      rcases List.mem_append.mp hp with hp | hp
      · rw [List.mem_singleton.mp hp]; exact Ne.symm (fx.f b hb).2.2.2.1
      · exact fun z => (fx.f b hb).2.2.2.2 (by rw [← z]; exact (of_pinsAt hp).1)⟩
    show Seg _ X.A.in1.in1 _ _ _ s _ ((compTurn (.GeneratorExp elt [⟨tg, iter, [], 0⟩] scope gpos) 0 (.ref it) .none (gEnv X scope C code)).onRaise (leaving (gEnv X scope C code))) [] s
    rw [compTurn_gen, Sem.onRaise_eq_wrap]
    refine seg_bind_wrap (wpAny_standAt ?_)
    rcases turn i σ H hZ with ⟨stop, hF⟩ | ⟨_, hlt, _⟩
    · refine seg_bind_wrap (thn (T.done (gCx X s0 H0 NG fp (gEnv X scope C code)) rfl rfl rfl rfl i _ s σ H _ I1 (fF fr) st stop) fun r s1 ⟨hr, J1⟩ => ?_)
      subst hr
      exact seg_end (.ok .next) ⟨rfl, i, σ, H, by omega, hF, J1⟩
    · omega
  | succ k ih =>
    intro i s σ H hk hi hZ I st fr so
    have fS : ∀ b ∈ S, FpOk (gCx X s0 H0 NG fp (gEnv X scope C code)) [(a, ob)] H b := fun b hb => ⟨(so b hb).1, (fx.s b hb).2.1, (fx.s b hb).2.2.1, .inr (fx.s b hb).1, (fx.s b hb).2.2.2.1, fun p hp => by
      have hp : p ∈ [(a, ob)] := hp
      rw [List.mem_singleton.mp hp]; exact Ne.symm (fx.s b hb).2.2.2.2⟩
    have I1 := I.pinned fS fun b hb => (so b hb).2
    have fF : ∀ {H' : Hp}, (∀ b ∈ fp, H' b = none) → ∀ b ∈ fp, FpOk (gCx X s0 H0 NG fp (gEnv X scope C code)) ([(a, ob)] ++ pinsAt S s.heap) H' b := fun hn b hb => ⟨hn b hb, (fx.f b hb).1, (fx.f b hb).2.1, .inl hb, (fx.f b hb).2.2.1, fun p hp => by
      have hp : p ∈ [(a, ob)] ++ pinsAt S s.heap := hp
      rcases List.mem_append.mp hp with hp | hp
      · rw [List.mem_singleton.mp hp]; exact Ne.symm (fx.f b hb).2.2.2.1
      · exact fun z => (fx.f b hb).2.2.2.2 (by rw [← z]; exact (of_pinsAt hp).1)⟩
    show Seg _ X.A.in1.in1 _ _ _ s _ ((compTurn (.GeneratorExp elt [⟨tg, iter, [], 0⟩] scope gpos) 0 (.ref it) .none (gEnv X scope C code)).onRaise (leaving (gEnv X scope C code))) [] s
    rw [compTurn_gen, Sem.onRaise_eq_wrap]
    refine seg_bind_wrap (wpAny_standAt ?_)
    rcases turn i σ H hZ with ⟨stop, hF⟩ | ⟨go, hlt, step⟩
    · refine seg_bind_wrap (thn (T.done (gCx X s0 H0 NG fp (gEnv X scope C code)) rfl rfl rfl rfl i _ s σ H _ I1 (fF fr) st stop) fun r s1 ⟨hr, J1⟩ => ?_)
      subst hr
      exact seg_end (.ok .next) ⟨rfl, i, σ, H, by omega, hF, J1⟩
    · refine seg_bind_wrap (thn (T.item (gCx X s0 H0 NG fp (gEnv X scope C code)) rfl rfl rfl rfl i _ s σ H _ I1 (fF fr) st go) fun r s1 ⟨u, hr, h1⟩ => ?_)
      subst hr
      refine seg_bind_wrap (thn h1 fun _ s2 ⟨x, H2, I2, r2, y2, st2, fr2⟩ => ?_)
      have I2' := I2.pinned (fF fr2) (T.obj _ _ st2)
      refine seg_bind_wrap (wpAny_mono (hg.run _ s2 σ H2 x u _ I2' r2 (step x H2 y2)) (fun _ s3 ⟨σ3, H3, I3, q3⟩ => ?_) fun _ _ z => z.elim)
      simp only [List.forIn_nil]
      refine seg_bind_wrap (wpAny_pure ?_)
      simp only [if_true]
      have hy : ∀ v, yieldOut (gEnv X scope C code) v = yieldValue v := fun v => by
        show (if scope.isCoroutine = true then _ else _) = _
        simp only [hco, Bool.false_eq_true, if_false]
      simp only [hy]
      rw [Sem.bind_eq_wrap', Sem.bind_eq_wrap', Sem.wrap_wrap, Sem.wrap_wrap]
      refine seg_wrap (wpAny_mono (he.run _ s3 σ3 H3 _ I3 q3) (fun v s4 ⟨y, H4, I4, r4, q4⟩ => ?_) fun _ _ z => z.elim)
      have en : N + 1 - i = (N + 1 - (i + 1)) + 1 := by omega
      rw [en]
      have pinF : ∀ b ∈ fp, ∃ o, s2.heap.get? b = some o ∧ s4.heap.get? b = some o ∧ H4 b = none := fun b hb => by
        obtain ⟨o, e, d⟩ := T.obj _ _ st2 b hb
        have := I4.pin (b, o) (List.mem_append_right _ (List.mem_append_right _ (mem_pinsAt hb e)))
        exact ⟨o, e, this.1, this.2.1⟩
      have st4 : tn (i + 1) s4.heap := T.keep _ _ _ st2 fun b hb o e => by
        obtain ⟨o', e1, e2, _⟩ := pinF b hb
        rw [e] at e1; cases e1
        exact e2
      have fr4 : ∀ b ∈ fp, H4 b = none := fun b hb => (pinF b hb).elim fun _ h => h.2.2
      have fS4 : ∀ b ∈ S, H4 b = none := fun b hb => by
        obtain ⟨_, o, e, _⟩ := so b hb
        exact (I4.pin (b, o) (List.mem_append_right _ (List.mem_append_left _ (List.mem_append_right _ (mem_pinsAt hb e))))).2.1
      refine seg_at (seg_yield rfl rfl rfl ⟨i, y, σ3, H4, by omega, hlt, r4, q4, I4.unpinned, st4, fr4, fS4, fun s'' z1 z2 z3 z4 => ?_⟩)
      exact seg_again rfl (ih (i + 1) s'' σ3 H4 (by omega) hlt z1 z2 z3 fr4 z4)
theorem seg_start {elt tg iter : Expr} {scope : Scope} {gpos : Pos} {it C : Addr} {code : Value} {J : It} {g : TG} {te : TE} (hce : cenv = gEnv X scope C code) (hco : scope.isCoroutine = false) (fx : GFix X s0 fp cenv a S)
    (T : Turn X.prog X.w X.K tg J fp it tn) (hg : PG (gCx X s0 H0 NG fp cenv) tg g) (he : PE (gCx X s0 H0 NG fp cenv) elt te)
    (turn : ∀ i σ H, Z i σ H → (J.stop i H ∧ F i σ H) ∨ (J.go i H ∧ i < N ∧ ∀ x H2, J.yld i H x H2 → g x σ H2 fun σ2 H3 => te σ2 H3 fun y H4 => P i y σ2 H4))
    (s : Shared) (σ : L2.St) (H : Hp) (hZ : Z 0 σ H) (I : Inv (gCx X s0 H0 NG fp cenv) [(a, ob)] σ H s) (st : tn 0 s.heap) (fr : ∀ b ∈ fp, H b = none) (so : SOk S H s) :
      Seg (model X.prog X.w) X.A.in1.in1 (gR X s0 H0 NG fp cenv a ob S N F) (gY X s0 H0 NG fp cenv a ob S tn N Z P) (N + 1) s (gCode0 X elt tg iter scope gpos it C code) ((model X.prog X.w).den (gCode0 X elt tg iter scope gpos it C code)) [] s := by
  have loop := seg_loop (elt := elt) (tg := tg) (iter := iter) (gpos := gpos) (it := it) hce hco fx T hg he turn N 0 s σ H rfl (Nat.zero_le _) hZ I st fr so
  show Seg _ X.A.in1.in1 _ _ _ s _ ((compStart (.GeneratorExp elt [⟨tg, iter, [], 0⟩] scope gpos) 0 (.ref it) .none (gEnv X scope C code)).onRaise (leaving (gEnv X scope C code))) [] s
  unfold compStart
  rw [Sem.onRaise_eq_wrap]
  show Seg _ X.A.in1.in1 _ _ _ s _ ((ask >>= _).wrap _ _ _ _) [] s
  refine seg_bind_wrap (wpAny_askSetting ?_)
  split
  · exact seg_again rfl loop
  · first
      | exact seg_bind_wrap (wpAny_rule (seg_bind_wrap (wpAny_standAt (seg_bind_wrap (T.self _ 0 s _ _ st (seg_again rfl loop))))))
      | (refine seg_bind_wrap (wpAny_rule ?_); show Seg _ X.A.in1.in1 _ _ _ s _ ((standAt iter.pos >>= _).wrap _ _ _ _) [] s; exact seg_bind_wrap (wpAny_standAt (seg_bind_wrap (T.self _ 0 s _ _ st (seg_again rfl loop)))))
end
theorem bare_set {gens : Array GenState} {g : Nat} {x : GenState} (h : AllBare gens) (hx : x.bare = true) : AllBare (gens.setIfInBounds g x) := fun y hy => by
  rcases Array.mem_or_eq_of_mem_setIfInBounds hy with h1 | h1
  · exact h y h1
  · rw [h1]; exact hx
section
variable (X : Cx) (s0 : Shared) (H0 : Hp) (NG : List Str) (fp : List Addr) (cenv : Env) (a : Addr) (ob : Obj) (g : Nat) (S : List Addr) (tn : Nat → Heap → Prop) (N : Nat) (Z : Nat → L2.St → Hp → Prop) (P : Nat → V → L2.St → Hp → Prop) (F : Nat → L2.St → Hp → Prop)
/-- the generator sleeps at turn i -/
def GenSt (i : Nat) (s : Shared) : Prop := ∃ σ H, i ≤ N ∧ Z i σ H ∧ Inv (gCx X s0 H0 NG fp cenv) [(a, ob)] σ H s ∧ tn i s.heap ∧ (∀ b ∈ fp, H b = none) ∧ SOk S H s ∧ ∃ gs, s.gens[g]? = some gs ∧
  ∀ s'' : Shared, Inv (gCx X s0 H0 NG fp cenv) [(a, ob)] σ H s'' → tn i s''.heap → SOk S H s'' → gs.Goes (model X.prog X.w) X.A.in1.in1 (gR X s0 H0 NG fp cenv a ob S N F) (gY X s0 H0 NG fp cenv a ob S tn N Z P) (N + 1 - i) (.send .none) s''
def GenNext (i : Nat) (s : Shared) (r : Option Value) (s' : Shared) : Prop :=
  (r = none ∧ ∃ σ H, F i σ H ∧ Inv (gCx X s0 H0 NG fp cenv) [(a, ob)] σ H s' ∧ SOk S H s' ∧ ∀ b ∈ S, s'.heap.get? b = s.heap.get? b) ∨
  ∃ v y σ H, r = some v ∧ i < N ∧ RelV y v ∧ P i y σ H ∧ Inv (gCx X s0 H0 NG fp cenv) [(a, ob)] σ H s' ∧ SOk S H s' ∧ (∀ b ∈ S, s'.heap.get? b = s.heap.get? b) ∧
    (Z (i + 1) σ H → ∀ s'' : Shared, Inv (gCx X s0 H0 NG fp cenv) [(a, ob)] σ H s'' → (∀ b ∈ fp, s''.heap.get? b = s'.heap.get? b) → SOk S H s'' → s''.gens = s'.gens → GenSt X s0 H0 NG fp cenv a ob g S tn N Z P F (i + 1) s'')
end
section
variable {X : Cx} {s0 : Shared} {H0 : Hp} {NG : List Str} {fp : List Addr} {cenv : Env} {a : Addr} {ob : Obj} {g : Nat} {S : List Addr} {tn : Nat → Heap → Prop} {N : Nat} {Z : Nat → L2.St → Hp → Prop} {P : Nat → V → L2.St → Hp → Prop} {F : Nat → L2.St → Hp → Prop}
theorem gen_next {tg : Expr} {J : It} {it : Addr} (T : Turn X.prog X.w X.K tg J fp it tn) (hob : ∀ h : Heap, h.get? a = some ob → h.IsGen a g) (hd : X.A.handled = none) (hroom : X.A.depth < recursionLimit) {i : Nat} {s : Shared} {E : Value → Shared → Prop}
    (h : GenSt X s0 H0 NG fp cenv a ob g S tn N Z P F i s) : wpAny (model X.prog X.w) X.A.in1 (pyNext (.ref a)) (GenNext X s0 H0 NG fp cenv a ob g S tn N Z P F i s) E s := by
  obtain ⟨σ, H, hi, hZ, I, st, fr, so, gs, hgs, hgo⟩ := h
  have pa := I.pin (a, ob) (List.mem_append_right _ (List.mem_singleton.mpr rfl))
  have hbs : AllBare (s.setGen g .running).gens := bare_set I.bare rfl
  have hgl : g < s.gens.size := (Array.getElem?_eq_some_iff.mp hgs).1
  refine GenW.wpAny_gsz (n := g + 1) hgl ?_
  refine wpAny_pyNext_genexpQ (P := fun n s₀ s => ∃ i σ H, n + i = N + 1 ∧ F i σ H ∧ Inv (gCx X s0 H0 NG fp cenv) ([(a, ob)] ++ pinsAt S s₀.heap) σ H s) hd I.nolimit hroom (hob _ pa.1) hgs (hgo _ (inv_gens (t' := s.toks) I hbs) st so) (fun v s₁ gs' hb hv => ?_) (fun s₁ hp h' hk => ?_)
  · intro hsz
    obtain ⟨i', y, σ2, H2, e1, hlt, rv, hP, I2, st2, fr2, fS2, kap⟩ := hv
    have ei : i' = i := by omega
    subst ei
    have pS : ∀ b ∈ S, ∃ o, s.heap.get? b = some o ∧ s₁.heap.get? b = some o ∧ ∀ v, o.data ≠ .cell v := fun b hb => by
      obtain ⟨_, o, e, d⟩ := so b hb
      exact ⟨o, e, (I2.pin (b, o) (List.mem_append_right _ (List.mem_append_right _ (mem_pinsAt hb e)))).1, d⟩
    have hb2 : AllBare (s₁.setGen g gs').gens := bare_set I2.bare hb
    refine .inr ⟨v, y, σ2, H2, rfl, hlt, rv, hP, inv_gens (t' := s₁.toks) I2.unpinned hb2, fun b hb => ⟨fS2 b hb, (pS b hb).elim fun o h => ⟨o, h.2.1, h.2.2⟩⟩, fun b hb => ?_, fun hZ2 s'' J1 kf so2 eg => ?_⟩
    · obtain ⟨o, e, e2, _⟩ := pS b hb
      exact e2.trans e.symm
    · have stn : tn (i' + 1) s''.heap := T.keep _ _ _ st2 fun b hb o e => (kf b hb).trans e
      refine ⟨σ2, H2, hlt, hZ2, J1, stn, fr2, so2, gs', ?_, fun s3 J3 st3 so3 => ?_⟩
      · rw [eg]
        exact L2.setGen_at (by
          have q : (s₁.setGen g gs').gens.size = s₁.gens.size := GenW.setGen_size _ _ _
          have hsz' : g + 1 ≤ (s₁.setGen g gs').gens.size := hsz
          omega)
      · have e3 : N + 1 - i' = (N + 1 - (i' + 1)) + 1 := by omega
        have := kap s3 hZ2 J3 st3 so3
        rw [e3] at this
        exact this
  · intro _
    obtain ⟨i', σ2, H2, e1, hF, I2⟩ := hp
    have ei : i' = i := by omega
    subst ei
    have pS : ∀ b ∈ S, ∃ o, s.heap.get? b = some o ∧ s₁.heap.get? b = some o ∧ (∀ v, o.data ≠ .cell v) ∧ H2 b = none := fun b hb => by
      obtain ⟨_, o, e, d⟩ := so b hb
      have p := I2.pin (b, o) (List.mem_append_right _ (List.mem_append_right _ (mem_pinsAt hb e)))
      exact ⟨o, e, p.1, d, p.2.1⟩
    have hb2 : AllBare (s₁.setGen g .finished).gens := bare_set I2.bare rfl
    have J1 := (inv_gens (t' := s₁.toks) I2.unpinned hb2).kept (t' := s₁.toks) hk
    refine .inl ⟨rfl, σ2, H2, hF, J1, fun b hb => ⟨(pS b hb).elim fun _ h => h.2.2.2, (pS b hb).elim fun o h => ⟨o, hk _ _ h.2.1, h.2.2.1⟩⟩, fun b hb => ?_⟩
    obtain ⟨o, e, e2, _⟩ := pS b hb
    exact (hk _ _ e2).trans e.symm
theorem all_loop {tg : Expr} {J : It} {it : Addr} {Q : VK} (T : Turn X.prog X.w X.K tg J fp it tn) (hob : ∀ h : Heap, h.get? a = some ob → h.IsGen a g) (hd : X.A.handled = none) (hroom : X.A.depth < recursionLimit) : ∀ (k i : Nat) (s : Shared), N - i = k →
    GenSt X s0 H0 NG fp cenv a ob g [] tn N Z (fun i y σ H => (y = .bl true ∧ Z (i + 1) σ H) ∨ (y = .bl false ∧ Q (.bl false) H)) (fun _ _ H => Q (.bl true) H) i s →
    codeAny (model X.prog X.w) X.A (.builtin "all.loop" ⟨[.ref a], []⟩) (fun r s' => ∃ b σ H, r = .ok (.ret (.bool b)) ∧ Inv (gCx X s0 H0 NG fp cenv) [(a, ob)] σ H s' ∧ Q (.bl b) H) s := by
  intro k
  induction k with
  | zero =>
    intro i s hk h
    refine codeAny_builtin F.entry_all_loop ?_
    rw [Around.under_plainId F.plain_all_loop _]
    show wpAny _ X.A.in1 (pyNext (.ref a) >>= _) _ _ s
    refine wpAny_bind (thn (gen_next T hob hd hroom h) fun r s' hn => ?_)
    rcases hn with ⟨rfl, σ, H, hF, I, _⟩ | ⟨v, y, σ, H, rfl, hlt, _⟩
    · exact wpAny_bind (wpAny_rule (wpAny_pure ⟨true, σ, H, rfl, I, hF⟩))
    · omega
  | succ k ih =>
    intro i s hk h
    refine codeAny_builtin F.entry_all_loop ?_
    rw [Around.under_plainId F.plain_all_loop _]
    show wpAny _ X.A.in1 (pyNext (.ref a) >>= _) _ _ s
    refine wpAny_bind (thn (gen_next T hob hd hroom h) fun r s' hn => ?_)
    rcases hn with ⟨rfl, σ, H, hF, I, _⟩ | ⟨v, y, σ, H, rfl, hlt, rv, hP, I, so, _, next⟩
    · exact wpAny_bind (wpAny_rule (wpAny_pure ⟨true, σ, H, rfl, I, hF⟩))
    · rcases hP with ⟨rfl, hZ⟩ | ⟨rfl, hQ⟩
      · obtain rfl : v = .bool true := rv
        refine wpAny_bind (wpAny_holding (wpAny_truthy_bool ?_))
        refine wpAny_bind (wpAny_letGo ?_)
        simp only [if_true]
        exact wpAny_pure ⟨plainId_quiet F.plain_all_loop _, ih (i + 1) _ (by omega) (next hZ s' I (fun _ _ => rfl) so rfl)⟩
      · obtain rfl : v = .bool false := rv
        refine wpAny_bind (wpAny_holding (wpAny_truthy_bool ?_))
        refine wpAny_bind (wpAny_letGo ?_)
        simp only [Bool.false_eq_true, if_false]
        exact wpAny_bind (wpAny_rule (wpAny_pure ⟨false, σ, H, rfl, I, hQ⟩))
theorem any_loop {tg : Expr} {J : It} {it : Addr} {Q : VK} (T : Turn X.prog X.w X.K tg J fp it tn) (hob : ∀ h : Heap, h.get? a = some ob → h.IsGen a g) (hd : X.A.handled = none) (hroom : X.A.depth < recursionLimit) : ∀ (k i : Nat) (s : Shared), N - i = k →
    GenSt X s0 H0 NG fp cenv a ob g [] tn N Z (fun i y σ H => (y = .bl false ∧ Z (i + 1) σ H) ∨ (y = .bl true ∧ Q (.bl true) H)) (fun _ _ H => Q (.bl false) H) i s →
    codeAny (model X.prog X.w) X.A (.builtin "any.loop" ⟨[.ref a], []⟩) (fun r s' => ∃ b σ H, r = .ok (.ret (.bool b)) ∧ Inv (gCx X s0 H0 NG fp cenv) [(a, ob)] σ H s' ∧ Q (.bl b) H) s := by
  intro k
  induction k with
  | zero =>
    intro i s hk h
    refine codeAny_builtin F.entry_any_loop ?_
    rw [Around.under_plainId F.plain_any_loop _]
    show wpAny _ X.A.in1 (pyNext (.ref a) >>= _) _ _ s
    refine wpAny_bind (thn (gen_next T hob hd hroom h) fun r s' hn => ?_)
    rcases hn with ⟨rfl, σ, H, hF, I, _⟩ | ⟨v, y, σ, H, rfl, hlt, _⟩
    · exact wpAny_bind (wpAny_rule (wpAny_pure ⟨false, σ, H, rfl, I, hF⟩))
    · omega
  | succ k ih =>
    intro i s hk h
    refine codeAny_builtin F.entry_any_loop ?_
    rw [Around.under_plainId F.plain_any_loop _]
    show wpAny _ X.A.in1 (pyNext (.ref a) >>= _) _ _ s
    refine wpAny_bind (thn (gen_next T hob hd hroom h) fun r s' hn => ?_)
    rcases hn with ⟨rfl, σ, H, hF, I, _⟩ | ⟨v, y, σ, H, rfl, hlt, rv, hP, I, so, _, next⟩
    · exact wpAny_bind (wpAny_rule (wpAny_pure ⟨false, σ, H, rfl, I, hF⟩))
    · rcases hP with ⟨rfl, hZ⟩ | ⟨rfl, hQ⟩
      · obtain rfl : v = .bool false := rv
        refine wpAny_bind (wpAny_holding (wpAny_truthy_bool ?_))
        refine wpAny_bind (wpAny_letGo ?_)
        simp only [Bool.false_eq_true, if_false]
        exact wpAny_pure ⟨plainId_quiet F.plain_any_loop _, ih (i + 1) _ (by omega) (next hZ s' I (fun _ _ => rfl) so rfl)⟩
      · obtain rfl : v = .bool true := rv
        refine wpAny_bind (wpAny_holding (wpAny_truthy_bool ?_))
        refine wpAny_bind (wpAny_letGo ?_)
        simp only [if_true]
        exact wpAny_bind (wpAny_rule (wpAny_pure ⟨true, σ, H, rfl, I, hQ⟩))
/-- the sum so far stands in the list at S -/
theorem sum_loop {tg : Expr} {J : It} {it : Addr} {Q : VK} {S : Addr} {vals : List Int} (hfp : ∀ b ∈ fp, b ≠ S) (hSa : S ≠ a) (T : Turn X.prog X.w X.K tg J fp it tn) (hob : ∀ h : Heap, h.get? a = some ob → h.IsGen a g) (hd : X.A.handled = none) (hroom : X.A.depth < recursionLimit)
    (hS : s0.heap.objs.size ≤ S ∧ S ≠ cenv.locals ∧ S ∉ frs X.stack ∧ (∀ x c, cenv.cells.lookup x = some c → c ≠ S))
    (hfit : ∀ j v, vals[j]? = some v → InLong v ∧ InLong ((vals.take j).sum + v)) : ∀ (k i : Nat) (s : Shared) (tA : Tok) (c : Nat), N - i = k →
    GenSt X s0 H0 NG fp cenv a ob g [S] tn N Z (fun i y σ H => ∃ v, vals[i]? = some v ∧ y = .int v ∧ Z (i + 1) σ H) (fun i _ H => i = vals.length ∧ Q (.int vals.sum) H) i s → s.heap.get? S = some { cls := .type "list", dict := none, data := .seq #[.int (vals.take i).sum tA] c, slots := #[] } →
    codeAny (model X.prog X.w) X.A (.builtin "sum.loop" ⟨[.ref a, .ref S, rawInt 0, rawInt 0], []⟩) (fun r s' => ∃ t σ H, r = .ok (.ret (.int vals.sum t)) ∧ Inv (gCx X s0 H0 NG fp cenv) [(a, ob)] σ H s' ∧ Q (.int vals.sum) H) s := by
  intro k
  have fin : ∀ (i : Nat) (tA : Tok), i = vals.length → (vals.take i).sum = vals.sum := fun i _ e => by rw [e, List.take_length]
  induction k with
  | zero =>
    intro i s tA c hk h hs
    refine codeAny_builtin F.entry_sum_loop ?_
    rw [Around.under_plainId F.plain_sum_loop _]
    show wpAny _ X.A.in1 (seqItems? (.ref S) >>= _) _ _ s
    refine wpAny_bind (wpAny_seqItems hs rfl ?_)
    show wpAny _ X.A.in1 (tryCatch (pyNext (.ref a)) _ >>= _) _ _ s
    refine wpAny_bind (wpAny_tryCatch (thn (gen_next T hob hd hroom h) fun r s' hn => ?_))
    rcases hn with ⟨rfl, σ, H, ⟨e, hF⟩, I, _⟩ | ⟨v, y, σ, H, rfl, hlt, _⟩
    · exact wpAny_pure ⟨tA, σ, H, by rw [← fin i tA e]; rfl, I, hF⟩
    · omega
  | succ k ih =>
    intro i s tA c hk h hs
    refine codeAny_builtin F.entry_sum_loop ?_
    rw [Around.under_plainId F.plain_sum_loop _]
    show wpAny _ X.A.in1 (seqItems? (.ref S) >>= _) _ _ s
    refine wpAny_bind (wpAny_seqItems hs rfl ?_)
    show wpAny _ X.A.in1 (tryCatch (pyNext (.ref a)) _ >>= _) _ _ s
    refine wpAny_bind (wpAny_tryCatch (thn (gen_next T hob hd hroom h) fun r s' hn => ?_))
    rcases hn with ⟨rfl, σ, H, ⟨e, hF⟩, I, _⟩ | ⟨v, y, σ, H, rfl, hlt, rv, ⟨z, hz, rfl, hZ⟩, I, so, same, next⟩
    · exact wpAny_pure ⟨tA, σ, H, by rw [← fin i tA e]; rfl, I, hF⟩
    · obtain ⟨t, rfl⟩ := _root_.id rv
      have hS' : s'.heap.get? S = some { cls := .type "list", dict := none, data := .seq #[.int (vals.take i).sum tA] c, slots := #[] } := (same S (List.mem_singleton.mpr rfl)).trans hs
      obtain ⟨⟨f1, f2⟩, f3, f4⟩ := hfit i z hz
      have hc : ((decide (-(2 ^ 63) ≤ z) && decide (z < 2 ^ 63)) && (decide (-(2 ^ 63) ≤ (vals.take i).sum + z) && decide ((vals.take i).sum + z < 2 ^ 63))) = true := by
        simp only [Bool.and_eq_true, decide_eq_true_eq]
        exact ⟨⟨f1, f2⟩, f3, f4⟩
      have es : (vals.take (i + 1)).sum = (vals.take i).sum + z := by
        rw [List.take_succ, hz]; simp
      show wpAny _ X.A.in1 (if (_ : Bool) = true then (mkInt ((vals.take i).sum + z) >>= _) else _) _ _ _
      split
      · refine wpAny_bind (wpAny_mkInt ?_)
        show wpAny _ X.A.in1 (updateSeq S (fun _ => #[.int ((vals.take i).sum + z) s'.toks]) >>= _) _ _ _
        refine wpAny_bind ?_
        refine wpAny_updateSeq hS' rfl (wpAny_pure ⟨plainId_quiet F.plain_sum_loop _, ih (i + 1) _ s'.toks _ (by omega) (next hZ _ ?_ (fun b hb => ?_) ?_ rfl) (by rw [es]; exact Heap.get?_update_self _ hS' rfl)⟩)
        · refine (inv_gens (t' := s'.toks + 1) I I.bare).turned (it := S) (fun b o hb e => (Heap.get?_update_other _ _ (Ne.symm hb)).trans e) (so S (List.mem_singleton.mpr rfl)).1 hS.2.1 (.inr hS.1) hS.2.2.2 fun p hp => ?_
          have hp : p ∈ [(a, ob)] := hp
          rw [List.mem_singleton.mp hp]
          exact Ne.symm hSa
        · exact Heap.get?_update_other _ _ (Ne.symm (hfp b hb))
        · intro b hb
          rw [List.mem_singleton.mp hb]
          exact ⟨(so S (List.mem_singleton.mpr rfl)).1, _, Heap.get?_update_self _ hS' rfl, fun v e => by cases e⟩
      · rename_i hn
        exact absurd hc hn
end
/-! ### the making -/
/-- a generator has been made: a, at s5; H3 is what is held from then on -/
def Made (X : Cx) (pins : List (Addr × Obj)) (σ : L2.St) (NG : List Str) (js : List (Option Nat)) (elt tg iter : Expr) (scope : Scope) (gpos : Pos) (J : It) (H3 : Hp) (a : Addr) (s5 : Shared) : Prop :=
  ∃ (s3 : Shared) (it : Addr) (fp : List Addr) (tn : Nat → Heap → Prop) (C : Addr) (code : Value) (ob : Obj) (g : Nat), Inv X pins σ H3 s3 ∧ Turn X.prog X.w X.K tg J fp it tn ∧ tn 0 s5.heap ∧ (∀ b ∈ fp, FpOk X pins H3 b) ∧ (∀ b ∈ fp, b < s3.heap.objs.size) ∧ C = s3.heap.objs.size ∧ C < a ∧
    Inv (gCx X s3 H3 NG fp (gEnv X scope C code)) [(a, ob)] (capS js σ) H3 s5 ∧ s5.gens[g]? = some (.fresh (gCode0 X elt tg iter scope gpos it C code)) ∧ (∀ h : Heap, h.get? a = some ob → h.IsGen a g)
section
variable {X : Cx} {pins : List (Addr × Obj)} {σ : L2.St} {H : Hp} {s : Shared}
theorem gen_make {c P : Addr} {elt tg iter : Expr} {gpos : Pos} {scope : Scope} {NG : List Str} {js : List (Option Nat)} {wi : TI} {k : Nat} {Q' : Value → Shared → Prop} {R : It → Hp → Prop}
    (hr : Room k X.A) (TB : TabB X.base X.mg c P) (hcode : X.env.code = .ref c) (G : GSc X.env.scope scope) (hi : PI X tg iter wi) (hN : capB X.N NG scope js = true)
    (hs : ∀ v, genFold iter X.env v = pure v) (I : Inv X pins σ H s) (h : wi σ H fun J H1 => TabG H1 P ∧ R J H1)
    (hQ : ∀ J H1 H3 a s5, Tabbed P H1 H3 → R J H1 → Made X pins σ NG js elt tg iter scope gpos J H3 a s5 → Q' (.ref a) s5) :
    wpAny (model X.prog X.w) X.A (eval (.GeneratorExp elt [⟨tg, iter, [], 0⟩] scope gpos) X.env) Q' X.xe s := by
  have hfree : ∀ y ∈ scope.names, y.2 = .free → ∃ c, X.env.cells.lookup y.1 = some c := fun y hy e => by
    rcases G.free y hy e with k | k
    · exact I.ok.has _ (.inl k)
    · exact I.ok.has _ (.inr k)
  refine wpAny_GeneratorExp_make G.co (closure_ok hfree) G.cell G.dot G.kind (by have := hr.dp; omega) ?_ hs
  refine thn (hi.run pins s σ H _ I h) fun xv s1 h1 => thn h1 fun itv s2 h2 => ?_
  obtain ⟨it, fp, tn, J, H2, rfl, I2, T, st2, f2, ⟨ps, hP, ht⟩, hR⟩ := h2
  have hPs : s2.heap.get? P = some { cls := .none, data := .fields ps } := I2.hok P _ hP
  have cd : PySem.W.CodeHd s2.heap c P := TB.code.keeps I2.bk
  refine ⟨I2.nolimit, ?_⟩
  have cont : ∀ (code : Value) (h3 : Heap) (tk : Nat) (more : Array Value), (∀ b o, b ≠ P → s2.heap.get? b = some o → h3.get? b = some o) → h3.get? P = some { cls := .none, data := .fields (ps ++ more) } → TriplesOk (ps ++ more).toList →
      wpAny (model X.prog X.w) X.A (builtinsFor X.env.globals X.env.builtins) (fun bi s₄ =>
        ∀ h' : Heap, h'.Ns s₄.heap.objs.size (fun y => if y = ".0" then some (.ref it) else none) → Heap.SameBut s₄.heap.objs.size (s₄.heap.push { cls := .type "frame", data := .dict #[] }) h' →
          Q' (.ref h'.objs.size) { s₄ with
            gens := s₄.gens.push (.fresh (.compStart (.GeneratorExp elt [⟨tg, iter, [], 0⟩] scope gpos) 0 (.ref it) .none (genEnv scope (cloFrom X.env.cells scope.names []) s₄.heap.objs.size code bi X.env))),
            toks := s₄.toks + 1 + 1 + 1,
            heap := h'.push { cls := .type "generator", data := .fields #[.int s₄.gens.size 0, .str "<genexpr>" (s₄.toks + 1), .str (X.env.qual ++ "<genexpr>") (s₄.toks + 1 + 1)] } }) X.xe { s2 with heap := h3, toks := tk } := by
    intro code h3 tk more hx hP3 ht3
    have J3 : Inv X pins σ (upd H2 P (.tbl (ps ++ more))) { s2 with heap := h3, toks := tk } := inv_tab (g' := s2.gens) (d' := s2.drawn) I2 hP hx hP3 I2.bare
    obtain ⟨bm, ob, e1, e2, e3, e4, e5, e6, e7, e8⟩ := TB.bm
    refine wpAny_builtinsFor (m := X.mg) (by rw [J3.ok.glob]; exact J3.mod.glob.keeps J3.bk) e1 e2 (J3.bk _ _ e5) e6 e7 e8 ?_
    intro h' hn' hs'
    have hfP : ∀ b ∈ fp, b ≠ P := fun b hb z => by
      have := (f2 b hb).1
      rw [z, hP] at this
      cases this
    have hsz : h'.objs.size = h3.objs.size + 1 := by rw [hs'.1, Heap.size_push]
    have keep' : ∀ b o, h3.get? b = some o → h'.get? b = some o := fun b o e => hs'.extBut b o (Nat.ne_of_lt (Heap.lt_size e)) (Heap.get?_push_of_some _ e)
    have keep₅ : ∀ b o, h3.get? b = some o → (h'.push { cls := .type "generator", data := .fields #[.int s2.gens.size 0, .str "<genexpr>" (tk + 1), .str (X.env.qual ++ "<genexpr>") (tk + 1 + 1)] }).get? b = some o :=
      fun b o e => Heap.get?_push_of_some _ (keep' b o e)
    have f3 : ∀ b ∈ fp, FpOk X pins (upd H2 P (.tbl (ps ++ more))) b := fun b hb => ⟨by rw [upd_ne (hfP b hb)]; exact (f2 b hb).1, (f2 b hb).2⟩
    have fl : ∀ b ∈ fp, b < h3.objs.size := fun b hb => by
      obtain ⟨o, e, _⟩ := T.obj _ _ st2 b hb
      exact Heap.lt_size (hx b o (hfP b hb) e)
    have IX := gen_start (s := { s2 with heap := h3, toks := tk }) (NG := NG) (code := code) (it := it) (js := js) (tk := tk + 1 + 1 + 1) (g₁ := s2.gens.push (.fresh (.compStart (.GeneratorExp elt [⟨tg, iter, [], 0⟩] scope gpos) 0 (.ref it) .none (gEnv X scope h3.objs.size code)))) J3 G f3 fl hr.hd (hn'.push _) keep₅ (I2.bare.push rfl) hN
    have aF : h3.objs.size ≤ h'.objs.size := by omega
    refine hQ J H2 _ h'.objs.size _ ⟨⟨ps ++ more, upd_same, ht3⟩, fun b hb => upd_ne hb⟩ hR ⟨{ s2 with heap := h3, toks := tk }, it, fp, tn, h3.objs.size, code, { cls := .type "generator", data := .fields #[.int s2.gens.size 0, .str "<genexpr>" (tk + 1), .str (X.env.qual ++ "<genexpr>") (tk + 1 + 1)] }, s2.gens.size, J3, T, T.keep _ _ _ st2 fun b hb o e => keep₅ b o (hx b o (hfP b hb) e), f3, fl, rfl, (by show h3.objs.size < h'.objs.size; omega), IX.pins_of fun p hp => ?_, Array.getElem?_push_size .., fun h e => ⟨_, _, _, e, rfl, rfl, rfl⟩⟩
    rw [List.mem_singleton.mp hp]
    have nfr : h'.objs.size ∉ frs X.stack := fun z => by
      rcases List.mem_cons.mp (J3.stkSub _ z) with e | e
      · have h1 : X.env.locals < h3.objs.size := J3.lt
        have e : (h'.objs.size : Nat) = X.env.locals := e
        rw [← e] at h1
        exact absurd (Nat.lt_of_lt_of_le h1 aF) (Nat.lt_irrefl _)
      · exact J3.nofs (a := h'.objs.size) aF e
    refine ⟨Heap.get?_push_size _ rfl, J3.hok.fresh aF, ?_, nfr, fun v e => by cases e⟩
    show h'.objs.size ≠ h3.objs.size
    omega
  cases hf : codeAmong gpos ps.toList with
  | none =>
    refine wpAny_genexprCodeX hcode (cd.code hPs ht) (cd.tab hPs) hf fun c' h' tk hx hge hlt hco' _ htab' _ => ?_
    obtain ⟨o1, vs, f1, tf, fl, tg, inF, tx, tt, op, _, _, _, _, _, _, _, _, _, htr, _⟩ := hco'
    exact cont _ h' tk _ (fun b o hb e => hx b o hb e) htab'.2 htr
  | some cv =>
    refine wpAny_genexprCode_hit hcode (cd.code hPs ht) hf ?_
    exact cont cv s2.heap s2.toks #[] (fun _ _ _ e => e) (by rw [Array.append_empty]; exact hPs) (by rw [Array.append_empty]; exact ht)
/-- behind it -/
theorem gen_after {s3 s' : Shared} {H3 H' : Hp} {NG : List Str} {fp : List Addr} {cenv : Env} {pins' : List (Addr × Obj)} {σ' : L2.St} (I : Inv X pins σ H3 s3) (hf : ∀ b ∈ fp, FpOk X pins H3 b) (J : Inv (gCx X s3 H3 NG fp cenv) pins' σ' H' s') : Inv X pins σ H' s' :=
  I.call' J.os J.base J.hok J.bare fun b hb => ⟨(hf b hb).2.2.2.1, (hf b hb).2.1, (hf b hb).2.2.2.2.1, (hf b hb).2.2.2.2.2⟩
end
/-! ### any, all, sum -/
/-- what a generator's frame hangs on -/
structure GPar where
  s : Shared
  H : Hp
  fp : List Addr
  C : Addr
  code : Value
def tQG (al : Bool) (P : Addr) (js : List (Option Nat)) (wi : TI) (g : GPar → TG) (te : GPar → TE) : TE := fun σ H Q => wi σ H fun J H1 => TabG H1 P ∧ ∀ a H3, Tabbed P H1 H3 → ∃ (N : Nat) (Z : Nat → L2.St → Hp → Prop), Z 0 (capS js σ) H3 ∧
  ∀ i σ' H', Z i σ' H' → (J.stop i H' ∧ Q (.bl al) H') ∨ (J.go i H' ∧ i < N ∧ ∀ x H2, J.yld i H' x H2 → g a x σ' H2 fun σ2 H4 => te a σ2 H4 fun y H5 => (y = .bl al ∧ Z (i + 1) σ2 H5) ∨ (y = .bl (!al) ∧ Q (.bl (!al)) H5))
def tSumG (P : Addr) (js : List (Option Nat)) (wi : TI) (g : GPar → TG) (te : GPar → TE) : TE := fun σ H Q => wi σ H fun J H1 => TabG H1 P ∧ ∀ a H3, Tabbed P H1 H3 → ∃ (vals : List Int) (Z : Nat → L2.St → Hp → Prop), (∀ (j : Nat) (v : Int), vals[j]? = some v → InLong v ∧ InLong ((vals.take j).sum + v)) ∧ Z 0 (capS js σ) H3 ∧
  ∀ i σ' H', Z i σ' H' → (J.stop i H' ∧ i = vals.length ∧ Q (.int vals.sum) H') ∨ (J.go i H' ∧ i < vals.length ∧ ∀ x H2, J.yld i H' x H2 → g a x σ' H2 fun σ2 H4 => te a σ2 H4 fun y H5 => ∃ v, vals[i]? = some v ∧ y = .int v ∧ Z (i + 1) σ2 H5)
section
variable {X : Cx} {c P : Addr} {elt tg iter : Expr} {p gpos pos : Pos} {scope : Scope} {NG : List Str} {js : List (Option Nat)} {wi : TI} {g : GPar → TG} {te : GPar → TE} {k : Nat}
theorem gfix {s3 : Shared} {H3 : Hp} {pins : List (Addr × Obj)} {σ : L2.St} {fp : List Addr} {code : Value} {a : Addr} (I : Inv X pins σ H3 s3) (G : GSc X.env.scope scope) (f : ∀ b ∈ fp, FpOk X pins H3 b) (fl : ∀ b ∈ fp, b < s3.heap.objs.size) (ha : s3.heap.objs.size < a) {S : List Addr} (hS : ∀ b ∈ S, a < b) :
    GFix X s3 fp (gEnv X scope s3.heap.objs.size code) a S := by
  have hfree : ∀ y ∈ scope.names, y.2 = .free → ∃ c, X.env.cells.lookup y.1 = some c := fun y hy e => by
    rcases G.free y hy e with k | k
    · exact I.ok.has _ (.inl k)
    · exact I.ok.has _ (.inr k)
  have cm : ∀ {y c}, (cloFrom X.env.cells scope.names []).lookup y = some c → X.env.cells.lookup y = some c := fun {y c} e => by
    rcases cloFrom_mem (PySem.mem_of_lookup e) with hm | ⟨h1, h2⟩
    · cases hm
    · obtain ⟨c1, hc⟩ := hfree _ h1 rfl
      have hc : X.env.cells.lookup y = some c1 := hc
      have e2 : c = c1 := by
        rw [h2, hc] <;> rfl
      rw [e2]
      exact hc
  have nfr : ∀ b, s3.heap.objs.size ≤ b → b ∉ frs X.stack := fun b hb z => by
    rcases List.mem_cons.mp (I.stkSub _ z) with e | e
    · have h1 := I.lt
      rw [← e] at h1
      exact Nat.lt_irrefl _ (Nat.lt_of_lt_of_le h1 hb)
    · exact I.nofs hb e
  refine ⟨fun b hb => ⟨Nat.ne_of_lt (fl b hb), fun z => ?_, fun x c e => (f b hb).2.2.2.2.1 x c (cm e), Nat.ne_of_lt (Nat.lt_trans (fl b hb) ha), fun z => absurd (Nat.lt_trans (Nat.lt_trans (fl b hb) ha) (hS b z)) (Nat.lt_irrefl _)⟩,
    fun b hb => ⟨Nat.le_of_lt (Nat.lt_trans ha (hS b hb)), Nat.ne_of_gt (Nat.lt_trans ha (hS b hb)), nfr b (Nat.le_of_lt (Nat.lt_trans ha (hS b hb))), fun x c e z => ?_, Nat.ne_of_gt (hS b hb)⟩⟩
  · rcases List.mem_cons.mp (I.stkSub b z) with e | e
    · exact (f b hb).2.1 e
    · exact (f b hb).2.2.1 e
  · obtain ⟨v, q⟩ := I.cell x c (cm e)
    have h1 : c < s3.heap.objs.size := q.lt
    rw [z] at h1
    exact Nat.lt_irrefl _ (Nat.lt_trans (Nat.lt_trans ha (hS b hb)) h1)
theorem pe_allG (hr : Room (k + 1) X.A) (hgl : Gl X "all") (hm : X.mg "all" = none) (hb : bootBuiltins "all" = some (.builtin "all")) (TB : TabB X.base X.mg c P) (hcode : X.env.code = .ref c) (G : GSc X.env.scope scope) (hi : PI X tg iter wi) (hN : capB X.N NG scope js = true)
    (hg : ∀ a : GPar, PG (gCx X a.s a.H NG a.fp (gEnv X scope a.C a.code)) tg (g a)) (he : ∀ a : GPar, Room k (gA X (gEnv X scope a.C a.code)) → PE (gCx X a.s a.H NG a.fp (gEnv X scope a.C a.code)) elt (te a)) (hs : ∀ v, genFold iter X.env v = pure v)
    (hst : starEach [.GeneratorExp elt [⟨tg, iter, [], 0⟩] scope gpos] X.env = (false, eval (.GeneratorExp elt [⟨tg, iter, [], 0⟩] scope gpos) X.env) :: starEach [] X.env := by rfl) :
    PE X (.Call (.Name "all" p) [.GeneratorExp elt [⟨tg, iter, [], 0⟩] scope gpos] [] pos) (tQG true P js wi g te) := by
  refine ⟨fun pins s σ H Q I h => ?_⟩
  refine wpAny_Call_Name_kw (ld_blt I hgl hm hb ?_)
  refine PyProof.Rows.callWith_builtin1 ?_ hst (by rfl)
  rw [hst]
  show wpAny _ _ (spliced ((false, eval (.GeneratorExp elt [⟨tg, iter, [], 0⟩] scope gpos) X.env) :: backTo pos (starEach [] X.env))) _ _ s
  refine Calls.spliced_cons (gen_make hr TB hcode G hi hN hs I h fun J H1 H3 a s5 hT hR M => ?_)
  refine Calls.spliced_nil ?_
  obtain ⟨s3, it, fp, tn, C, code, ob, gn, I3, T, st5, f3, fl, rfl, ha, I5, hgs, hob⟩ := M
  obtain ⟨N, Z, z0, turn⟩ := hR ⟨s3, H3, fp, s3.heap.objs.size, code⟩ H3 hT
  have fx : GFix X s3 fp (gEnv X scope s3.heap.objs.size code) a [] := gfix I3 G f3 fl ha (fun b hb => absurd hb (by simp))
  have pa := I5.pin (a, ob) (List.mem_append_right _ (List.mem_singleton.mpr rfl))
  have g0 : GenSt X s3 H3 NG fp (gEnv X scope s3.heap.objs.size code) a ob gn [] tn N Z (fun i y σ H => (y = .bl true ∧ Z (i + 1) σ H) ∨ (y = .bl false ∧ Q (.bl false) H)) (fun _ _ H => Q (.bl true) H) 0 s5 :=
    ⟨_, _, Nat.zero_le _, z0, I5, st5, fun b hb => (f3 b hb).1, fun b hb => absurd hb (by simp), _, hgs, fun s'' J2 st2 so2 => ⟨rfl, seg_start rfl G.co fx T (hg ⟨s3, H3, fp, s3.heap.objs.size, code⟩) (he ⟨s3, H3, fp, s3.heap.objs.size, code⟩ (room_g hr)) turn s'' _ _ z0 J2 st2 (fun b hb => (f3 b hb).1) so2⟩⟩
  refine call_function_tree F.kind_all F.plain_all F.entry_all (F.args_all1 _) ?_
  unfold Builtin.«all»
  refine wpAny_bind (m := oneArg "all" _) (wpAny_pure ?_)
  refine wpAny_bind (wpAny_pyIter_gen (hob _ pa.1) ?_)
  refine wpAny_pure ⟨plainId_quiet F.plain_all_loop _, codeAny_mono (all_loop (Q := Q) T hob hr.hd (by have := hr.dp; omega) N 0 s5 rfl g0) fun r s' hq => ?_⟩
  obtain ⟨b, σ', H', rfl, J2, q⟩ := hq
  exact ⟨.bl b, H', gen_after I3 f3 J2, rfl, q⟩
theorem pe_anyG (hr : Room (k + 1) X.A) (hgl : Gl X "any") (hm : X.mg "any" = none) (hb : bootBuiltins "any" = some (.builtin "any")) (TB : TabB X.base X.mg c P) (hcode : X.env.code = .ref c) (G : GSc X.env.scope scope) (hi : PI X tg iter wi) (hN : capB X.N NG scope js = true)
    (hg : ∀ a : GPar, PG (gCx X a.s a.H NG a.fp (gEnv X scope a.C a.code)) tg (g a)) (he : ∀ a : GPar, Room k (gA X (gEnv X scope a.C a.code)) → PE (gCx X a.s a.H NG a.fp (gEnv X scope a.C a.code)) elt (te a)) (hs : ∀ v, genFold iter X.env v = pure v)
    (hst : starEach [.GeneratorExp elt [⟨tg, iter, [], 0⟩] scope gpos] X.env = (false, eval (.GeneratorExp elt [⟨tg, iter, [], 0⟩] scope gpos) X.env) :: starEach [] X.env := by rfl) :
    PE X (.Call (.Name "any" p) [.GeneratorExp elt [⟨tg, iter, [], 0⟩] scope gpos] [] pos) (tQG false P js wi g te) := by
  refine ⟨fun pins s σ H Q I h => ?_⟩
  refine wpAny_Call_Name_kw (ld_blt I hgl hm hb ?_)
  refine PyProof.Rows.callWith_builtin1 ?_ hst (by rfl)
  rw [hst]
  show wpAny _ _ (spliced ((false, eval (.GeneratorExp elt [⟨tg, iter, [], 0⟩] scope gpos) X.env) :: backTo pos (starEach [] X.env))) _ _ s
  refine Calls.spliced_cons (gen_make hr TB hcode G hi hN hs I h fun J H1 H3 a s5 hT hR M => ?_)
  refine Calls.spliced_nil ?_
  obtain ⟨s3, it, fp, tn, C, code, ob, gn, I3, T, st5, f3, fl, rfl, ha, I5, hgs, hob⟩ := M
  obtain ⟨N, Z, z0, turn⟩ := hR ⟨s3, H3, fp, s3.heap.objs.size, code⟩ H3 hT
  have fx : GFix X s3 fp (gEnv X scope s3.heap.objs.size code) a [] := gfix I3 G f3 fl ha (fun b hb => absurd hb (by simp))
  have pa := I5.pin (a, ob) (List.mem_append_right _ (List.mem_singleton.mpr rfl))
  have g0 : GenSt X s3 H3 NG fp (gEnv X scope s3.heap.objs.size code) a ob gn [] tn N Z (fun i y σ H => (y = .bl false ∧ Z (i + 1) σ H) ∨ (y = .bl true ∧ Q (.bl true) H)) (fun _ _ H => Q (.bl false) H) 0 s5 :=
    ⟨_, _, Nat.zero_le _, z0, I5, st5, fun b hb => (f3 b hb).1, fun b hb => absurd hb (by simp), _, hgs, fun s'' J2 st2 so2 => ⟨rfl, seg_start rfl G.co fx T (hg ⟨s3, H3, fp, s3.heap.objs.size, code⟩) (he ⟨s3, H3, fp, s3.heap.objs.size, code⟩ (room_g hr)) turn s'' _ _ z0 J2 st2 (fun b hb => (f3 b hb).1) so2⟩⟩
  refine call_function_tree F.kind_any F.plain_any F.entry_any (F.args_any1 _) ?_
  unfold Builtin.«any»
  refine wpAny_bind (m := oneArg "any" _) (wpAny_pure ?_)
  refine wpAny_bind (wpAny_pyIter_gen (hob _ pa.1) ?_)
  refine wpAny_pure ⟨plainId_quiet F.plain_any_loop _, codeAny_mono (any_loop (Q := Q) T hob hr.hd (by have := hr.dp; omega) N 0 s5 rfl g0) fun r s' hq => ?_⟩
  obtain ⟨b, σ', H', rfl, J2, q⟩ := hq
  exact ⟨.bl b, H', gen_after I3 f3 J2, rfl, q⟩
theorem pe_sumG (hr : Room (k + 1) X.A) (hgl : Gl X "sum") (hm : X.mg "sum" = none) (hb : bootBuiltins "sum" = some (.builtin "sum")) (TB : TabB X.base X.mg c P) (hcode : X.env.code = .ref c) (G : GSc X.env.scope scope) (hi : PI X tg iter wi) (hN : capB X.N NG scope js = true)
    (hg : ∀ a : GPar, PG (gCx X a.s a.H NG a.fp (gEnv X scope a.C a.code)) tg (g a)) (he : ∀ a : GPar, Room k (gA X (gEnv X scope a.C a.code)) → PE (gCx X a.s a.H NG a.fp (gEnv X scope a.C a.code)) elt (te a)) (hs : ∀ v, genFold iter X.env v = pure v)
    (hst : starEach [.GeneratorExp elt [⟨tg, iter, [], 0⟩] scope gpos] X.env = (false, eval (.GeneratorExp elt [⟨tg, iter, [], 0⟩] scope gpos) X.env) :: starEach [] X.env := by rfl) :
    PE X (.Call (.Name "sum" p) [.GeneratorExp elt [⟨tg, iter, [], 0⟩] scope gpos] [] pos) (tSumG P js wi g te) := by
  refine ⟨fun pins s σ H Q I h => ?_⟩
  refine wpAny_Call_Name_kw (ld_blt I hgl hm hb ?_)
  refine PyProof.Rows.callWith_builtin1 ?_ hst (by rfl)
  rw [hst]
  show wpAny _ _ (spliced ((false, eval (.GeneratorExp elt [⟨tg, iter, [], 0⟩] scope gpos) X.env) :: backTo pos (starEach [] X.env))) _ _ s
  refine Calls.spliced_cons (gen_make hr TB hcode G hi hN hs I h fun J H1 H3 a s5 hT hR M => ?_)
  refine Calls.spliced_nil ?_
  obtain ⟨s3, it, fp, tn, C, code, ob, gn, I3, T, st5, f3, fl, rfl, ha, I5, hgs, hob⟩ := M
  obtain ⟨vals, Z, hfit, z0, turn⟩ := hR ⟨s3, H3, fp, s3.heap.objs.size, code⟩ H3 hT
  have pa := I5.pin (a, ob) (List.mem_append_right _ (List.mem_singleton.mpr rfl))
  have ha5 : a < s5.heap.objs.size := Heap.lt_size pa.1
  have fx : GFix X s3 fp (gEnv X scope s3.heap.objs.size code) a [s5.heap.objs.size] := gfix I3 G f3 fl ha (fun b hb => by rw [List.mem_singleton.mp hb]; exact ha5)
  refine call_function_tree F.kind_sum F.plain_sum F.entry_sum (F.args_sum1 _) ?_
  unfold Builtin.«sum»
  simp only [List.length_cons, List.length_nil]
  rw [if_neg (by decide)]
  refine wpAny_bind (wpAny_of_eq (show Builtin.Builtins.bindParams "sum" ["start"] 0 { } = pure [none] from rfl) ?_)
  refine wpAny_bind (wpAny_pyIter_gen (hob _ pa.1) ?_)
  refine wpAny_bind (wpAny_mkInt ?_)
  refine wpAny_bind (wpAny_pure ?_)
  simp only [List.forIn_cons, List.forIn_nil]
  refine wpAny_bind (wpAny_bind (wpAny_bind (wpAny_isInstance (T := "int") (b := false) (typeIs_int _ _ _) PySem.sub_int_str ?_)))
  simp only [Bool.false_eq_true, if_false]
  refine wpAny_pure (wpAny_bind (wpAny_bind (wpAny_isInstance (T := "int") (b := false) (typeIs_int _ _ _) PySem.sub_int_bytes ?_)))
  simp only [Bool.false_eq_true, if_false]
  refine wpAny_pure (wpAny_bind (wpAny_bind (wpAny_isInstance (T := "int") (b := false) (typeIs_int _ _ _) PySem.sub_int_bytearray ?_)))
  simp only [Bool.false_eq_true, if_false]
  refine wpAny_pure (wpAny_pure ?_)
  refine wpAny_bind (wpAny_newObj_type ?_)
  have I6 : Inv (gCx X s3 H3 NG fp (gEnv X scope s3.heap.objs.size code)) [(a, ob)] (capS js σ) H3 { s5 with heap := s5.heap.push { cls := .type "list", data := .seq #[.int 0 s5.toks] }, toks := s5.toks + 1 } := I5.kept fun b o e => Heap.get?_push_of_some _ e
  have hS6 : (s5.heap.push { cls := .type "list", data := .seq #[.int 0 s5.toks] }).get? s5.heap.objs.size = some { cls := .type "list", data := .seq #[.int 0 s5.toks] } := Heap.get?_push_size _ rfl
  have g0 : GenSt X s3 H3 NG fp (gEnv X scope s3.heap.objs.size code) a ob gn [s5.heap.objs.size] tn vals.length Z (fun i y σ H => ∃ v, vals[i]? = some v ∧ y = .int v ∧ Z (i + 1) σ H) (fun i _ H => i = vals.length ∧ Q (.int vals.sum) H) 0 { s5 with heap := s5.heap.push { cls := .type "list", data := .seq #[.int 0 s5.toks] }, toks := s5.toks + 1 } :=
    ⟨_, _, Nat.zero_le _, z0, I6, T.keep _ _ _ st5 fun b _ o e => Heap.get?_push_of_some _ e, fun b hb => (f3 b hb).1, fun b hb => by
      rw [List.mem_singleton.mp hb]
      exact ⟨I5.hok.fresh (Nat.le_refl _), _, hS6, fun v e => by cases e⟩, _, hgs, fun s'' J2 st2 so2 => ⟨rfl, seg_start rfl G.co fx T (hg ⟨s3, H3, fp, s3.heap.objs.size, code⟩) (he ⟨s3, H3, fp, s3.heap.objs.size, code⟩ (room_g hr)) turn s'' _ _ z0 J2 st2 (fun b hb => (f3 b hb).1) so2⟩⟩
  have hfS := fx.s s5.heap.objs.size (List.mem_singleton.mpr rfl)
  refine wpAny_pure ⟨plainId_quiet F.plain_sum_loop _, codeAny_mono (sum_loop (Q := Q) (fun b hb z => (fx.f b hb).2.2.2.2 (by rw [z]; exact List.mem_singleton.mpr rfl)) hfS.2.2.2.2 T hob hr.hd (by have := hr.dp; omega) ⟨hfS.1, hfS.2.1, hfS.2.2.1, hfS.2.2.2.1⟩ hfit vals.length 0 _ s5.toks _ rfl g0 hS6) fun r s' hq => ?_⟩
  obtain ⟨t, σ', H', rfl, J2, q⟩ := hq
  exact ⟨.int vals.sum, H', gen_after I3 f3 J2, ⟨t, rfl⟩, q⟩
end
end L3G

namespace L3
open PySem L2
open Evl (Ex ex_rd ex_l ex_t sq_of st_of fresh_back)

/-! ### generator expressions -/
def allM {α : Type} (f : α → Option Bool) : List α → Option Bool
  | [] => some true
  | x :: xs => match f x with
    | some true => allM f xs
    | o => o
def anyM {α : Type} (f : α → Option Bool) : List α → Option Bool
  | [] => some false
  | x :: xs => match f x with
    | some false => anyM f xs
    | o => o
def quM {α : Type} (al : Bool) (f : α → Option Bool) : List α → Option Bool
  | [] => some al
  | x :: xs => match f x with
    | some b => if b = al then quM al f xs else some b
    | none => none
theorem quM_all {α : Type} (f : α → Option Bool) : ∀ xs : List α, quM true f xs = allM f xs
  | [] => rfl
  | x :: xs => by
    unfold quM allM
    cases f x with
    | none => rfl
    | some b => cases b with
      | true => exact quM_all f xs
      | false => rfl
theorem quM_any {α : Type} (f : α → Option Bool) : ∀ xs : List α, quM false f xs = anyM f xs
  | [] => rfl
  | x :: xs => by
    unfold quM anyM
    cases f x with
    | none => rfl
    | some b => cases b with
      | false => exact quM_any f xs
      | true => rfl
def mapO {α β : Type} (f : α → Option β) : List α → Option (List β)
  | [] => some []
  | x :: xs => match f x, mapO f xs with
    | some y, some ys => some (y :: ys)
    | _, _ => none
theorem mapO_get {α β : Type} {f : α → Option β} : ∀ {xs : List α} {ys : List β}, mapO f xs = some ys → xs.length = ys.length ∧ ∀ (i : Nat) (x : α), xs[i]? = some x → ∃ y, f x = some y ∧ ys[i]? = some y
  | [], ys, h => by
    obtain rfl : [] = ys := Option.some.inj h
    exact ⟨rfl, fun i x e => by simp at e⟩
  | x :: xs, ys, h => by
    unfold mapO at h
    split at h
    · rename_i y ys' e1 e2
      obtain rfl := Option.some.inj h
      obtain ⟨h1, h2⟩ := mapO_get e2
      refine ⟨congrArg (· + 1) h1, fun i z e => ?_⟩
      cases i with
      | zero => obtain rfl : x = z := by simpa using e
                exact ⟨y, e1, rfl⟩
      | succ i => exact h2 i z (by simpa using e)
    · cases h
def longI (i : Int) : Bool := decide (-(2 ^ 63) ≤ i) && decide (i < 2 ^ 63)
def fits (acc : Int) : List Int → Bool
  | [] => true
  | v :: vs => longI v && longI (acc + v) && fits (acc + v) vs
def sumM {α : Type} (f : α → Option Int) (xs : List α) : Option Int := match mapO f xs with
  | some vs => if fits 0 vs = true then some vs.sum else none
  | none => none
theorem longI_ok {i : Int} (h : longI i = true) : InLong i := by
  unfold longI at h
  rw [Bool.and_eq_true, decide_eq_true_eq, decide_eq_true_eq] at h
  exact h
theorem fits_ok : ∀ {vs : List Int} {acc : Int}, fits acc vs = true → ∀ (j : Nat) (v : Int), vs[j]? = some v → InLong v ∧ InLong (acc + (vs.take j).sum + v)
  | [], _, _, _, _, e => by simp at e
  | w :: vs, acc, h, j, v, e => by
    unfold fits at h
    rw [Bool.and_eq_true, Bool.and_eq_true] at h
    cases j with
    | zero =>
      obtain rfl : w = v := by simpa using e
      exact ⟨longI_ok h.1.1, by simpa using longI_ok h.1.2⟩
    | succ j =>
      have := fits_ok h.2 j v (by simpa using e)
      refine ⟨this.1, ?_⟩
      rw [List.take_succ_cons, List.sum_cons, ← Int.add_assoc]
      exact this.2
section
variable {K : Fg} {M : Fr} {σ : St} {B : Hp} {L L1 L2 L' : List Cell} {α β γ δ : Type} {r : Rep α} {s : Rep β} {t : Rep γ} {ta tb tc te : TE} {tt tu : TT} {tA : TA} {i j k : Int} {b c : Bool} {P : Addr} {js : List (Option Nat)} {wi : TI} {g : L3G.GPar → TG} {ge : L3G.GPar → TE}
theorem Own.tabbed {H H' : Hp} (w : Own K B M L H) (hP : P ∈ M.T) (h : GxR.Tabbed P H H') : Own K B M L H' := by
  obtain ⟨h1, h2⟩ := h
  obtain ⟨t1, t2, t3, t4⟩ := w.t P hP
  refine ⟨fun a u e => ?_, fun a u e => ?_, w.bm, fun x hx => ?_, w.nd, fun R hR => ?_⟩
  · rw [h2 a (ne_of_none e t2)]; exact w.b a u e
  · rw [h2 a (ne_of_none e t3)]; exact w.m a u e
  · obtain ⟨⟨o, a1, a2⟩, a3, a4⟩ := w.l x hx
    exact ⟨⟨o, by rw [h2 x.p (fun e => t4 (by rw [← e]; exact List.mem_map.mpr ⟨x, hx, rfl⟩))]; exact a1, a2⟩, a3, a4⟩
  · obtain ⟨s1, s2, s3, s4⟩ := w.t R hR
    refine ⟨?_, s2, s3, s4⟩
    by_cases e : R = P
    · rw [e]; exact h1
    · obtain ⟨ps, q1, q2⟩ := s1
      exact ⟨ps, by rw [h2 R e]; exact q1, q2⟩
theorem ev_quG (al : Bool) {xs : List α} (hP : P ∈ M.T) (hi : EI K M wi σ B L r xs L1) (f : α → Option Bool) (Sg : St → Prop) (h0 : Sg (L3G.capS js σ)) (hm : quM al f xs = some b)
    (hs : ∀ a x c v B' H' σ', f x = some c → Ex B B' → Sg σ' → Own K B' M L1 H' → r.is K B' v x → ∀ Q : St → VK, (∀ σ2 B2 H2, Sg σ2 → Ex B' B2 → Own K B2 M L1 H2 → Q σ2 (.bl c) H2) → g a v σ' H' fun σ2 H2 => ge a σ2 H2 (Q σ2)) :
    EV K M (L3G.tQG al P js wi g ge) σ B L rBool b L1 := fun B1 H e w Q q =>
  hi B1 H e w _ fun J B2 H2 e2 w2 wk => by
    refine ⟨(w2.t P hP).1, fun a H3 hT => ?_⟩
    have w3 := w2.tabbed hP hT
    refine ⟨xs.length, fun i σ' H' => Sg σ' ∧ (∃ B', Ex B2 B' ∧ Own K B' M L1 H') ∧ i ≤ xs.length ∧ quM al f (xs.drop i) = some b, ⟨h0, ⟨B2, Ex.refl _, w3⟩, Nat.zero_le _, hm⟩, ?_⟩
    rintro i σ' H' ⟨sg, ⟨B', eb, w'⟩, hi, hq⟩
    by_cases hl : i = xs.length
    · subst hl
      refine .inl ⟨wk.stop B' L1 H' eb w', ?_⟩
      rw [List.drop_length] at hq
      obtain rfl : al = b := Option.some.inj hq
      exact q _ B' H' (e2.trans eb) w' rfl
    · have hlt : i < xs.length := by omega
      rw [List.drop_eq_getElem_cons hlt] at hq
      have hx : xs[i]? = some xs[i] := List.getElem?_eq_getElem hlt
      obtain ⟨g1, g2⟩ := wk.go i xs[i] B' L1 H' eb w' hx
      unfold quM at hq
      cases hf : f xs[i] with
      | none => rw [hf] at hq; cases hq
      | some c =>
        rw [hf] at hq
        refine .inr ⟨g1, hlt, fun x H4 hy => ?_⟩
        obtain ⟨B4, e4, w4, hr⟩ := g2 x H4 hy
        refine hs a xs[i] c x B4 H4 σ' hf ((e.trans e2).trans (eb.trans e4)) sg w4 hr _ fun σ2 B5 H5 sg5 e5 w5 => ?_
        have hq : (if c = al then quM al f (xs.drop (i + 1)) else some c) = some b := hq
        by_cases hc : c = al
        · rw [if_pos hc] at hq
          exact .inl ⟨by rw [hc], sg5, ⟨B5, (eb.trans e4).trans e5, w5⟩, hlt, hq⟩
        · rw [if_neg hc] at hq
          obtain rfl : c = b := Option.some.inj hq
          have hn : c = !al := by revert hc; cases c <;> cases al <;> simp
          exact .inr ⟨by rw [hn], hn ▸ q _ B5 H5 (((e2.trans eb).trans e4).trans e5) w5 rfl⟩
theorem ev_allG {xs : List α} (hP : P ∈ M.T) (hi : EI K M wi σ B L r xs L1) (f : α → Option Bool) (Sg : St → Prop) (h0 : Sg (L3G.capS js σ)) (hm : allM f xs = some b)
    (hs : ∀ a x c v B' H' σ', f x = some c → Ex B B' → Sg σ' → Own K B' M L1 H' → r.is K B' v x → ∀ Q : St → VK, (∀ σ2 B2 H2, Sg σ2 → Ex B' B2 → Own K B2 M L1 H2 → Q σ2 (.bl c) H2) → g a v σ' H' fun σ2 H2 => ge a σ2 H2 (Q σ2)) :
    EV K M (L3G.tQG true P js wi g ge) σ B L rBool b L1 := ev_quG true hP hi f Sg h0 (by rw [quM_all]; exact hm) hs
theorem ev_anyG {xs : List α} (hP : P ∈ M.T) (hi : EI K M wi σ B L r xs L1) (f : α → Option Bool) (Sg : St → Prop) (h0 : Sg (L3G.capS js σ)) (hm : anyM f xs = some b)
    (hs : ∀ a x c v B' H' σ', f x = some c → Ex B B' → Sg σ' → Own K B' M L1 H' → r.is K B' v x → ∀ Q : St → VK, (∀ σ2 B2 H2, Sg σ2 → Ex B' B2 → Own K B2 M L1 H2 → Q σ2 (.bl c) H2) → g a v σ' H' fun σ2 H2 => ge a σ2 H2 (Q σ2)) :
    EV K M (L3G.tQG false P js wi g ge) σ B L rBool b L1 := ev_quG false hP hi f Sg h0 (by rw [quM_any]; exact hm) hs
theorem ev_sumG {xs : List α} (hP : P ∈ M.T) (hi : EI K M wi σ B L r xs L1) (f : α → Option Int) (Sg : St → Prop) (h0 : Sg (L3G.capS js σ)) (hm : sumM f xs = some k)
    (hs : ∀ a x c v B' H' σ', f x = some c → Ex B B' → Sg σ' → Own K B' M L1 H' → r.is K B' v x → ∀ Q : St → VK, (∀ σ2 B2 H2, Sg σ2 → Ex B' B2 → Own K B2 M L1 H2 → Q σ2 (.int c) H2) → g a v σ' H' fun σ2 H2 => ge a σ2 H2 (Q σ2)) :
    EV K M (L3G.tSumG P js wi g ge) σ B L rInt k L1 := fun B1 H e w Q q =>
  hi B1 H e w _ fun J B2 H2 e2 w2 wk => by
    unfold sumM at hm
    split at hm
    · rename_i vs hvs
      split at hm
      · rename_i hfit
        obtain rfl := Option.some.inj hm
        obtain ⟨hlen, hget⟩ := mapO_get hvs
        refine ⟨(w2.t P hP).1, fun a H3 hT => ?_⟩
        have w3 := w2.tabbed hP hT
        refine ⟨vs, fun i σ' H' => Sg σ' ∧ (∃ B', Ex B2 B' ∧ Own K B' M L1 H') ∧ i ≤ vs.length, fun j v hv => by simpa using fits_ok hfit j v hv, ⟨h0, ⟨B2, Ex.refl _, w3⟩, Nat.zero_le _⟩, ?_⟩
        rintro i σ' H' ⟨sg, ⟨B', eb, w'⟩, hi⟩
        by_cases hl : i = vs.length
        · subst hl
          refine .inl ⟨by rw [← hlen]; exact wk.stop B' L1 H' eb w', rfl, q _ B' H' (e2.trans eb) w' rfl⟩
        · have hlt : i < vs.length := by omega
          have hlt' : i < xs.length := by omega
          have hx : xs[i]? = some xs[i] := List.getElem?_eq_getElem hlt'
          obtain ⟨g1, g2⟩ := wk.go i xs[i] B' L1 H' eb w' hx
          obtain ⟨y, f1, f2⟩ := hget i _ hx
          refine .inr ⟨g1, hlt, fun x H4 hy => ?_⟩
          obtain ⟨B4, e4, w4, hr⟩ := g2 x H4 hy
          refine hs a xs[i] y x B4 H4 σ' f1 ((e.trans e2).trans (eb.trans e4)) sg w4 hr _ fun σ2 B5 H5 sg5 e5 w5 => ?_
          exact ⟨y, f2, rfl, sg5, ⟨B5, (eb.trans e4).trans e5, w5⟩, hlt⟩
      · cases hm
    · cases hm
end
/-! ### a def with its code object -/
structure FunC (K : Fg) (x : Str) (st : Stmt) (f : Addr) (fd : FuncData) (c : Addr) : Prop where
  ex : ∃ (oc : Value) (od : Option Addr) (kV doc pm : Value) (an : Option Addr) (ct : Value) (osl : Array (Option Value)),
    fd = PySem.W.fnOf x x (defArgs st) (defBody st) (defScope st) .none kV doc pm an (.ref c) ct ∧ K.lookup f = some ⟨oc, od, .func fd, osl⟩ ∧ PySem.W.codeIn K (.ref c) x = true
  kp : PySem.W.keepIn K (.ref f) = true
theorem FunC.ok {P : Program} {w : World} {K : Fg} {mg : Str → Option Value} {base : Heap} {x : Str} {st : Stmt} {f : Addr} {fd : FuncData} {c : Addr} {N ps : List Str} {k : Nat} {sp : Sp} (F : FunC K x st f fd c) (S : FnScope N ps (defScope st)) (len : ∀ vs H Q E, sp vs H Q E → vs.length = ps.length)
    (hbody : ∀ (A : Around) (outer : List Env) (s : Shared) (H : Hp) (vs : List V) (Q : VK) (E : XK), Room k (A.deeper (PyProof.Rows.envOfC x (defScope st) s.heap.objs.size f (.ref c))) → sp vs H Q E →
      ∃ t, PSs (cxOf CX0 P w K mg base N x (defScope st) f (.ref c) A outer s H E).nox (defBody st) t ∧ t { nx := fun _ H' => Q .non H', rt := Q } (start N vs) H) : FnOk P w K mg base CX0 (k + 1) f fd ps sp := by
  obtain ⟨oc, od, kV, doc, pm, an, ct, osl, rfl, lk, hcd⟩ := F.ex
  refine fn_of lk hcd S len fun A outer s H vs Q E hr hsp => ?_
  obtain ⟨t, h, q⟩ := hbody A outer s H vs Q E hr hsp
  exact ⟨t, h.nox, q⟩
theorem FunC.binds {K : Fg} {x : Str} {st : Stmt} {f : Addr} {fd : FuncData} {c : Addr} {ps : List Str} (F : FunC K x st f fd c)
    (h : ∀ (kV doc pm : Value) (an : Option Addr) (cdv ct : Value) (us : List Value), us.length = ps.length → bindArgs (PySem.W.fnOf x x (defArgs st) (defBody st) (defScope st) .none kV doc pm an cdv ct) ⟨us, []⟩ = pure (ps.zip us)) : Binds K fd ps [] := by
  obtain ⟨oc, od, kV, doc, pm, an, ct, osl, rfl, lk, hcd⟩ := F.ex
  exact .all (h kV doc pm an _ ct)
theorem FunC.bindsA {K : Fg} {x : Str} {st : Stmt} {f : Addr} {fd : FuncData} {c : Addr} {ps : List Str} (F : FunC K x st f fd c)
    (h : ∀ (kV doc pm : Value) (an : Option Addr) (cdv ct : Value) (us : List Value), us.length = ps.length → bindArgs (PySem.W.fnOf x x (defArgs st) (defBody st) (defScope st) .none kV doc pm an cdv ct) ⟨us, []⟩ = pure (ps.zip us)) (s : Shared) (us : List Value) (hl : us.length = ps.length) : PySem.BindsTo s fd ⟨us, []⟩ (ps.zip us) := by
  obtain ⟨oc, od, kV, doc, pm, an, ct, osl, rfl, lk, hcd⟩ := F.ex
  exact .of_eq (h kV doc pm an _ ct us hl)
theorem funC_of {K : Fg} {x : Str} {st : Stmt} {fd : FuncData} (F : FunD K x x (defArgs st) (defBody st) (defScope st) [] [] (He.fAd K (x, none)) fd) : FunC K x st (He.fAd K (x, none)) fd (He.codeOf K (x, none)) := by
  obtain ⟨oc, od, dV, kV, doc, pm, an, cdv, ct, osl, rfl, lk, hcd, hD, hK⟩ := F.ex
  obtain ⟨c, rfl⟩ := He.codeIn_ref hcd
  rcases hD with ⟨_, rfl⟩ | ⟨e, _⟩
  · have e := He.codeOf_eq (p := (x, none)) lk (c := c) rfl
    rw [e]
    exact ⟨⟨oc, od, kV, doc, pm, an, ct, osl, rfl, lk, hcd⟩, F.kp⟩
  · exact absurd rfl e
end L3

/-! enumerate of a tuple -/
namespace L3G
open PySem PySem.Spec PyProof.Rows L2
set_option maxHeartbeats 4000000 in
theorem meets_enumT (t : Addr) (items : Array Value) :
    Meets (Builtin.«enumerate.__new__» ⟨[.type "enumerate", .ref t], []⟩) (fun _ R s => s.heap.IsTuple t items ∧
      R (.ok (.ret (.ref (s.heap.push { cls := .type "tuple_iterator", data := .fields #[.ref t, .int 0 0] }).objs.size)))
        { s with heap := (s.heap.push { cls := .type "tuple_iterator", data := .fields #[.ref t, .int 0 0] }).push { cls := .type "enumerate", data := .fields #[.none, .bool false, .ref s.heap.objs.size, rawInt 0, .none, .none] } }) :=
  .of_wp fun prog w A R s h => by
    obtain ⟨hp, g, d, tk, os⟩ := s; obtain ⟨hL, h⟩ := h
    have hsub := sub_enumerate
    obtain ⟨o, hl, hc, n, hd⟩ := id hL
    obtain ⟨oc, od, odt, osl⟩ := o
    replace hc : oc = .type "tuple" := hc
    replace hd : odt = .seq items n := hd
    subst hc hd
    wp_walk using wpAny_loadPart' hl
    refine wpAny_stack_any fun st => wpAny_pure ?_
    split
    · rename_i c _ _ _ _ _
      cases (c == Value.type "enumerate")
      · wp_walk using wpAny_loadPart' hl, wpAny_pyIter_tuple hL
        exact ⟨_, rfl, h⟩
      · wp_walk using wpAny_loadPart' hl, wpAny_pyIter_tuple hL
        exact ⟨_, rfl, h⟩
    · wp_walk using wpAny_loadPart' hl, wpAny_pyIter_tuple hL
      exact ⟨_, rfl, h⟩
section
variable {prog : Program} {w : World} {A : Around} {E : Value → Shared → Prop} {s : Shared}
theorem call_enumT {l : Addr} {items : Array Value} {Q : Value → Shared → Prop} (hL : s.heap.IsTuple l items)
    (h : ∀ h', IsEnum h' (s.heap.objs.size + 1) s.heap.objs.size 0 .none → h'.IsTupleIter s.heap.objs.size l 0 → h'.objs.size = s.heap.objs.size + 2 →
      (∀ b o, s.heap.get? b = some o → h'.get? b = some o) → Q (.ref (s.heap.objs.size + 1)) { s with heap := h' }) :
    wpAny (model prog w) A (call (.type "enumerate") [.ref l]) Q E s := by
  refine callType_new F.called_enumerate (by decide) (F.typeCall_enumerate_1 _) (F.newCall_enumerate_1 _) (fun obj => F.args_object_init_2 obj _) F.entry_enumerate_new
    (meets_enumT l items) ⟨hL, ?_⟩
  have hz : (s.heap.push { cls := .type "tuple_iterator", data := .fields #[.ref l, .int 0 0] }).objs.size = s.heap.objs.size + 1 := Heap.size_push ..
  show _ ∧ _
  rw [hz]
  have he : IsEnum ((s.heap.push { cls := .type "tuple_iterator", data := .fields #[.ref l, .int 0 0] }).push
      { cls := .type "enumerate", data := .fields #[.none, .bool false, .ref s.heap.objs.size, rawInt 0, .none, .none] }) (s.heap.objs.size + 1) s.heap.objs.size 0 .none := by
    have := Heap.get?_push_size (s.heap.push { cls := .type "tuple_iterator", data := .fields #[.ref l, .int 0 0] })
      (o := { cls := .type "enumerate", data := .fields #[.none, .bool false, .ref s.heap.objs.size, rawInt 0, .none, .none] }) rfl
    rw [hz] at this; exact this
  refine ⟨⟨_, he, rfl⟩, h _ he ⟨_, Heap.get?_push_of_some _ (Heap.get?_push_size _ rfl), rfl, rfl⟩ (by rw [Heap.size_push, hz]) fun b o x => Heap.get?_push_of_some _ (Heap.get?_push_of_some _ x)⟩
end
def IteT (K : PySem.W.Frag) (a : Addr) : It :=
  ⟨fun i H => ∃ (xs : List V) (x : V), SqT K H a xs ∧ xs[i]? = some x, fun i H v H' => ∃ T x, v = .ref T ∧ H T = none ∧ H' = upd H T (.tup [.int (i : Nat), x]) ∧ ∀ xs, SqT K H a xs → xs[i]? = some x, fun i H => ∃ xs : List V, SqT K H a xs ∧ xs.length ≤ i⟩
theorem turn_enumT {P : Program} {w : World} {K : PySem.W.Frag} {elts : List Expr} {kk : Nat} {tpos : Pos} (a e it : Addr) :
    Turn P w K (.Tuple elts kk tpos) (IteT K a) [e, it] e (fun i h => (∃ old, IsEnum h e it ((i : Nat) : Int) old) ∧ h.IsTupleIter it a i ∧ e ≠ it) where
  mem := by simp
  obj := fun i h st b hb => by
    obtain ⟨⟨old, he⟩, ⟨o, ho, hc, hd⟩, _⟩ := st
    have e' : b = e ∨ b = it := by simpa using hb
    rcases e' with z | z
    · rw [z]; exact ⟨_, he, fun v q => nomatch q⟩
    · rw [z]; exact ⟨o, ho, fun v q => by rw [hd] at q; cases q⟩
  keep := fun i h h' st k => let ⟨⟨old, he⟩, hi, hne⟩ := st; ⟨⟨old, k e (by simp) _ he⟩, hi.at fun o q => k it (by simp) o q, hne⟩
  item := by
    intro X hP hw hK hc i pins s σ H E I hf st hg
    subst hP hw hK
    obtain ⟨⟨old, he⟩, hit, hne⟩ := st
    obtain ⟨xs, x, hq, hx⟩ := hg
    obtain ⟨its, rv, p, hz⟩ := I.tuple hq
    obtain ⟨u, hu, ru⟩ := rv.get hx
    have p' : s.heap.IsTuple a its.toArray := p
    have hel : e < s.heap.objs.size := Heap.lt_size he
    have hil : it < s.heap.objs.size := by obtain ⟨_, q, _⟩ := hit; exact Heap.lt_size q
    have hai : a ≠ it := fun z => by
      obtain ⟨o1, q1, c1, _⟩ := hit
      obtain ⟨o2, q2, c2, _⟩ := p'
      rw [z, q1] at q2; cases q2
      rw [c1] at c2; exact absurd (Value.type.inj c2) (by decide)
    have hea : e ≠ a := fun z => by
      obtain ⟨o2, q2, c2, _⟩ := p'
      have he' : s.heap.get? e = some _ := he
      rw [z, q2] at he'; cases he'
      exact absurd (Value.type.inj c2) (by decide)
    have hsz : i < its.toArray.size := by
      have := (List.getElem?_eq_some_iff.mp hu).1
      simpa using this
    refine wpAny_pyNext_enum_itemD (PySem.Draws.tuple (A := X.A.in1) (I.ok.hd hc) it a hai its.toArray) he ⟨hit, p'⟩ hsz hne (by simp [hne, hea]) fun x' h' tk' hPx ho hit' hT hsz' hk => ?_
    have hPx : its[i]? = some x' := by simpa using hPx
    rw [hu] at hPx
    obtain rfl := Option.some.inj hPx
    refine ⟨_, rfl, wpAny_letOwnedTupleGo_enum (s := { s with heap := h', toks := tk' + 1 }) ho fun h'' he' sb => ?_⟩
    have hT2 : h''.get? s.heap.objs.size = some { cls := .type "tuple", data := .seq #[.int i tk', u] } := (sb.2 _ (Nat.ne_of_gt hel)).trans hT
    have new : ObjOk X.prog X.w (upd H s.heap.objs.size (.tup [.int (i : Nat), x])) h'' s.heap.objs.size (.tup [.int (i : Nat), x]) :=
      ⟨by show 2 ≤ sizeLine; decide, [.int i tk', u], .cons ⟨_, rfl⟩ (.cons ru .nil), ⟨_, hT2, rfl, _, rfl⟩⟩
    have I1 : Inv X pins σ (upd H s.heap.objs.size (.tup [.int (i : Nat), x])) { s with heap := h'', toks := tk' + 1 } :=
      I.turnedNew (ch := [e, it]) (fun b ob hb q => (sb.2 b (fun z => hb (by simp [z]))).trans (hk b ob (fun z => hb (by simp [z])) (fun z => hb (by simp [z])) q)) hf (Nat.le_refl _) new
    refine ⟨.ref s.heap.objs.size, _, I1, rfl, ⟨_, x, rfl, I.hok.fresh (Nat.le_refl _), rfl, fun ys hy => by rw [I.tuple_inj hy hq]; exact hx⟩, ⟨⟨u, ?_⟩, hit'.1.at fun o q => (sb.2 it (Ne.symm hne)).trans q, hne⟩, fun b hb => ?_⟩
    · have e1 : ((i + 1 : Nat) : Int) = (i : Int) + 1 := by omega
      rw [e1]; exact he'
    · have hb' : b < s.heap.objs.size := by
        have e' : b = e ∨ b = it := by simpa using hb
        rcases e' with z | z
        · rw [z]; exact hel
        · rw [z]; exact hil
      rw [upd_ne (Nat.ne_of_lt hb')]
      exact (hf b hb).1
  done := by
    intro X hP hw hK hc i pins s σ H E I hf st hg
    subst hP hw hK
    obtain ⟨⟨old, he⟩, hit, hne⟩ := st
    obtain ⟨xs, hq, hx⟩ := hg
    obtain ⟨its, rv, p, hz⟩ := I.tuple hq
    have p' : s.heap.IsTuple a its.toArray := p
    obtain ⟨f0, f1, f2, f3, f4, f5⟩ := hf it (by simp)
    have hl := rv.length
    have hT : s.TypeIs (.ref e) "enumerate" := ⟨_, he, rfl⟩
    unfold pyNext
    refine wpAny_bind (wpAny_attempt (wpAny_callSpecial?_slot (name := Str.ofString "__next__") hT F.slot_enumerate_next
      (wpAny_call_entry F.slot_enumerate_next hT F.entry_enumerate_next ?_ (F.args_enumerate_next_1 _))))
    show wpAny _ _ (field (.ref e) 2 >>= _) _ _ _
    refine wpAny_bind (wpAny_field he rfl (x := .ref it) rfl ?_)
    refine wpAny_bind (wpAny_nextOf_tuple_end (I.ok.hd hc) hit p' (by simp; omega) fun h' x he' hx' => ?_)
    obtain ⟨o, ho, hc'⟩ := hx'
    refine wpAny_bind (wpAny_isInstance (T := "StopIteration") (b := true) ⟨o, ho, hc'⟩ isSubtype_stop ?_)
    exact wpAny_pure ⟨rfl, I.turned (t' := s.toks) (fun b o hb q => he' b o hb q) f0 f1 f3 f4 f5⟩
  self := fun A i s Q E st h => let ⟨⟨_, he⟩, _⟩ := st; wpAny_pyIter_enum he h
def iEnumT (K : PySem.W.Frag) (ta : TA) : TI := fun σ H R => ta σ H fun vs H1 => ∃ a xs, vs = [.ref a] ∧ SqT K H1 a xs ∧ R (IteT K a) H1
theorem pi_enumT {X : Cx} {e : Expr} {ta : TA} {p pos tpos : Pos} {elts : List Expr} {kk : Nat} (hg : Gl X "enumerate") (hm : X.mg "enumerate" = none) (ha : PA X [e] ta) (hs : starEach [e] X.env = [(false, eval e X.env)] := by rfl) :
    PI X (.Tuple elts kk tpos) (.Call (.Name "enumerate" p) [e] [] pos) (iEnumT X.K ta) := by
  refine ⟨fun pins s σ H R I h => ?_⟩
  refine Call_ (ld_blt I hg hm boot_enumerate (PyProof.Rows.callWith_type1 (thn (ha.run pos pins s σ H _ I h) fun us s1 ⟨vs, H1, I1, r1, q1⟩ => ?_) hs rfl))
  obtain ⟨a, xs, ex, hq, q⟩ := q1
  subst ex
  cases r1 with
  | cons r rr =>
    cases rr
    cases r
    obtain ⟨its, rv, p', hz⟩ := I1.tuple hq
    refine call_enumT (show s1.heap.IsTuple a its.toArray from p') fun h' he hit hsz hk => wpAny_pyIter_enum he ?_
    have I2 : Inv X pins σ H1 { s1 with heap := h' } := I1.kept (t' := s1.toks) hk
    refine ⟨s1.heap.objs.size + 1, [s1.heap.objs.size + 1, s1.heap.objs.size], _, _, H1, rfl, I2, turn_enumT a (s1.heap.objs.size + 1) s1.heap.objs.size, ⟨⟨.none, he⟩, hit, Nat.succ_ne_self _⟩, fun b hb => ?_, q⟩
    have e' : b = s1.heap.objs.size + 1 ∨ b = s1.heap.objs.size := by simpa using hb
    have hle : s1.heap.objs.size ≤ b := by
      rcases e' with z | z
      · rw [z]; exact Nat.le_add_right _ _
      · rw [z]; exact Nat.le_refl _
    exact I1.fpOk hle (I1.hok.fresh hle)
end L3G
namespace L3
open PySem L2
open Evl (Ex ex_rd ex_l ex_t sq_of st_of fresh_back)
/-- (0, x), (1, y), .. -/
def enumI {α : Type} : Nat → List α → List (Int × α)
  | _, [] => []
  | n, x :: xs => ((n : Int), x) :: enumI (n + 1) xs
theorem enumI_len {α : Type} : ∀ (n : Nat) (xs : List α), (enumI n xs).length = xs.length
  | _, [] => rfl
  | n, _ :: xs => congrArg (· + 1) (enumI_len (n + 1) xs)
theorem enumI_get {α : Type} : ∀ {n i : Nat} {xs : List α} {q : Int × α}, (enumI n xs)[i]? = some q → q.1 = ((n + i : Nat) : Int) ∧ xs[i]? = some q.2
  | _, _, [], _, h => by simp [enumI] at h
  | n, 0, x :: xs, q, h => by
    obtain rfl : ((n : Int), x) = q := by simpa [enumI] using h
    exact ⟨rfl, rfl⟩
  | n, i + 1, x :: xs, q, h => by
    obtain ⟨h1, h2⟩ := enumI_get (n := n + 1) (i := i) (xs := xs) (q := q) (by simpa [enumI] using h)
    refine ⟨h1.trans ?_, h2⟩
    congr 1
    omega
section
variable {K : Fg} {M : Fr} {σ : St} {B : Hp} {L L1 L2 L' : List Cell} {α β γ δ : Type} {r : Rep α} {te : TE}
theorem ei_enumT {xs : List α} (h : EV K M te σ B L (rTup r) xs L') : EI K M (L3G.iEnumT K (tCons te tNil)) σ B L (rT2 rInt r) (enumI 0 xs) L' := fun B1 H e w R q => h B1 H e w _ fun v B2 H2 e2 w2 hv => by
  obtain ⟨p, vs, rfl, hs, hp⟩ := hv
  refine ⟨p, vs, rfl, ex_t w2.b hs, q _ B2 H2 e2 w2 ⟨fun i a B' L' H' e' w' hi => ?_, fun B' L' H' e' w' => ⟨vs, ex_t (e'.trans w'.b) hs, by rw [enumI_len, paired_len hp]; exact Nat.le_refl _⟩⟩⟩
  obtain ⟨h1, h2⟩ := enumI_get hi
  obtain ⟨x, hx, hr⟩ := paired_get hp h2
  refine ⟨⟨vs, x, ex_t (e'.trans w'.b) hs, hx⟩, fun y H3 hy => ?_⟩
  obtain ⟨T, z, rfl, hT, rfl, hy⟩ := hy
  have := hy vs (ex_t (e'.trans w'.b) hs)
  rw [hx] at this
  cases this
  have eN := Ex.new (o := HO.tup [.int (i : Nat), x]) (fresh_back w'.b hT)
  exact ⟨upd B' T _, eN, w'.ext hT, ⟨T, _, _, rfl, st_of upd_same, by rw [h1]; show V.int _ = V.int _; congr 1; simp, r.mono (e'.trans eN) hr⟩⟩
theorem ei_enumL {xs : List α} (h : EV K M te σ B L (rLst r) xs L') : EI K M (iEnum K (tCons te tNil)) σ B L (rT2 rInt r) (enumI 0 xs) L' := fun B1 H e w R q => h B1 H e w _ fun v B2 H2 e2 w2 hv => by
  obtain ⟨p, vs, rfl, hs, hp⟩ := rl_sc hv
  refine ⟨p, vs, rfl, ex_l w2.b hs, q _ B2 H2 e2 w2 ⟨fun i a B' L' H' e' w' hi => ?_, fun B' L' H' e' w' => ⟨vs, ex_l (e'.trans w'.b) hs, by rw [enumI_len, paired_len hp]; exact Nat.le_refl _⟩⟩⟩
  obtain ⟨h1, h2⟩ := enumI_get hi
  obtain ⟨x, hx, hr⟩ := paired_get hp h2
  refine ⟨⟨vs, x, ex_l (e'.trans w'.b) hs, hx⟩, fun y H3 hy => ?_⟩
  obtain ⟨T, z, rfl, hT, rfl, hy⟩ := hy
  have := hy vs (ex_l (e'.trans w'.b) hs)
  rw [hx] at this
  cases this
  have eN := Ex.new (o := HO.tup [.int (i : Nat), x]) (fresh_back w'.b hT)
  exact ⟨upd B' T _, eN, w'.ext hT, ⟨T, _, _, rfl, st_of upd_same, by rw [h1]; show V.int _ = V.int _; congr 1; simp, r.mono (e'.trans eN) hr⟩⟩
end
end L3

/-! a tuple backwards -/
namespace L3G
open PySem PySem.Spec PyProof.Rows L2 HT
section
variable {prog : Program} {w : World} {A : Around} {E : Value → Shared → Prop} {s : Shared}
theorem adjust_back (n : Nat) : Builtin.Slice.sliceAdjust none none (-1) (n : Int) = ((n : Int) - 1, -1) := by
  unfold Builtin.Slice.sliceAdjust
  simp
theorem places_back (n : Nat) : Builtin.Slice.slicePlaces ((n : Int) - 1) (-1) (-1) = n := by
  unfold Builtin.Slice.slicePlaces
  simp
  omega
theorem fm_some {α β : Type} {f : α → Option β} {g : α → β} : ∀ {l : List α}, (∀ m ∈ l, f m = some (g m)) → l.filterMap f = l.map g
  | [], _ => rfl
  | x :: l, h => by
    rw [List.filterMap_cons, h x List.mem_cons_self, List.map_cons, fm_some fun m hm => h m (List.mem_cons_of_mem _ hm)]
theorem pick_back (xs : Array Value) : ((List.range xs.size).filterMap fun (m : Nat) => xs[(((xs.size : Int) - 1) + (m : Int) * (-1)).toNat]?).toArray = xs.toList.reverse.toArray := by
  congr 1
  have e : ∀ m ∈ List.range xs.size, xs[(((xs.size : Int) - 1) + (m : Int) * (-1)).toNat]? = some ((xs.toList.reverse).getD m .none) := fun m hm => by
    have hm := List.mem_range.mp hm
    have e1 : (((xs.size : Int) - 1) + (m : Int) * (-1)).toNat = xs.size - 1 - m := by omega
    rw [e1, List.getD_eq_getElem?_getD, List.getElem?_reverse (by simpa using hm), Array.length_toList, Array.getElem?_toList]
    cases q : xs[xs.size - 1 - m]? with
    | none => have := Array.getElem?_eq_none_iff.mp q; omega
    | some v => rfl
  rw [fm_some e]
  refine List.ext_getElem? fun i => ?_
  rw [List.getElem?_map]
  by_cases hi : i < xs.size
  · rw [List.getElem?_range hi]
    have hl : i < xs.toList.reverse.length := by simpa using hi
    simp only [Option.map_some]
    rw [List.getD_eq_getElem?_getD, List.getElem?_eq_getElem hl]
    rfl
  · rw [List.getElem?_eq_none (by simpa using hi), List.getElem?_eq_none (by simpa using hi)]
    rfl
theorem sliceApplied_back {sl : Addr} {n : Nat} {vs : Value} {Q : Int × Int × Nat → Shared → Prop} (hs : s.heap.IsSliceOf sl .none .none vs) (pv : IsPart vs (some (-1)))
    (h : Q ((n : Int) - 1, -1, n) s) : wpAny (model prog w) A (Builtin.Slice.sliceApplied (.ref sl) (pure (n : Int))) Q E s := by
  obtain ⟨os, hos, hcs, hds⟩ := id hs
  unfold Builtin.Slice.sliceApplied Builtin.Slice.sliceFields
  refine wpAny_bind (wpAny_bind (wpAny_field hos hds (x := .none) rfl (wpAny_bind (wpAny_field hos hds (x := .none) rfl (wpAny_bind (wpAny_field hos hds (x := vs) rfl (wpAny_pure ?_)))))))
  refine wpAny_bind (slicePart_ pv ?_)
  show wpAny _ _ (if ((-1 : Int) == 0) = true then _ else _) _ _ s
  rw [if_neg (by decide)]
  refine wpAny_bind (slicePart_ (o := none) .none (wpAny_bind (slicePart_ (o := none) .none (wpAny_bind (wpAny_pure ?_)))))
  show wpAny _ _ (match Builtin.Slice.sliceAdjust none none (-1) (n : Int) with | (lo, hi) => pure (lo, (-1 : Int), Builtin.Slice.slicePlaces lo hi (-1))) _ _ s
  rw [adjust_back]
  show wpAny _ _ (pure ((n : Int) - 1, (-1 : Int), Builtin.Slice.slicePlaces ((n : Int) - 1) (-1) (-1))) _ _ s
  rw [places_back]
  exact wpAny_pure h
theorem getItem_tuple_back {t sl : Addr} {items : Array Value} {vs : Value} {Q : Value → Shared → Prop} (ht : IsTup s.heap t items) (hs : s.heap.IsSliceOf sl .none .none vs) (pv : IsPart vs (some (-1)))
    (h : Q (.ref s.heap.objs.size) { s with heap := s.heap.push { cls := .type "tuple", data := .seq items.toList.reverse.toArray } })
    (hsz : items.size ≤ sizeLine) : wpAny (model prog w) A (getItem (.ref t) (.ref sl)) Q E s := by
  have htake : sizeOk (.seq items.toList.reverse.toArray) := by
    show items.toList.reverse.toArray.size ≤ sizeLine
    rw [List.size_toArray, List.length_reverse, Array.length_toList]
    exact hsz
  obtain ⟨os, hos, hcs, hds⟩ := id hs
  have hTs : s.TypeIs (.ref sl) "slice" := ⟨os, hos, hcs⟩
  unfold getItem
  try with_reducible refine wpAny_holding ?_
  first | refine wpAny_bind (wpAny_pure ?_) | skip
  refine wpAny_bind (wpAny_sequenceKey ht.typeIs (by decide) ?_)
  refine wpAny_bind (wpAny_callSpecial?_slot (name := Str.ofString "__getitem__") ht.typeIs PyProof.Rows.slot_tuple_getitem
    (wpAny_call_entry PyProof.Rows.slot_tuple_getitem ht.typeIs PyProof.Rows.entry_tuple_getitem ?_ (PyProof.Rows.args_tuple_getitem _ _)))
  show wpAny _ _ (Builtin.Tuple.tupleItemsOf (.ref t) >>= _) _ _ s
  refine wpAny_bind (tupleItemsOf_ ht ?_)
  refine wpAny_bind (wpAny_typeOf hTs ?_)
  rw [if_pos (by decide)]
  refine wpAny_bind (sliceApplied_back hs pv ?_)
  have hno : ¬ ((((items.size : Int) - 1) == 0 && (-1 : Int) == 1 && items.size == items.size) = true) := by
    intro q
    rw [Bool.and_eq_true, Bool.and_eq_true] at q
    exact absurd q.1.2 (by decide)
  show wpAny _ _ (if (((items.size : Int) - 1) == 0 && (-1 : Int) == 1 && items.size == items.size) = true then _ else _) _ _ s
  rw [if_neg hno, pick_back]
  first
    | exact wpAny_bind (m := Builtin.Tuple.tupleExact _) (wpAny_newObj_type (wpAny_pure ⟨_, rfl, wpAny_pure h⟩) htake)
    | exact wpAny_bind (m := Builtin.Tuple.tupleExact _) (wpAny_newObj_type (wpAny_bind (wpAny_pure (wpAny_pure ⟨_, rfl, wpAny_pure h⟩))) htake)
    | exact wpAny_bind (wpAny_bind (m := Builtin.Tuple.tupleExact _) (wpAny_newObj_type (wpAny_pure (wpAny_pure ⟨_, rfl, wpAny_pure h⟩)) htake))
    | exact wpAny_bind (wpAny_bind (m := Builtin.Tuple.tupleExact _) (wpAny_newObj_type (wpAny_pure ⟨_, rfl, wpAny_pure h⟩) htake))
end
def tRevT (K : PySem.W.Frag) (te : TE) : TE := fun σ H Q => te σ H fun x H1 => ∃ a xs, x = .ref a ∧ SqT K H1 a xs ∧ ∀ p, H1 p = none → Q (.ref p) (upd H1 p (.tup xs.reverse))
theorem pe_revT {X : Cx} {e : Expr} {te : TE} {k : Nat} {p1 p2 p3 pos : Pos} (he : PE X e te) : PE X (.Subscript e (.Slice none none (some (.UnaryOp .USub (.Constant (.int 1) k p1) p2)) p3) pos) (tRevT X.K te) := by
  refine ⟨fun pins s σ H Q I h => ?_⟩
  refine Subscript_ (thn (he.run pins s σ H _ I h) fun v s1 ⟨x, H1, I1, r1, q1⟩ => ?_)
  obtain ⟨a, xs, ex, hx, q⟩ := q1
  subst ex
  cases r1
  have hst : PO X (some (.UnaryOp .USub (.Constant (.int 1) k p1) p2)) (tPart (tUn (rU fun i => .int (-i)) (tC (.int 1)))) := po_some (pe_un un_neg pe_int)
  refine wpAny_Slice ?_
  rw [evalPart_none]
  refine wpAny_pure ?_
  refine wpAny_pure ?_
  refine thn (hst.run pins s1 σ H1 (fun o H4 => o = some (-1) ∧ H4 = H1) I1 ⟨1, rfl, -1, rfl, rfl, rfl⟩) fun vs s4 ⟨o, H4, I4, ps, eo, e4⟩ => ?_
  subst eo e4
  have I5 : Inv X pins σ H4 { s4 with heap := s4.heap.push { cls := .type "slice", data := .fields #[.none, .none, vs] } } := I4.kept (t' := s4.toks) fun b ob q => Heap.get?_push_of_some _ q
  obtain ⟨its, r, ht, hz⟩ := I5.tuple hx
  have hlen := r.length
  show wpAny (model X.prog X.w) X.A (subscriptTail e (.Slice none none (some (.UnaryOp .USub (.Constant (.int 1) k p1) p2)) p3) (.ref a) (.ref s4.heap.objs.size)) (EP X pins σ Q) X.xe { s4 with heap := s4.heap.push { cls := .type "slice", data := .fields #[.none, .none, vs] } }
  refine tail_any (ops := [.ref a, .ref s4.heap.objs.size]) ht.typeIs (PyProof.Rows.slot_tuple_getitem.lookup) ?_ (by with_unfolding_all rfl)
  refine getItem_tuple_back ht (Heap.IsSliceOf.new _ .none .none vs) ps ?_ (by rw [List.size_toArray]; omega)
  refine ⟨.ref _, _, I5.laid (t' := s4.toks) (o := .tup xs.reverse) (fun b ob q => Heap.get?_push_of_some _ q) (Nat.le_refl _) ?_, rfl, q _ (I5.hok.fresh (Nat.le_refl _))⟩
  exact ⟨by rw [List.length_reverse]; exact hz, _, r.reverse, IsTup.new _ _⟩
end L3G
namespace L3
open PySem L2
open Evl (Ex ex_rd ex_l ex_t sq_of st_of fresh_back)

/-! ### comprehensions -/
def compM {S α β : Type} (f : S → α → Option (Option β × S)) : S → List α → Option (List β × S)
  | s, [] => some ([], s)
  | s, x :: xs => match f s x with
    | some (o, s') => (match compM f s' xs with
      | some (ys, s2) => some (o.toList ++ ys, s2)
      | none => none)
    | none => none
section
variable {K : Fg} {M : Fr} {σ : St} {B : Hp} {L L1 L2 L' : List Cell} {α β γ δ : Type} {r : Rep α} {s : Rep β} {t : Rep γ} {ta tb tc te : TE} {tt tu : TT} {tA : TA} {i j k : Int} {b c : Bool} {wi : TI} {g : TG}
theorem compM_len {S : Type} {f : S → α → Option (Option β × S)} : ∀ {xs : List α} {s0 s1 : S} {ys : List β}, compM f s0 xs = some (ys, s1) → ys.length ≤ xs.length
  | [], _, _, _, h => by obtain ⟨rfl, _⟩ := Prod.mk.inj (Option.some.inj h); exact Nat.le_refl _
  | x :: xs, s0, s1, ys, h => by
    unfold compM at h
    cases e : f s0 x with
    | none => rw [e] at h; cases h
    | some q =>
      obtain ⟨o, s'⟩ := q
      rw [e] at h
      dsimp only at h
      cases e2 : compM f s' xs with
      | none => rw [e2] at h; cases h
      | some q2 =>
        obtain ⟨zs, s2⟩ := q2
        rw [e2] at h
        obtain ⟨rfl, _⟩ := Prod.mk.inj (Option.some.inj h)
        have := compM_len e2
        cases o <;> simp <;> omega
theorem lc_yes {PY : VK} {PN : Hp → Prop} {H : Hp} (h : te σ H PY) : tYes σ H fun b H3 => if b = true then te σ H3 PY else PN H3 := by
  show (if true = true then te σ H PY else PN H)
  rw [if_pos rfl]
  exact h
theorem lc_if {b : Bool} {X Y : Prop} (h1 : b = true → X) (h2 : b = false → Y) : if b = true then X else Y := by
  cases b with
  | true => rw [if_pos rfl]; exact h1 rfl
  | false => rw [if_neg Bool.false_ne_true]; exact h2 rfl
theorem el_lc {S : Type} {vs : List Nat} {σ' : St} {xs : List α} {ys : List β} {s0 s1 : S} (s : Rep β) (hi : EI K M wi σ B L r xs L1) (f : S → α → Option (Option β × S)) (Lf : S → List Cell) (hL : Lf s0 = L1) (hm : compM f s0 xs = some (ys, s1)) (hr : room xs.length = some ()) (hw : wipe σ vs = σ')
    (hs : ∀ st x o st' v D acc B' H', f st x = some (o, st') → Ex B B' → Own K B' M (⟨D, cLst s, acc⟩ :: Lf st) H' → r.is K B' v x → ∀ (PY : VK) (PN : Hp → Prop),
      (∀ y B2 H2 b, o = some b → Ex B' B2 → Own K B2 M (⟨D, cLst s, acc⟩ :: Lf st') H2 → s.is K B2 y b → PY y H2) → (∀ B2 H2, o = none → Ex B' B2 → Own K B2 M (⟨D, cLst s, acc⟩ :: Lf st') H2 → PN H2) →
      g v σ' H' fun σ2 H2 => wipe σ2 vs = σ' ∧ tt σ2 H2 fun b H3 => if b = true then te σ2 H3 PY else PN H3) :
    EVL K M (tLc wi g tt te vs) σ B L s ys (Lf s1) := fun B1 H e w Q q => by
  refine hi B1 H e w _ fun J B2 H2 e2 w2 wk => ?_
  intro D hD
  subst hL
  subst hw
  have w3 : Own K B2 M (⟨D, cLst s, []⟩ :: Lf s0) (upd H2 D (.lst [])) := w2.new hD ⟨[], rfl, .nil⟩
  refine ⟨fun i m H' => m = xs.length - i ∧ i ≤ xs.length ∧ ∃ st acc B', Ex B2 B' ∧ Own K B' M (⟨D, cLst s, acc⟩ :: Lf st) H' ∧ acc.length ≤ i ∧ ∃ zs, compM f st (xs.drop i) = some (zs, s1) ∧ acc ++ zs = ys,
    ⟨_, rfl, Nat.zero_le _, s0, [], B2, Ex.refl _, w3, Nat.zero_le _, ys, hm, rfl⟩, ?_⟩
  rintro i m H' ⟨rfl, hil, st, acc, B', eb, w', hacc, zs, hz, hzs⟩
  by_cases hl : i = xs.length
  · subst hl
    rw [List.drop_length] at hz
    obtain ⟨rfl, rfl⟩ := Prod.mk.inj (Option.some.inj hz)
    rw [List.append_nil] at hzs
    subst hzs
    exact .inl ⟨wk.stop B' _ H' eb w', q D B' H' (e2.trans eb) w'⟩
  · have hlt : i < xs.length := by omega
    rw [List.drop_eq_getElem_cons hlt] at hz
    have hx : xs[i]? = some xs[i] := List.getElem?_eq_getElem hlt
    obtain ⟨g1, g2⟩ := wk.go i xs[i] B' _ H' eb w' hx
    unfold compM at hz
    cases hf : f st xs[i] with
    | none => rw [hf] at hz; cases hz
    | some q2 =>
      obtain ⟨o, st'⟩ := q2
      rw [hf] at hz
      dsimp only at hz
      cases hc : compM f st' (xs.drop (i + 1)) with
      | none => rw [hc] at hz; cases hz
      | some q3 =>
        obtain ⟨zs', s2⟩ := q3
        rw [hc] at hz
        obtain ⟨rfl, rfl⟩ := Prod.mk.inj (Option.some.inj hz)
        refine .inr ⟨g1, fun H5 => i + 1 ≤ xs.length ∧ ∃ st acc B', Ex B2 B' ∧ Own K B' M (⟨D, cLst s, acc⟩ :: Lf st) H5 ∧ acc.length ≤ i + 1 ∧ ∃ zs, compM f st (xs.drop (i + 1)) = some (zs, s2) ∧ acc ++ zs = ys, fun H5 h5 => ⟨xs.length - (i + 1), by omega, rfl, h5⟩, fun x H4 hy => ?_⟩
        obtain ⟨B4, e4, w4, hrx⟩ := g2 x H4 hy
        have hb := (e.trans e2).trans (eb.trans e4)
        refine hs st xs[i] o st' x D acc B4 H4 hf hb w4 hrx (fun y H6 => ∃ acc', H6 D = some (.lst acc') ∧ acc'.length < sizeLine ∧ (fun H5 => i + 1 ≤ xs.length ∧ ∃ st acc B', Ex B2 B' ∧ Own K B' M (⟨D, cLst s, acc⟩ :: Lf st) H5 ∧ acc.length ≤ i + 1 ∧ ∃ zs, compM f st (xs.drop (i + 1)) = some (zs, s2) ∧ acc ++ zs = ys) (upd H6 D (.lst (acc' ++ [y])))) _ (fun y B5 H5 b' ho e5 w5 hyb => ?_) fun B5 H5 ho e5 w5 => ?_
        · subst ho
          obtain ⟨⟨o', a1, vs', a2, a3⟩, _⟩ := w5.at (i := 0) rfl
          have a1 : H5 D = some o' := a1
          refine ⟨vs', by rw [a1, a2], ?_, hlt, st', acc ++ [b'], B5, (eb.trans e4).trans e5, w5.set (i := 0) rfl (c' := cLst s) ⟨_, rfl, paired_app a3 (.cons hyb .nil)⟩, by simp; omega, zs', hc, by simpa using hzs⟩
          have hq := room_some hr
          have := paired_len a3
          have : vs'.length = acc.length := this
          omega
        · subst ho
          exact ⟨hlt, st', acc, B5, (eb.trans e4).trans e5, w5, by omega, zs', hc, by simpa using hzs⟩
/-! ### tuple(..), list(..) -/
theorem ev_tupOfL {xs : List α} (h : EV K M te σ B L (rLst r) xs L') : EV K M (tCB (fun xs H Q => ∃ p ys, xs = [.ref p] ∧ ((SqL K H p ys ∧ ∀ l, H l = none → Q (.ref l) (upd H l (.tup ys))) ∨ (SqT K H p ys ∧ Q (.ref p) H))) (tCons te tNil)) σ B L (rTup r) xs L' := fun B1 H e w Q q =>
  h B1 H e w _ fun v B2 H2 e2 w2 hv => by
    obtain ⟨p, vs, rfl, hs, hp⟩ := rl_sc hv
    refine ⟨p, vs, rfl, .inl ⟨ex_l w2.b hs, fun l hl => ?_⟩⟩
    have eN := Ex.new (o := HO.tup vs) (fresh_back w2.b hl)
    exact q _ (upd B2 l _) _ (e2.trans eN) (w2.ext hl) ⟨l, vs, rfl, st_of upd_same, paired_mono eN hp⟩
theorem ev_tupOfT {xs : List α} (h : EV K M te σ B L (rTup r) xs L') : EV K M (tCB (fun xs H Q => ∃ p ys, xs = [.ref p] ∧ ((SqL K H p ys ∧ ∀ l, H l = none → Q (.ref l) (upd H l (.tup ys))) ∨ (SqT K H p ys ∧ Q (.ref p) H))) (tCons te tNil)) σ B L (rTup r) xs L' := fun B1 H e w Q q =>
  h B1 H e w _ fun v B2 H2 e2 w2 hv => by
    obtain ⟨p, vs, rfl, hs, hp⟩ := hv
    exact ⟨p, vs, rfl, .inr ⟨ex_t w2.b hs, q _ B2 H2 e2 w2 ⟨p, vs, rfl, hs, hp⟩⟩⟩
theorem el_listOf {xs : List α} (h : EV K M te σ B L (rSeq r) xs L') : EVL K M (tCB (fun xs H Q => ∃ p ys, xs = [.ref p] ∧ (SqL K H p ys ∨ SqT K H p ys) ∧ ∀ l, H l = none → Q (.ref l) (upd H l (.lst ys))) (tCons te tNil)) σ B L r xs L' := fun B1 H e w Q q =>
  h B1 H e w _ fun v B2 H2 e2 w2 hv => by
    obtain ⟨p, vs, rfl, hs, hp⟩ := hv
    exact ⟨p, vs, rfl, hs.imp (ex_l w2.b) (ex_t w2.b), fun l hl => q l B2 _ e2 (w2.new hl ⟨vs, rfl, hp⟩)⟩
theorem el_listOfC {n : Nat} {p : Addr} {xs : List α} (h : EV K M te σ B L rRef p L') (hc : L'[n]? = some ⟨p, cLst r, xs⟩) : EVL K M (tCB (fun xs H Q => ∃ p ys, xs = [.ref p] ∧ (SqL K H p ys ∨ SqT K H p ys) ∧ ∀ l, H l = none → Q (.ref l) (upd H l (.lst ys))) (tCons te tNil)) σ B L r xs L' := fun B1 H e w Q q =>
  h B1 H e w _ fun v B2 H2 e2 w2 hv => by
    have hv : v = .ref p := hv
    subst hv
    obtain ⟨⟨o, h1, vs, h2, hp⟩, _⟩ := w2.at hc
    have h1 : H2 p = some o := h1
    exact ⟨p, vs, rfl, .inl (sq_of (by rw [h1, h2])), fun l hl => q l B2 _ e2 (w2.new hl ⟨vs, rfl, hp⟩)⟩
theorem ev_tupOfC {n : Nat} {p : Addr} {xs : List α} (h : EV K M te σ B L rRef p L') (hc : L'[n]? = some ⟨p, cLst r, xs⟩) : EV K M (tCB (fun xs H Q => ∃ p ys, xs = [.ref p] ∧ ((SqL K H p ys ∧ ∀ l, H l = none → Q (.ref l) (upd H l (.tup ys))) ∨ (SqT K H p ys ∧ Q (.ref p) H))) (tCons te tNil)) σ B L (rTup r) xs L' := fun B1 H e w Q q =>
  h B1 H e w _ fun v B2 H2 e2 w2 hv => by
    have hv : v = .ref p := hv
    subst hv
    obtain ⟨⟨o, h1, vs, h2, hp⟩, _⟩ := w2.at hc
    have h1 : H2 p = some o := h1
    refine ⟨p, vs, rfl, .inl ⟨sq_of (by rw [h1, h2]), fun l hl => ?_⟩⟩
    have eN := Ex.new (o := HO.tup vs) (fresh_back w2.b hl)
    exact q _ (upd B2 l _) _ (e2.trans eN) (w2.ext hl) ⟨l, vs, rfl, st_of upd_same, paired_mono eN hp⟩
/-! ### slices -/
def cutL (xs : List α) (lo hi : Option Int) : List α := (xs.drop (HT.sIx xs.length 0 lo)).take (HT.sIx xs.length xs.length hi - HT.sIx xs.length 0 lo)
theorem paired_cut {F : V → α → Prop} {xs : List V} {as : List α} (h : Paired F xs as) (lo hi : Option Int) : Paired F (cutV xs lo hi) (cutL as lo hi) := by
  unfold cutV cutL
  rw [paired_len h]
  exact paired_take _ (paired_drop _ h)
def EO (K : Fg) (M : Fr) (t : TO) (σ : St) (B : Hp) (L : List Cell) (o : Option Int) (L' : List Cell) : Prop :=
  ∀ B1 H, Ex B B1 → Own K B1 M L H → ∀ Q : Option Int → Hp → Prop, (∀ B2 H2, Ex B1 B2 → Own K B2 M L' H2 → Q o H2) → t σ H Q
theorem eo_none : EO K M tNoPart σ B L none L := fun B1 H e w Q q => q B1 H (Ex.refl _) w
theorem eo_some (h : EV K M te σ B L rInt i L') : EO K M (tPart te) σ B L (some i) L' := fun B1 H e w Q q => h B1 H e w _ fun v B2 H2 e2 w2 hv => ⟨i, hv, q B2 H2 e2 w2⟩
theorem cut_all {xs : List α} {lo hi : Option Int} (h1 : HT.sIx xs.length 0 lo = 0) (h2 : HT.sIx xs.length xs.length hi = xs.length) : cutL xs lo hi = xs := by
  unfold cutL
  rw [h1, h2]
  simp
theorem ev_slT {xs : List α} {tl th : TO} {lo hi : Option Int} (h : EV K M te σ B L (rTup r) xs L1) (hl : EO K M tl σ B L1 lo L2) (hh : EO K M th σ B L2 hi L') : EV K M (tSl (rSlA K) te tl th) σ B L (rTup r) (cutL xs lo hi) L' := fun B1 H e w Q q =>
  h B1 H e w _ fun v B2 H2 e2 w2 hv => hl B2 H2 (e.trans e2) w2 _ fun B3 H3 e3 w3 => hh B3 H3 ((e.trans e2).trans e3) w3 _ fun B4 H4 e4 w4 => by
    obtain ⟨p, vs, rfl, hs, hp⟩ := hv
    have e34 := e3.trans e4
    have hp4 := paired_mono e34 hp
    refine ⟨p, vs, rfl, ex_t w4.b (ex_t e34 hs), fun ⟨h1, h2⟩ => ?_, fun _ l hl => ?_⟩
    · refine q _ B4 H4 (e2.trans e34) w4 ⟨p, vs, rfl, ex_t e34 hs, ?_⟩
      rw [paired_len hp] at h1 h2
      rw [cut_all h1 h2]
      exact hp4
    · have eN := Ex.new (o := HO.tup (cutV vs lo hi)) (fresh_back w4.b hl)
      exact q _ (upd B4 l _) _ ((e2.trans e34).trans eN) (w4.ext hl) ⟨l, _, rfl, st_of upd_same, paired_mono eN (paired_cut hp4 lo hi)⟩
theorem el_slL {xs : List α} {tl th : TO} {lo hi : Option Int} (h : EV K M te σ B L (rLst r) xs L1) (hl : EO K M tl σ B L1 lo L2) (hh : EO K M th σ B L2 hi L') : EVL K M (tSl (rSlL K) te tl th) σ B L r (cutL xs lo hi) L' := fun B1 H e w Q q =>
  h B1 H e w _ fun v B2 H2 e2 w2 hv => hl B2 H2 (e.trans e2) w2 _ fun B3 H3 e3 w3 => hh B3 H3 ((e.trans e2).trans e3) w3 _ fun B4 H4 e4 w4 => by
    obtain ⟨p, vs, rfl, hs, hp⟩ := rl_sc hv
    have e34 := e3.trans e4
    exact ⟨p, vs, rfl, ex_l w4.b (ex_l e34 hs), fun l hl => q l B4 _ (e2.trans e34) (w4.new hl ⟨_, rfl, paired_cut (paired_mono e34 hp) lo hi⟩)⟩
theorem el_revL {xs : List α} (h : EV K M te σ B L (rLst r) xs L') : EVL K M (tRevL K te) σ B L r xs.reverse L' := fun B1 H e w Q q =>
  h B1 H e w _ fun v B2 H2 e2 w2 hv => by
    obtain ⟨p, vs, rfl, hs, hp⟩ := rl_sc hv
    exact ⟨p, vs, rfl, ex_l w2.b hs, fun l hl => q l B2 _ e2 (w2.new hl ⟨_, rfl, paired_rev hp⟩)⟩
theorem el_revC {n : Nat} {p : Addr} {xs : List α} (h : EV K M te σ B L rRef p L') (hc : L'[n]? = some ⟨p, cLst r, xs⟩) : EVL K M (tRevL K te) σ B L r xs.reverse L' := fun B1 H e w Q q =>
  h B1 H e w _ fun v B2 H2 e2 w2 hv => by
    have hv : v = .ref p := hv
    subst hv
    obtain ⟨⟨o, h1, vs, h2, hp⟩, _⟩ := w2.at hc
    have h1 : H2 p = some o := h1
    exact ⟨p, vs, rfl, sq_of (by rw [h1, h2]), fun l hl => q l B2 _ e2 (w2.new hl ⟨_, rfl, paired_rev hp⟩)⟩
theorem ev_revT {xs : List α} (h : EV K M te σ B L (rTup r) xs L') : EV K M (L3G.tRevT K te) σ B L (rTup r) xs.reverse L' := fun B1 H e w Q q =>
  h B1 H e w _ fun v B2 H2 e2 w2 hv => by
    obtain ⟨p, vs, rfl, hs, hp⟩ := hv
    refine ⟨p, vs, rfl, ex_t w2.b hs, fun l hl => ?_⟩
    have eN := Ex.new (o := HO.tup vs.reverse) (fresh_back w2.b hl)
    exact q _ (upd B2 l _) _ (e2.trans eN) (w2.ext hl) ⟨l, _, rfl, st_of upd_same, paired_mono eN (paired_rev hp)⟩
/-! ### tuples: +, * -/
def catT (xs ys : List α) : Option (List α) := if xs.length + ys.length ≤ 1000000 then some (xs ++ ys) else none
theorem ev_catT {xs ys zs : List α} (h : EV K M ta σ B L (rTup r) xs L1) (h' : EV K M tb σ B L1 (rTup r) ys L2) (hc : catT xs ys = some zs) : EV K M (tOp (rCatA K) ta tb) σ B L (rTup r) zs L2 := fun B1 H e w Q q =>
  h B1 H e w _ fun v B2 H2 e2 w2 hv => h' B2 H2 (e.trans e2) w2 _ fun u B3 H3 e3 w3 hu => by
    obtain ⟨p, vs, rfl, hs, hp⟩ := hv
    obtain ⟨p', us, rfl, hs', hp'⟩ := hu
    unfold catT at hc
    split at hc
    · rename_i hl
      obtain rfl := Option.some.inj hc
      have hp3 := paired_mono e3 hp
      have l1 := paired_len hp
      have l2 := paired_len hp'
      refine ⟨p, p', vs, us, rfl, rfl, ex_t w3.b (ex_t e3 hs), ex_t w3.b hs', Nat.le_trans (by omega) (show 1000000 ≤ sizeLine by decide), fun hz => ?_, fun _ hz => ?_, fun _ _ l hl => ?_⟩
      · subst hz
        have : xs = [] := List.length_eq_zero_iff.mp l1.symm
        subst this
        exact q _ B3 H3 (e2.trans e3) w3 ⟨p', us, rfl, hs', hp'⟩
      · subst hz
        have : ys = [] := List.length_eq_zero_iff.mp l2.symm
        subst this
        exact q _ B3 H3 (e2.trans e3) w3 ⟨p, vs, rfl, ex_t e3 hs, by rw [List.append_nil]; exact hp3⟩
      · have eN := Ex.new (o := HO.tup (vs ++ us)) (fresh_back w3.b hl)
        exact q _ (upd B3 l _) _ ((e2.trans e3).trans eN) (w3.ext hl) ⟨l, _, rfl, st_of upd_same, paired_mono eN (paired_app hp3 hp')⟩
    · cases hc
def repT (xs : List α) (k : Int) : Option (List α) := if xs ≠ [] ∧ 2 ≤ k ∧ k ≤ 1000 ∧ xs.length ≤ 1000 then some (List.replicate k.toNat xs).flatten else none
theorem paired_rep {F : V → α → Prop} {xs : List V} {as : List α} (h : Paired F xs as) : ∀ n : Nat, Paired F (List.replicate n xs).flatten (List.replicate n as).flatten
  | 0 => .nil
  | n + 1 => by
    rw [List.replicate_succ, List.replicate_succ, List.flatten_cons, List.flatten_cons]
    exact paired_app h (paired_rep h n)
theorem ev_repT {xs zs : List α} (h : EV K M ta σ B L (rTup r) xs L1) (h' : EV K M tb σ B L1 rInt k L2) (hc : repT xs k = some zs) : EV K M (tOp (rRepT K) ta tb) σ B L (rTup r) zs L2 := fun B1 H e w Q q =>
  h B1 H e w _ fun v B2 H2 e2 w2 hv => h' B2 H2 (e.trans e2) w2 _ fun u B3 H3 e3 w3 hu => by
    obtain ⟨p, vs, rfl, hs, hp⟩ := hv
    unfold repT at hc
    split at hc
    · rename_i hl
      obtain ⟨l0, l1, l2, l3⟩ := hl
      obtain rfl := Option.some.inj hc
      have hp3 := paired_mono e3 hp
      have ll := paired_len hp
      refine ⟨p, k, vs, rfl, hu, ex_t w3.b (ex_t e3 hs), fun hz => l0 (by subst hz; exact List.length_eq_zero_iff.mp ll.symm), l1, l2, by omega, fun l hl => ?_⟩
      have eN := Ex.new (o := HO.tup (List.replicate k.toNat vs).flatten) (fresh_back w3.b hl)
      exact q _ (upd B3 l _) _ ((e2.trans e3).trans eN) (w3.ext hl) ⟨l, _, rfl, st_of upd_same, paired_mono eN (paired_rep hp3 _)⟩
    · cases hc
/-! ### typed values as data -/
def DQ (r : Rep α) (f : α → PyData) : Prop := ∀ K B v a, r.is K B v a → Dp K B v (f a)
theorem dq_int : DQ rInt PyData.int := dr_int.dp
theorem dq_bool : DQ rBool PyData.bool := dr_bool.dp
theorem dq_non : DQ rNon dNon := dr_non.dp
theorem dq_str : DQ rStr PyData.str := fun _ _ _ a h => by have h : _ = V.str a := h; subst h; exact .str a
theorem dq_dat : DQ rDat id := fun _ _ _ _ h => h
theorem dq_tup {f : α → PyData} (d : DQ r f) : DQ (rTup r) (dTup f) := fun K B v a ⟨p, xs, h1, h2, h3⟩ => by subst h1; exact .tup h2 (dpAll_of (d K B) h3)
theorem dq_lst {f : α → PyData} (d : DQ r f) : DQ (rLst r) (dLst f) := fun K B v a ⟨p, xs, h1, h2, h3⟩ => by subst h1; exact .lst (sq_of h2) (dpAll_of (d K B) h3)
theorem dq_T2 {f : α → PyData} {g : β → PyData} (d : DQ r f) (e : DQ s g) : DQ (rT2 r s) (dT2 f g) := fun K B v a ⟨p, x, y, h1, h2, h3, h4⟩ => by subst h1; exact .tup h2 (.cons (d _ _ _ _ h3) (.cons (e _ _ _ _ h4) .nil))
theorem dq_T3 {f : α → PyData} {g : β → PyData} {h : γ → PyData} (d : DQ r f) (e : DQ s g) (c : DQ t h) : DQ (rT3 r s t) (dT3 f g h) := fun K B v a ⟨p, x, y, z, h1, h2, h3, h4, h5⟩ => by subst h1; exact .tup h2 (.cons (d _ _ _ _ h3) (.cons (e _ _ _ _ h4) (.cons (c _ _ _ _ h5) .nil)))
theorem dq_opt {f : α → PyData} (d : DQ r f) : DQ (rOpt r) (dOpt f) := fun K B v a h => by
  cases a with
  | none => have h : v = .non := h; subst h; exact .non
  | some a => exact d _ _ _ _ h
theorem ev_dq {f : α → PyData} {a : α} (h : EV K M te σ B L r a L') (D : DQ r f) : EV K M te σ B L rDat (f a) L' := ev_as h fun _ _ h => D _ _ _ _ h
theorem ev_notND {d : PyData} (ha : EV K M ta σ B L rDat d L1) : EV K M (tNotN ta) σ B L rBool (!isNoneD d) L1 := fun B1 H e w Q q =>
  ha B1 H e w _ fun x B2 H2 e2 w2 hx => q _ B2 H2 e2 w2 (by
    show V.bl _ = V.bl _
    congr 1
    have hx : Dp K B2 x d := hx
    cases hx <;> rfl)
end
/-- a slot that may not be set yet -/
def slotIs {α : Type} (r : Rep α) (K : Fg) (B : Hp) (o : Option V) (x : Option α) : Prop := match x with
  | none => True
  | some a => ∃ v, o = some v ∧ r.is K B v a
theorem slot_mono {α : Type} {r : Rep α} {K : Fg} {B B' : Hp} {o : Option V} {x : Option α} (e : Ex B B') (h : slotIs r K B o x) : slotIs r K B' o x := by
  cases x with
  | none => trivial
  | some a => obtain ⟨v, h1, h2⟩ := h; exact ⟨v, h1, r.mono e h2⟩
theorem slot_get {α : Type} {r : Rep α} {K : Fg} {B : Hp} {o : Option V} {x : Option α} {a : α} (h : slotIs r K B o x) (e : x = some a) : ∃ v, o = some v ∧ r.is K B v a := by
  subst e; exact h
end L3

/-! () * k -/
namespace L3G
open PySem PySem.Spec PyProof.Rows L2
theorem tuple_mul0 (l : Addr) (n : Nat) (dd : Option Addr) (sl : Array (Option Value)) (x : Int) (u : Tok) (c0 : (decide (x < -(2 ^ 63)) || decide (x ≥ 2 ^ 63)) = false) :
    Meets (Builtin.«tuple.__mul__» ⟨[.ref l, .int x u], []⟩) (fun _ R s => s.heap.get? l = some { cls := .type "tuple", dict := dd, data := .seq #[] n, slots := sl } ∧
      R (.ok (.ret (Value.ref l))) s) :=
  .of_wp fun prog w A R s h => by
    obtain ⟨hp, g, d, tk, os⟩ := s
    obtain ⟨hl, h⟩ := h
    have f1 := AutoSeq1.idx_int
    wp_walk using wpAny_loadPart' hl
    repeat (first
      | (refine wpAny_ite_false (decide_eq_false (by rw [c0]; exact Bool.false_ne_true)) ?_; wp_walk using wpAny_loadPart' hl)
      | (refine wpAny_ite_true (decide_eq_true (by rfl)) ?_; wp_walk using wpAny_loadPart' hl))
    exact ⟨_, rfl, h⟩
def rRepA (K : PySem.W.Frag) : R2 := fun x y H Q => rRepT K x y H Q ∨ ∃ l k, x = .ref l ∧ y = .int k ∧ SqT K H l [] ∧ 0 ≤ k ∧ k ≤ 1000 ∧ Q (.ref l) H
theorem op_repA {X : Cx} : OpR X (binaryOp .Mult) (rRepA X.K) := by
  intro pins s σ H x y v u Q I rx ry h
  rcases h with h | h
  · exact op_repT pins s σ H x y v u Q I rx ry h
  · obtain ⟨l, k, rfl, rfl, hT, h1, h2, q⟩ := h
    cases rx
    obtain ⟨t, rfl⟩ := ry
    obtain ⟨its, r, ⟨⟨cls, dd, data, sl⟩, ho, hc, n, hd⟩, hs⟩ := I.tuple hT
    simp only at hc hd
    subst hc hd
    cases r
    have c0 : (decide (k < -(2 ^ 63)) || decide (k ≥ 2 ^ 63)) = false := by
      rw [decide_eq_false (by omega), decide_eq_false (by omega)] <;> rfl
    refine wpAny_binaryOp_repeat_ref (T := "tuple") (U := "int") (by decide) ⟨_, ho, rfl⟩ (fun s' => typeIs_int s' k t) noFill_tuple_mul F.fills_int_mul F.slot_int_rmul repeat_tuple F.slot_int_index.lookup
      (call_meets F.slot_int_rmul (typeIs_int s k t) F.entry_int_rmul (F.args_int_rmul_2 _ _) (int_rmul_tuple k t l #[] n dd sl)
        ⟨ho, rfl, ⟨_, ho, rfl⟩, call_meets F.slot_tuple_mul ⟨_, ho, rfl⟩ F.entry_tuple_mul (F.args_tuple_mul_2 _ _) (tuple_mul0 l n dd sl k t c0) ⟨ho, ?_⟩⟩)
    exact ⟨.ref l, H, I, rfl, q⟩
end L3G
namespace L3
open PySem L2
open Evl (Ex ex_rd ex_l ex_t sq_of st_of fresh_back)
section
variable {K : Fg} {M : Fr} {σ : St} {B : Hp} {L L1 L2 L' : List Cell} {α : Type} {r : Rep α} {ta tb : TE} {k : Int}
def repA (xs : List α) (k : Int) : Option (List α) := if 2 ≤ k ∧ k ≤ 1000 ∧ xs.length ≤ 1000 then some (List.replicate k.toNat xs).flatten else none
theorem rep_nil : ∀ n : Nat, (List.replicate n ([] : List α)).flatten = []
  | 0 => rfl
  | n + 1 => by rw [List.replicate_succ, List.flatten_cons, rep_nil n]; rfl
theorem ev_repA {xs zs : List α} (h : EV K M ta σ B L (rTup r) xs L1) (h' : EV K M tb σ B L1 rInt k L2) (hc : repA xs k = some zs) : EV K M (tOp (L3G.rRepA K) ta tb) σ B L (rTup r) zs L2 := fun B1 H e w Q q =>
  h B1 H e w _ fun v B2 H2 e2 w2 hv => h' B2 H2 (e.trans e2) w2 _ fun u B3 H3 e3 w3 hu => by
    obtain ⟨p, vs, rfl, hs, hp⟩ := hv
    unfold repA at hc
    split at hc
    · rename_i hl
      obtain ⟨l1, l2, l3⟩ := hl
      obtain rfl := Option.some.inj hc
      have hp3 := paired_mono e3 hp
      have ll := paired_len hp
      by_cases hn : vs = []
      · subst hn
        have hx : xs = [] := List.length_eq_zero_iff.mp ll.symm
        subst hx
        refine .inr ⟨p, k, rfl, hu, ex_t w3.b (ex_t e3 hs), by omega, l2, ?_⟩
        rw [rep_nil] at q
        exact q _ B3 H3 (e2.trans e3) w3 ⟨p, [], rfl, ex_t e3 hs, .nil⟩
      · refine .inl ⟨p, k, vs, rfl, hu, ex_t w3.b (ex_t e3 hs), hn, l1, l2, by omega, fun l hl => ?_⟩
        have eN := Ex.new (o := HO.tup (List.replicate k.toNat vs).flatten) (fresh_back w3.b hl)
        exact q _ (upd B3 l _) _ ((e2.trans e3).trans eN) (w3.ext hl) ⟨l, _, rfl, st_of upd_same, paired_mono eN (paired_rep hp3 _)⟩
    · cases hc
end
end L3

/-! dicts of ints by ints; sorted(d.items()) -/
namespace L3G
open PySem PySem.Spec PyProof.Rows L2
abbrev encI (kvs : List (Int × Int)) : List (Key × V) := kvs.map fun q => (Sum.inl q.1, V.int q.2)
def rSortI : V → Hp → VK → Prop := fun x H Q => ∃ (d : Addr) (kvs : List (Int × Int)), x = .ref d ∧ H d = some (.dK (encI kvs)) ∧
  ∀ (H' : Hp) (p : Addr) (ts : List Addr) (ys : List (Int × Int)), (∀ b o, H b = some o → H' b = some o) → (∀ t ∈ ts, H t = none) → H' p = none → Paired (fun (t : Addr) (q : Int × Int) => H' t = some (.tup [.int q.1, .int q.2])) ts ys →
    ys.Perm kvs → ys.Pairwise (fun a b => SrtO.lexB b a = false) → Q (.ref p) (upd H' p (.lst (ts.map V.ref)))
def tSortI (te : TE) : TE := fun σ H Q => te σ H fun x H1 => rSortI x H1 Q
def ofH (H : Hp) (v : Value) : Int × Int := match v with
  | .ref a => (match H a with
    | some (.tup [.int x, .int y]) => (x, y)
    | _ => (0, 0))
  | _ => (0, 0)
section
variable {X : Cx} {e : Expr} {te : TE} {p apos cpos pos : Pos}
theorem tups_laid {pins : List (Addr × Obj)} {σ : L2.St} {H : Hp} {s : Shared} {h' : Heap} {tk lo : Nat} {kvs : List (Key × V)} {vs : List (Key × Value)} {as : List Addr} (I : Inv X pins σ H s) (hlo : s.heap.objs.size ≤ lo) (kv : KV kvs vs)
    (hk : ∀ b o, s.heap.get? b = some o → h'.get? b = some o) (hl : as.length = vs.length) (hG : PySem.W.KdxG (mixKind X.prog X.w) vs lo h' as) :
    ∃ H' : Hp, (∀ b o, H b = some o → H' b = some o) ∧ (∀ t ∈ as, H t = none) ∧ Paired (fun (t : Addr) (q : Key × V) => H' t = some (.tup [kV q.1, q.2])) as kvs ∧ Inv X pins σ H' { s with heap := h', toks := tk } := by
  have lk : kvs.length = vs.length := Paired.length kv
  have nd : as.Nodup := List.Pairwise.imp (fun {a b} (h : a < b) => Nat.ne_of_lt h) hG.rise
  have ge : ∀ t ∈ as, s.heap.objs.size ≤ t := fun t ht => Nat.le_trans hlo (Nat.le_of_lt (hG.above t ht))
  have new : ∀ t ∈ as, H t = none := fun t ht => I.hok.fresh (ge t ht)
  have atP := LiI.putT_at as kvs H (by omega) nd
  have off : ∀ b, b ∉ as → LiI.putT H as kvs b = H b := fun b h1 => LiI.putT_off as kvs _ h1
  have low : ∀ b o, s.heap.get? b = some o → b ∉ as := fun b o e z => absurd (Heap.lt_size e) (Nat.not_lt.mpr (ge b z))
  have kp : ∀ b u, H b = some u → (LiI.putT H as kvs) b = some u := fun b u e => by
    rw [off b (fun z => by rw [new b z] at e; cases e)]
    exact e
  refine ⟨LiI.putT H as kvs, kp, new, atP, ?_⟩
  refine I.call' (ch := []) rfl ⟨fun b o q _ _ _ => hk b o q, fun b o q _ _ _ => ⟨o.slots, hk b o q⟩, fun b o q n _ => ?_, fun b o q _ => ⟨o, hk b o q⟩, fun b xs q => kp b _ q, fun b o u q => kp b _ q, fun b ps q => ⟨#[], by rw [kp b _ q]; simp⟩⟩ (fun b u q => ?_) I.bare fun b z => by simp at z
  · rw [off b (low b o q)]
    exact n
  · by_cases hb : b ∈ as
    · obtain ⟨j, pk, e1, e2, e3⟩ := LiI.paired_ix atP hb
      rw [e3] at q
      cases q
      obtain ⟨key, k, x, f1, f2, f3⟩ := hG.pairs j b e1
      obtain ⟨qv, g1, g2, g3⟩ := LiI.paired_get kv e2
      rw [f1] at g1
      cases g1
      have rk : RelV (kV pk.1) key := by
        rw [g2]
        exact relV_key (show keyIs k key = true from f2)
      exact ⟨by show 2 ≤ sizeLine; decide, [key, x], .cons rk (.cons g3 .nil), ⟨_, f3, rfl, _, rfl⟩⟩
    · rw [off b hb] at q
      exact (I.hok b u q).stay (fun d v _ y => hk d v y) (fun d y => kp d _ y) fun d xs y => kp d _ y
theorem ofH_eq {H : Hp} {a : Addr} {q : Int × Int} (h : H a = some (.tup [.int q.1, .int q.2])) : ofH H (.ref a) = q := by
  show (match H a with | some (.tup [.int x, .int y]) => (x, y) | _ => (0, 0)) = q
  rw [h]
theorem ofH_is {H : Hp} : ∀ {as : List Addr} {kvs : List (Int × Int)}, Paired (fun (t : Addr) (q : Key × V) => H t = some (.tup [kV q.1, q.2])) as (encI kvs) → (as.map Value.ref).map (ofH H) = kvs
  | [], [], _ => rfl
  | [], _ :: _, h => by cases h
  | _ :: _, [], h => by cases h
  | a :: as, q :: kvs, h => by
    cases h with
    | cons h1 h2 =>
      rw [List.map_cons, List.map_cons, ofH_is h2]
      have h1 : H a = some (.tup [.int q.1, .int q.2]) := h1
      show ofH H (.ref a) :: kvs = _
      rw [ofH_eq h1]
theorem ofH_at {H : Hp} : ∀ {as : List Addr} {kvs : List (Int × Int)}, Paired (fun (t : Addr) (q : Key × V) => H t = some (.tup [kV q.1, q.2])) as (encI kvs) → ∀ {a}, a ∈ as → H a = some (.tup [.int (ofH H (.ref a)).1, .int (ofH H (.ref a)).2])
  | [], _, _, a, h => absurd h (by simp)
  | _ :: _, [], h, _, _ => by cases h
  | b :: as, q :: kvs, h, a, ha => by
    cases h with
    | cons h1 h2 =>
      rcases List.mem_cons.mp ha with e | ha
      · subst e
        have h1 : H a = some (.tup [.int q.1, .int q.2]) := h1
        have e : ofH H (.ref a) = q := ofH_eq h1
        rw [e]; exact h1
      · exact ofH_at h2 ha
theorem paired_self {H : Hp} : ∀ {ts : List Addr}, (∀ t ∈ ts, H t = some (.tup [.int (ofH H (.ref t)).1, .int (ofH H (.ref t)).2])) → Paired (fun (t : Addr) (q : Int × Int) => H t = some (.tup [.int q.1, .int q.2])) ts ((ts.map Value.ref).map (ofH H))
  | [], _ => .nil
  | t :: ts, h => .cons (h t List.mem_cons_self) (paired_self fun u hu => h u (List.mem_cons_of_mem _ hu))
theorem refs_of : ∀ {us : List Value}, (∀ u ∈ us, ∃ a, u = Value.ref a) → ∃ ts : List Addr, us = ts.map Value.ref
  | [], _ => ⟨[], rfl⟩
  | u :: us, h => by
    obtain ⟨a, rfl⟩ := h u List.mem_cons_self
    obtain ⟨ts, rfl⟩ := refs_of fun v hv => h v (List.mem_cons_of_mem _ hv)
    exact ⟨a :: ts, rfl⟩
/-- sorted(e.items()) -/
theorem pe_sortI (hc : X.calm = true) (he : PE X e te) (hg : Gl X "sorted") (hm : X.mg "sorted" = none) (hv : bootBuiltins "sorted" = some (.builtin "sorted")) (hbase : attributeBase e "items" X.env (eval e X.env) = eval e X.env := by rfl) (hline : (apos.endLine == cpos.line) = true := by rfl)
    (hs : starEach [.Call (.Attribute e "items" apos) [] [] cpos] X.env = (false, eval (.Call (.Attribute e "items" apos) [] [] cpos) X.env) :: starEach [] X.env := by rfl) :
    PE X (.Call (.Name "sorted" p) [.Call (.Attribute e "items" apos) [] [] cpos] [] pos) (tSortI te) := by
  refine ⟨fun pins s σ H Q I hq => ?_⟩
  refine wpAny_Call_Name_kw (ld_blt I hg hm hv ?_)
  refine PyProof.Rows.callWith_builtin1 ?_ hs (by rfl)
  rw [hs]
  show wpAny _ _ (spliced ((false, eval (.Call (.Attribute e "items" apos) [] [] cpos) X.env) :: backTo pos (starEach [] X.env))) _ _ s
  refine Calls.spliced_cons ?_
  refine wpAny_Call_method (T := "dict") (id := "dict.items") hbase rfl hline F.plainAttrs_dict F.slot_dict_items F.type_dict_items (thn (he.run pins s σ H _ I hq) fun u s1 ⟨x, H1, I1, rx, d, kvs, ex, hd, q⟩ => ?_)
  subst ex
  obtain rfl : u = Value.ref d := rx
  obtain ⟨hz, hs0, vs, kv, hdo⟩ := I1.hok d _ hd
  obtain ⟨ep, hat⟩ := hdo.dictAt
  have lk : (encI kvs).length = vs.length := Paired.length kv
  have I2 : Inv X pins σ H1 { s1 with heap := s1.heap.push { cls := .type "dict_items", data := .fields #[.ref d] } } := I1.kept (t' := s1.toks) fun b ob q => Heap.get?_push_of_some _ q
  refine ⟨hdo.typeIs, hdo.mapOf.noDict, ?_⟩
  show wpAny _ _ (callWith cpos (.builtin "dict.items") [.ref d] [] []) _ X.xe s1
  refine method_meetsIn F.slot_dict_items F.entry_dict_items rfl (PySem.evalArgs_none ⟨rfl, hdo.typeIs, F.args_dict_items_1 _, _, meets_dict_items (mixKind X.prog X.w) d hs0, ⟨vs, hdo⟩, ?_⟩)
  refine Calls.spliced_nil ?_
  refine Calls.call_function_entry kind_sorted plain_sorted entry_sorted (args_sorted1 _) ?_
  unfold Builtin.«sorted»
  refine wpAny_bind (m := checkCount "sorted" 1 1 _) (wpAny_pure ?_)
  have hh : X.A.in1.handled = none := I1.ok.hd hc
  refine wpAny_bind (PySem.W.kdx_collect (A := X.A.in1) (knd := mixKind X.prog X.w) (kvs := vs) (ep := ep) hh ⟨_, Heap.get?_push_size _ rfl, rfl, rfl⟩ (hat.push _) (by omega) fun h' tk as hk hl hG => ?_)
  obtain ⟨H', k1, k3, k6, J⟩ := tups_laid (tk := tk) I2 (Nat.le_refl _) kv hk hl hG
  have hz2 : (as.map Value.ref).length ≤ sizeLine := by rw [List.length_map, hl]; omega
  refine wpAny_bind (wpAny_newList ?_ hz2)
  have hoL : (h'.push (seqObj "list" (as.map Value.ref).toArray 0)).get? h'.objs.size = some (seqObj "list" (as.map Value.ref).toArray 0) := Heap.get?_push_size _ rfl
  have isP : ∀ v ∈ as.map Value.ref, Srt.IsPair h' v (ofH H' v).1 (ofH H' v).2 := fun v hv => by
    obtain ⟨t, ht, rfl⟩ := List.mem_map.mp hv
    have ha := ofH_at k6 ht
    obtain ⟨_, its2, r2, o, ho, hc, n, hd⟩ := J.hok _ _ ha
    obtain ⟨u1, u2, rfl, ri, rj⟩ := vals2 r2
    obtain ⟨t1, rfl⟩ := ri
    obtain ⟨t2, rfl⟩ := rj
    exact ⟨t, o, t1, t2, n, rfl, ho, hc, hd⟩
  refine wpAny_bind (wpAny_holding (wpAny_call_entry slot_list_sort ⟨_, hoL, rfl⟩ entry_list_sort (SrtO.list_sort_ord (n := 0) (SrtO.swo_lex (ofH H')) hoL hz2 (fun h2 => SrtO.pairs_sortableO (by omega) (fun v hm => (isP v hm).keeps fun b o e _ => Heap.get?_push_of_some _ e) fun o e => ?_) fun out hs hb => ⟨_, rfl, ?_⟩) (args_list_sort _)))
  · have e' : some o = some (seqObj "list" (as.map Value.ref).toArray 0) := e.symm.trans hoL
    cases e'
    intro c
    exact absurd (Value.type.inj c) (by decide)
  · refine wpAny_pure ⟨_, rfl, ?_⟩
    obtain ⟨ts, rfl⟩ := refs_of (us := out) fun u hu => by
      obtain ⟨t, _, e⟩ := List.mem_map.mp (hb.perm.mem_iff.mp hu)
      exact ⟨t, e.symm⟩
    have mem : ∀ t ∈ ts, t ∈ as := fun t ht => by
      obtain ⟨t', h1, h2⟩ := List.mem_map.mp (hb.perm.mem_iff.mp (List.mem_map.mpr ⟨t, ht, rfl⟩))
      cases h2
      exact h1
    have hl2 := hb.perm.length_eq
    have e1 := ofH_is k6
    obtain ⟨n, hn⟩ := sortedHeap_at (out := (ts.map Value.ref).toArray) hoL
    have old : ∀ b o, h'.get? b = some o → (sortedHeap (h'.push (seqObj "list" (as.map Value.ref).toArray 0)) h'.objs.size (as.map Value.ref) (ts.map Value.ref).toArray).get? b = some o := fun b o e => by
      have := Heap.lt_size e
      rw [sortedHeap_old (Nat.ne_of_lt this) (by rw [size_push']; exact Nat.lt_succ_of_lt this)]
      exact Heap.get?_push_of_some _ e
    refine ⟨.ref h'.objs.size, _, J.laid (a := h'.objs.size) (o := .lst (ts.map V.ref)) (t' := tk) old (Nat.le_refl _) ?_, rfl, q H' h'.objs.size ts ((ts.map Value.ref).map (ofH H')) k1 (fun t ht => k3 t (mem t ht)) (J.hok.fresh (Nat.le_refl _)) (paired_self fun t ht => ofH_at k6 (mem t ht)) ?_ ?_⟩
    · refine ⟨by rw [List.length_map]; rw [List.length_map] at hl2; rw [hl2]; exact hz2, ts.map Value.ref, n, LiI.vals_refs ts, hn⟩
    · rw [← e1]
      exact hb.perm.map _
    · exact SrtO.srtd_map (lt := SrtO.lexB) hs
end
end L3G
namespace L3
open PySem L2
open Evl (Ex ex_rd ex_l ex_t sq_of st_of fresh_back)

/-! ### dicts of ints by ints -/
def putI : List (Int × Int) → Int → Int → List (Int × Int)
  | [], k, v => [(k, v)]
  | q :: kvs, k, v => if q.1 = k then (q.1, v) :: kvs.map (fun q => if q.1 = k then (q.1, v) else q) else q :: putI kvs k v
def leI (a b : Int × Int) : Bool := !SrtO.lexB b a
def sortI (l : List (Int × Int)) : List (Int × Int) := l.mergeSort leI
def cDk : CRep (List (Int × Int)) := ⟨fun _ _ o a => o = .dK (L3G.encI a), fun _ h => h⟩
theorem putI_cons_ne {q : Int × Int} {kvs : List (Int × Int)} {k v : Int} (h : q.1 ≠ k) : putI (q :: kvs) k v = q :: putI kvs k v := by
  show (if q.1 = k then _ else _) = _
  rw [if_neg h]
theorem enc_map (k v : Int) : ∀ kvs : List (Int × Int), (L3G.encI kvs).map (fun kv => if kv.1 = (Sum.inl k : Key) then (kv.1, V.int v) else kv) = L3G.encI (kvs.map fun q => if q.1 = k then (q.1, v) else q)
  | [] => rfl
  | q :: kvs => by
    have ih := enc_map k v kvs
    by_cases h : q.1 = k
    · show (if (Sum.inl q.1 : Key) = Sum.inl k then _ else _) :: (L3G.encI kvs).map _ = L3G.encI ((if q.1 = k then (q.1, v) else q) :: _)
      rw [ih, if_pos (by rw [h]), if_pos h]; rfl
    · show (if (Sum.inl q.1 : Key) = Sum.inl k then _ else _) :: (L3G.encI kvs).map _ = L3G.encI ((if q.1 = k then (q.1, v) else q) :: _)
      rw [ih, if_neg (fun z => h (Sum.inl.inj z)), if_neg h]; rfl
theorem enc_put (k v : Int) : ∀ kvs : List (Int × Int), putK (L3G.encI kvs) (Sum.inl k) (V.int v) = L3G.encI (putI kvs k v)
  | [] => rfl
  | q :: kvs => by
    by_cases h : q.1 = k
    · have e1 : ((L3G.encI (q :: kvs)).any fun kv => decide (kv.1 = (Sum.inl k : Key))) = true := by
        show (decide ((Sum.inl q.1 : Key) = Sum.inl k) || _) = true
        rw [h, decide_eq_true rfl, Bool.true_or]
      unfold putK
      rw [if_pos e1, enc_map]
      unfold putI
      rw [if_pos h, List.map_cons, if_pos h]
    · have ne : ¬ (Sum.inl q.1 : Key) = Sum.inl k := fun z => h (Sum.inl.inj z)
      have ih := enc_put k v kvs
      rw [putI_cons_ne h]
      unfold putK at ih ⊢
      have e0 : ((L3G.encI (q :: kvs)).any fun kv => decide (kv.1 = (Sum.inl k : Key))) = ((L3G.encI kvs).any fun kv => decide (kv.1 = (Sum.inl k : Key))) := by
        show (decide ((Sum.inl q.1 : Key) = Sum.inl k) || _) = _
        rw [decide_eq_false ne, Bool.false_or]
      rw [e0]
      by_cases ha : ((L3G.encI kvs).any fun kv => decide (kv.1 = (Sum.inl k : Key))) = true
      · rw [if_pos ha] at ih ⊢
        show (if (Sum.inl q.1 : Key) = Sum.inl k then _ else _) :: (L3G.encI kvs).map _ = _
        rw [if_neg ne, ih]
        rfl
      · rw [if_neg ha] at ih ⊢
        show _ :: (L3G.encI kvs ++ _) = _
        rw [ih]
        rfl
theorem sortI_eq {ys l : List (Int × Int)} (hp : ys.Perm l) (hs : ys.Pairwise (fun a b => SrtO.lexB b a = false)) : ys = sortI l := by
  refine List.Perm.eq_of_pairwise (le := fun a b => SrtO.lexB b a = false) (fun a b _ _ h1 h2 => ?_) hs ?_ (hp.trans (List.mergeSort_perm l leI).symm)
  · have a1 := SrtO.lexB_no.mp h1
    have a2 := SrtO.lexB_no.mp h2
    exact Prod.ext (by omega) (by omega)
  · refine (List.pairwise_mergeSort (le := leI) (fun a b c h1 h2 => ?_) (fun a b => ?_) l).imp fun {a b} h => ?_
    · unfold leI at *
      rw [Bool.not_eq_true'] at *
      have a1 := SrtO.lexB_no.mp h1
      have a2 := SrtO.lexB_no.mp h2
      refine SrtO.lexB_no.mpr ?_
      omega
    · unfold leI
      cases e : SrtO.lexB b a with
      | false => rfl
      | true =>
        have a1 := SrtO.lexB_iff.mp e
        have a2 : SrtO.lexB a b = false := SrtO.lexB_no.mpr (by omega)
        rw [a2]; rfl
    · unfold leI at h
      rwa [Bool.not_eq_true'] at h
theorem sortI_perm (l : List (Int × Int)) : (sortI l).Perm l := List.mergeSort_perm l leI
def rSetD : V → V → V → Hp → (Hp → Prop) → Prop := fun o i v H Q => ∃ a H4, o = .ref a ∧ DPut H a i v H4 ∧ Q H4
theorem set_dict {X : Cx} (hu : X.A.units + 1 < cLine) : PSet X rSetD := by
  intro pins s σ H o i v ov iv u Q I ro ri rv h
  obtain ⟨a, H4, rfl, g, q⟩ := h
  cases ro
  exact d_setItem hu I g ri rv fun s4 I4 => ⟨H4, I4, q⟩
section
variable {K : Fg} {M : Fr} {σ : St} {B H H' : Hp} {L L1 L2 L' : List Cell} {α β γ δ : Type} {r : Rep α} {s : Rep β} {ta tb tc te : TE} {tt tu : TT} {tA : TA} {i j k : Int} {D : Ends} {tz : TS}
theorem Own.grow (w : Own K B M L H) (k : ∀ b o, H b = some o → H' b = some o) : Own K B M L H' :=
  ⟨fun b u e => k b u (w.b b u e), fun b u e => k b u (w.m b u e), w.bm, fun x hx => by
    obtain ⟨⟨o, h1, h2⟩, h3⟩ := w.l x hx
    exact ⟨⟨o, k _ _ h1, h2⟩, h3⟩, w.nd, fun P hP => by
    obtain ⟨⟨ps, h1, h2⟩, h3⟩ := w.t P hP
    exact ⟨⟨ps, k _ _ h1, h2⟩, h3⟩⟩
/-- new things that stay -/
theorem Own.join {ts : List Addr} (w : Own K B M L H) (k : ∀ b o, H b = some o → H' b = some o) (new : ∀ t ∈ ts, H t = none) : Ex B (fun a => if a ∈ ts then H' a else B a) ∧ Own K (fun a => if a ∈ ts then H' a else B a) M L H' := by
  have off : ∀ {b u}, B b = some u → b ∉ ts := fun {b u} e z => by
    have := w.b b u e
    rw [new b z] at this
    cases this
  have e0 : Ex B (fun a => if a ∈ ts then H' a else B a) := fun b u e => by
    show (if b ∈ ts then H' b else B b) = some u
    rw [if_neg (off e)]; exact e
  refine ⟨e0, fun b u e => ?_, fun b u e => k b u (w.m b u e), fun b => ?_, fun x hx => ?_, w.nd, fun P hP => ?_⟩
  · have e : (if b ∈ ts then H' b else B b) = some u := e
    by_cases hb : b ∈ ts
    · rw [if_pos hb] at e; exact e
    · rw [if_neg hb] at e; exact k b u (w.b b u e)
  · by_cases hb : b ∈ ts
    · right
      exact fresh_back w.m (new b hb)
    · rcases w.bm b with h | h
      · left
        show (if b ∈ ts then H' b else B b) = none
        rw [if_neg hb]; exact h
      · exact .inr h
  · obtain ⟨⟨o, h1, h2⟩, h3, h4⟩ := w.l x hx
    refine ⟨⟨o, k _ _ h1, x.c.mono e0 h2⟩, ?_, h4⟩
    show (if x.p ∈ ts then H' x.p else B x.p) = none
    rw [if_neg (fun z => by rw [new _ z] at h1; cases h1)]; exact h3
  · obtain ⟨⟨ps, h1, h2⟩, h3, h4⟩ := w.t P hP
    refine ⟨⟨ps, k _ _ h1, h2⟩, ?_, h4⟩
    show (if P ∈ ts then H' P else B P) = none
    rw [if_neg (fun z => by rw [new _ z] at h1; cases h1)]; exact h3
theorem q_asgD {n : Nat} (w : Own K B M L H) (q : ∀ p H', Own K B M (⟨p, cDk, []⟩ :: L) H' → tz D (σ.set n (some (.ref p))) H') : tSeq (tAsg tDNewK (gName n)) tz D σ H :=
  fun p hp => q p _ (w.new hp rfl)
theorem q_setD {n m : Nat} {p : Addr} {as : List (Int × Int)} (w : Own K B M L H) (h : EV K M te σ B L rInt j L1) (hs : σ[m]? = some (some (.ref p))) (hb : EV K M tb σ B L1 rInt i L2) (hc : L2[n]? = some ⟨p, cDk, as⟩) (hr : room as.length = some ())
    (q : ∀ B' H', Ex B B' → Own K B' M (L2.set n ⟨p, cDk, putI as i j⟩) H' → tz D σ H') : tSeq (tAsg te (gSub (tVar m) tb rSetD)) tz D σ H :=
  h B H (Ex.refl _) w _ fun v B1 H1 e1 w1 hv => ⟨_, hs, hb B1 H1 e1 w1 _ fun y B2 H2 e2 w2 hy => by
    obtain ⟨⟨o', g1, g2⟩, _⟩ := w2.at hc
    have g1 : H2 p = some o' := g1
    have g2 : o' = .dK (L3G.encI as) := g2
    have hv : v = .int j := hv
    have hy : y = kV (Sum.inl i) := hy
    subst hv hy
    refine ⟨p, _, rfl, DPut.k (kvs := L3G.encI as) (by rw [g1, g2]) (by rw [List.length_map]; exact room_some hr), q B2 _ (e1.trans e2) (w2.set hc ?_)⟩
    show _ = HO.dK (L3G.encI (putI as i j))
    rw [← enc_put]⟩
theorem el_sortI {n m : Nat} {p : Addr} {as : List (Int × Int)} (hs : σ[m]? = some (some (.ref p))) (hc : L[n]? = some ⟨p, cDk, as⟩) : EVL K M (L3G.tSortI (tVar m)) σ B L (rT2 rInt rInt) (sortI as) L := fun B1 H e w Q q => by
  obtain ⟨⟨o', g1, g2⟩, _⟩ := w.at hc
  have g1 : H p = some o' := g1
  have g2 : o' = .dK (L3G.encI as) := g2
  refine ⟨_, hs, p, as, rfl, by rw [g1, g2], fun H' l ts ys k new hl hp pm st => ?_⟩
  obtain ⟨e2, w2⟩ := w.join k new
  have ey := sortI_eq pm st
  subst ey
  refine q l _ _ e2 (w2.new hl ⟨ts.map V.ref, rfl, ?_⟩)
  have go : ∀ (ts' : List Addr) (ys : List (Int × Int)), (∀ t ∈ ts', t ∈ ts) → Paired (fun (t : Addr) (q : Int × Int) => H' t = some (.tup [.int q.1, .int q.2])) ts' ys → Paired ((rT2 rInt rInt).is K fun a => if a ∈ ts then H' a else B1 a) (ts'.map V.ref) ys := fun ts' => by
    induction ts' with
    | nil => intro ys _ h; cases h; exact .nil
    | cons t ts' ih =>
      intro ys hm h
      cases h with
      | cons h1 h2 =>
        refine .cons ⟨t, _, _, rfl, st_of ?_, rfl, rfl⟩ (ih _ (fun u hu => hm u (List.mem_cons_of_mem _ hu)) h2)
        show (if t ∈ ts then H' t else B1 t) = _
        rw [if_pos (hm t List.mem_cons_self)]
        exact h1
  exact go ts _ (fun _ h => h) hp
theorem ints_of {K : Fg} {B : Hp} : ∀ {vs : List V} {xs : List Int}, Paired (rInt.is K B) vs xs → vs = xs.map V.int
  | _, _, .nil => rfl
  | _, _, .cons h t => by
    have h : _ = V.int _ := h
    rw [h, ints_of t]; rfl
theorem ev_sumL {xs : List Int} (h : EV K M te σ B L (rLst rInt) xs L') : EV K M (tCB (rSum K) (tCons te tNil)) σ B L rInt xs.sum L' := fun B1 H e w Q q =>
  h B1 H e w _ fun v B2 H2 e2 w2 hv => by
    obtain ⟨p, vs, rfl, hs, hp⟩ := rl_sc hv
    exact ⟨p, xs, rfl, by rw [← ints_of hp]; exact ex_l w2.b hs, q _ B2 H2 e2 w2 rfl⟩
end
end L3

namespace L3
open PySem L2
open Evl (Ex ex_rd ex_l ex_t sq_of st_of fresh_back)
/-! ### [..] * k -/
section
variable {K : Fg} {M : Fr} {σ : St} {B H H' : Hp} {L L1 L2 L' : List Cell} {α β γ δ : Type} {r : Rep α} {s : Rep β} {ta tb tc te : TE} {i j k : Int}
def repL (xs : List α) (k : Int) : Option (List α) := if -(2 ^ 62) ≤ k ∧ k < 2 ^ 62 ∧ xs.length * k.toNat ≤ sizeLine then some (List.replicate k.toNat xs).flatten else none
theorem el_rep {xs zs : List α} (h : EVL K M ta σ B L r xs L1) (h' : ∀ p, EV K M tb σ B (⟨p, cLst r, xs⟩ :: L1) rInt k (⟨p, cLst r, xs⟩ :: L2)) (hc : repL xs k = some zs) : EVL K M (tOp rRep ta tb) σ B L r zs L2 := fun B1 H e w Q q =>
  h B1 H e w _ fun p B2 H2 e2 w2 => h' p B2 H2 (e.trans e2) w2 _ fun u B3 H3 e3 w3 hu => by
    unfold repL at hc
    split at hc
    · rename_i hl
      obtain ⟨l1, l2, l3⟩ := hl
      obtain rfl := Option.some.inj hc
      obtain ⟨⟨o, g1, vs, g2, hp⟩, _⟩ := w3.at (i := 0) rfl
      have g1 : H3 p = some o := g1
      have ll := paired_len hp
      have ll : vs.length = xs.length := ll
      refine ⟨p, k, vs, rfl, hu, by rw [g1, g2], by omega, by omega, by rw [ll]; exact l3, fun l hl => ?_⟩
      exact q l B3 _ (e2.trans e3) (w3.tail.new hl ⟨_, rfl, paired_rep hp _⟩)
    · cases hc
theorem nn_rT2 {B : Hp} (v : V) (x : α × β) (h : (rT2 r s).is K B v x) : v ≠ .non := by
  obtain ⟨p, _, _, rfl, _⟩ := h
  exact fun z => by cases z
theorem nn_rTup {B : Hp} (v : V) (x : List α) (h : (rTup r).is K B v x) : v ≠ .non := by
  obtain ⟨p, _, rfl, _⟩ := h
  exact fun z => by cases z
theorem nn_rLst {B : Hp} (v : V) (x : List α) (h : (rLst r).is K B v x) : v ≠ .non := by
  obtain ⟨p, _, rfl, _⟩ := h
  exact fun z => by cases z
abbrev rTupOf (K : Fg) : List V → Hp → VK → Prop := fun xs H Q => ∃ p ys, xs = [.ref p] ∧ ((SqL K H p ys ∧ ∀ l, H l = none → Q (.ref l) (upd H l (.tup ys))) ∨ (SqT K H p ys ∧ Q (.ref p) H))
abbrev rListOf (K : Fg) : List V → Hp → VK → Prop := fun xs H Q => ∃ p ys, xs = [.ref p] ∧ (SqL K H p ys ∨ SqT K H p ys) ∧ ∀ l, H l = none → Q (.ref l) (upd H l (.lst ys))
/-! ### a def at an address -/
structure ClA (P : Program) (w : World) (K : Fg) (mg : Str → Option Value) (base : Heap) (k : Nat) (f : Addr) (sp : Sp) (dvs : List V) : Prop where
  ex : ∃ (fd : FuncData) (ps : List Str) (ds : List Value), FnOk P w K mg base CX0 k f fd ps sp ∧ PySem.W.keepIn K (.ref f) = true ∧ Binds K fd ps ds ∧ Vals dvs ds
theorem Cl.at {P : Program} {w : World} {mg : Str → Option Value} {base : Heap} {k : Nat} {x : Str} {sp : Sp} {dvs : List V} (c : Cl P w K mg base k x sp dvs) : ∃ f, mg x = some (.ref f) ∧ PySem.W.keepIn K (.ref f) = true ∧ ClA P w K mg base k f sp dvs := by
  obtain ⟨f, fd, ps, ds, F, hm, kp, b, d⟩ := c.ex
  exact ⟨f, hm, kp, fd, ps, ds, F, kp, b, d⟩
theorem pe_cL {X : Cx} {k j i : Nat} {f : Addr} {x : Str} {sp : Sp} {dvs : List V} {p pos : Pos} {e : Expr} {es : List Expr} {t : TA} (c : ClA X.prog X.w X.K X.mg X.base k f sp dvs) (hr : Room j X.A) (hk : k ≤ j) (hN : X.N[i]? = some x) (hv : Vis X.env.scope x) (ha : PA X (e :: es) t)
    (hdb : (x == ("__debug__" : Str)) = false := by decide) (hcd : (x == ("__classdict__" : Str)) = false := by decide) (he : starEach (e :: es) X.env = (false, eval e X.env) :: starEach es X.env := by rfl) (hpl : (backTo pos (starEach es X.env)).any (·.1) = false := by rfl) :
    PE X (.Call (.Name x p) (e :: es) [] pos) (tCallL i f sp dvs E0 t) := by
  obtain ⟨fd, ps, ds, F, kp, b, d⟩ := c.ex
  exact pe_callL F (hr.mono hk) hN hv kp b d pass0 ha hdb hcd he hpl
theorem ev_callL {i : Nat} {f : Addr} {sp : Sp} {dvs : List V} {E : XK} {tA : TA} {a : α} (hs : σ[i]? = some (some (.ref f))) (h : EV K M (tCall sp dvs E tA) σ B L r a L') : EV K M (tCallL i f sp dvs E tA) σ B L r a L' :=
  fun B1 H e w Q q => ⟨hs, h B1 H e w Q q⟩
/-- list(range(..)) -/
def rgO (a b : Int) : Option (List Int) := if -(2 ^ 62) ≤ a ∧ a < 2 ^ 62 ∧ -(2 ^ 62) ≤ b ∧ b < 2 ^ 62 ∧ (b - a).toNat ≤ 2 ^ 24 then some (rng a b) else none
theorem rg_paired {K : Fg} {B : Hp} (a b : Int) : Paired (rInt.is K B) (rgV a b) (rng a b) := by
  unfold rgV rng
  exact paired_map (F := rInt.is K B) (f := fun (i : Nat) => V.int (a + (i : Int))) (g := fun (k : Nat) => a + (k : Int)) (fun _ => rfl) _
theorem el_listRg1 {xs : List Int} (h : EV K M ta σ B L rInt k L') (hc : rgO 0 k = some xs) : EVL K M (tLstRg (tRg1 ta)) σ B L rInt xs L' := fun B1 H e w Q q =>
  h B1 H e w _ fun v B2 H2 e2 w2 hv => by
    unfold rgO at hc
    split at hc
    · rename_i ok
      obtain rfl := Option.some.inj hc
      exact ⟨k, hv, ok, fun l hl => q l B2 _ e2 (w2.new hl ⟨_, rfl, rg_paired 0 k⟩)⟩
    · cases hc
theorem el_listRg2 {xs : List Int} (h : EV K M ta σ B L rInt j L1) (h' : EV K M tb σ B L1 rInt k L') (hc : rgO j k = some xs) : EVL K M (tLstRg (tRg2 ta tb)) σ B L rInt xs L' := fun B1 H e w Q q =>
  h B1 H e w _ fun v B2 H2 e2 w2 hv => h' B2 H2 (e.trans e2) w2 _ fun u B3 H3 e3 w3 hu => by
    unfold rgO at hc
    split at hc
    · rename_i ok
      obtain rfl := Option.some.inj hc
      exact ⟨j, k, hv, hu, ok, fun l hl => q l B3 _ (e2.trans e3) (w3.new hl ⟨_, rfl, rg_paired j k⟩)⟩
    · cases hc
/-- a store as a part of a target -/
theorem g_setC {n m l : Nat} {p : Addr} {as : List α} {a : α} {v : V} {G : St → Hp → Prop} (w : Own K B M L H) (hv : r.is K B v a) (hs : σ[m]? = some (some (.ref p))) (hb : EV K M tb σ B L rInt i L2) (hc : L2[n]? = some ⟨p, cLst r, as⟩) (hi : ixO as.length i = some l)
    (q : ∀ B' H', Ex B B' → Own K B' M (L2.set n ⟨p, cLst r, as.set l a⟩) H' → G σ H') : gSub (tVar m) tb rSetL v σ H G :=
  ⟨_, hs, hb B H (Ex.refl _) w _ fun y B2 H2 e2 w2 hy => by
    obtain ⟨⟨o', g1, xs, g2, g3⟩, _⟩ := w2.at hc
    have g1 : H2 p = some o' := g1
    exact ⟨p, xs, i, l, rfl, hy, by rw [g1, g2], by rw [paired_len g3]; exact hi, q B2 _ e2 (w2.set hc ⟨_, rfl, paired_set (r.mono e2 hv) l g3⟩)⟩⟩
/-! ### k in xs, of ints -/
theorem flat_ints : ∀ xs : List Int, (xs.map V.int).all flatV = true
  | [] => rfl
  | x :: xs => by rw [List.map_cons, List.all_cons, flat_ints xs]; rfl
theorem inV_ints (k : Int) : ∀ xs : List Int, inV (.int k) (xs.map V.int) = decide (k ∈ xs)
  | [] => rfl
  | x :: xs => by
    have ih := inV_ints k xs
    unfold inV at ih ⊢
    rw [List.map_cons, List.any_cons, ih]
    have e : eqV (.int x) (.int k) = decide (x = k) := rfl
    rw [e]
    clear ih e
    by_cases h : x = k
    · subst h
      rw [decide_eq_true rfl, Bool.true_or, decide_eq_true (List.mem_cons_self)]
    · rw [decide_eq_false h, Bool.false_or]
      by_cases h2 : k ∈ xs
      · rw [decide_eq_true h2, decide_eq_true (List.mem_cons_of_mem _ h2)]
      · rw [decide_eq_false h2, decide_eq_false fun z => (List.mem_cons.mp z).elim (fun q => h q.symm) h2]
theorem sq_ints {B H : Hp} {v : V} {xs : List Int} (e : Ex B H) (h : (rSeq rInt).is K B v xs) : ∃ p, v = .ref p ∧ (SqL K H p (xs.map V.int) ∨ SqT K H p (xs.map V.int)) := by
  obtain ⟨p, vs, h1, h2, h3⟩ := h
  have ev := ints_of h3
  subst ev
  exact ⟨p, h1, h2.imp (ex_l e) (ex_t e)⟩
theorem ev_inI {xs : List Int} (h : EV K M ta σ B L rInt k L1) (h' : EV K M tb σ B L1 (rSeq rInt) xs L2) : EV K M (tOp (rIn K false) ta tb) σ B L rBool (decide (k ∈ xs)) L2 := fun B1 H e w Q q =>
  h B1 H e w _ fun v B2 H2 e2 w2 hv => h' B2 H2 (e.trans e2) w2 _ fun u B3 H3 e3 w3 hu => by
    have hv : v = .int k := hv
    subst hv
    obtain ⟨p, rfl, hs⟩ := sq_ints w3.b hu
    refine ⟨p, _, rfl, hs, rfl, flat_ints xs, ?_⟩
    rw [inV_ints]
    exact q _ B3 H3 (e2.trans e3) w3 rfl
theorem ev_niI {xs : List Int} (h : EV K M ta σ B L rInt k L1) (h' : EV K M tb σ B L1 (rSeq rInt) xs L2) : EV K M (tOp (rIn K true) ta tb) σ B L rBool (!decide (k ∈ xs)) L2 := fun B1 H e w Q q =>
  h B1 H e w _ fun v B2 H2 e2 w2 hv => h' B2 H2 (e.trans e2) w2 _ fun u B3 H3 e3 w3 hu => by
    have hv : v = .int k := hv
    subst hv
    obtain ⟨p, rfl, hs⟩ := sq_ints w3.b hu
    refine ⟨p, _, rfl, hs, rfl, flat_ints xs, ?_⟩
    rw [inV_ints]
    exact q _ B3 H3 (e2.trans e3) w3 rfl
theorem cell_ints {n : Nat} {p : Addr} {xs : List Int} (w : Own K B M L H) (hc : L[n]? = some ⟨p, cLst rInt, xs⟩) : SqL K H p (xs.map V.int) := by
  obtain ⟨⟨o, h1, vs, h2, h3⟩, _⟩ := w.at hc
  have h1 : H p = some o := h1
  have ev := ints_of h3
  subst ev
  exact sq_of (by rw [h1, h2])
theorem ev_inC {n : Nat} {p : Addr} {xs : List Int} (h : EV K M ta σ B L rInt k L1) (h' : EV K M tb σ B L1 rRef p L2) (hc : L2[n]? = some ⟨p, cLst rInt, xs⟩) : EV K M (tOp (rIn K false) ta tb) σ B L rBool (decide (k ∈ xs)) L2 := fun B1 H e w Q q =>
  h B1 H e w _ fun v B2 H2 e2 w2 hv => h' B2 H2 (e.trans e2) w2 _ fun u B3 H3 e3 w3 hu => by
    have hv : v = .int k := hv
    have hu : u = .ref p := hu
    subst hv hu
    refine ⟨p, _, rfl, .inl (cell_ints w3 hc), rfl, flat_ints xs, ?_⟩
    rw [inV_ints]
    exact q _ B3 H3 (e2.trans e3) w3 rfl
theorem ev_niC {n : Nat} {p : Addr} {xs : List Int} (h : EV K M ta σ B L rInt k L1) (h' : EV K M tb σ B L1 rRef p L2) (hc : L2[n]? = some ⟨p, cLst rInt, xs⟩) : EV K M (tOp (rIn K true) ta tb) σ B L rBool (!decide (k ∈ xs)) L2 := fun B1 H e w Q q =>
  h B1 H e w _ fun v B2 H2 e2 w2 hv => h' B2 H2 (e.trans e2) w2 _ fun u B3 H3 e3 w3 hu => by
    have hv : v = .int k := hv
    have hu : u = .ref p := hu
    subst hv hu
    refine ⟨p, _, rfl, .inl (cell_ints w3 hc), rfl, flat_ints xs, ?_⟩
    rw [inV_ints]
    exact q _ B3 H3 (e2.trans e3) w3 rfl
/-- a list of ours that stays from now on -/
theorem ev_frzC {te : TE} {n : Nat} {p : Addr} {xs : List α} (h : EV K M te σ B L rRef p L') (hc : L'[n]? = some ⟨p, cLst r, xs⟩) : EV K M te σ B L (rLst r) xs (L'.eraseIdx n) := fun B1 H e w Q q =>
  h B1 H e w _ fun v B2 H2 e2 w2 hv => by
    have hv : v = .ref p := hv
    subst hv
    obtain ⟨o, h1, ⟨vs, h2, hp⟩, hB, w3⟩ := w2.freeze hc
    have h1 : H2 p = some o := h1
    have eN := Ex.new (o := o) hB
    refine q _ _ H2 (e2.trans eN) w3 ⟨p, vs, rfl, upd_same.trans (congrArg some h2), paired_mono eN hp⟩
/-- a value that may be None, where it is none -/
theorem ev_get {te : TE} {o : Option α} {a : α} (h : EV K M te σ B L (rOpt r) o L') (e : o = some a) : EV K M te σ B L r a L' := by
  subst e
  exact h
end
/-! ### a global that is a pair of ints -/
def pairAt (K : Fg) (a : Addr) (i j : Int) : Bool := match K.lookup a with
  | some o => decide (o.cls = .type "tuple") && (match o.data with
    | .seq its _ => (match its.toList with
      | [.int x _, .int y _] => decide (x = i) && decide (y = j)
      | _ => false)
    | _ => false)
  | none => false
theorem pairAt_ok {K : Fg} {a : Addr} {i j : Int} (h : pairAt K a i j = true) (B : Hp) : (rT2 rInt rInt).is K B (.ref a) (i, j) := by
  unfold pairAt at h
  split at h
  · rename_i o ho
    rw [Bool.and_eq_true] at h
    obtain ⟨hc, h⟩ := h
    split at h
    · rename_i its n hd
      split at h
      · rename_i x tx y ty hi
        rw [Bool.and_eq_true] at h
        have e1 := of_decide_eq_true h.1
        have e2 := of_decide_eq_true h.2
        subst e1 e2
        refine ⟨a, .int x, .int y, rfl, .inr ⟨o, its, n, ho, of_decide_eq_true hc, hd, ?_, ?_⟩, rfl, rfl⟩
        · rw [← Array.length_toList, hi]; show 2 ≤ sizeLine; decide
        · rw [hi]; exact .cons ⟨_, rfl⟩ (.cons ⟨_, rfl⟩ .nil)
      · cases h
    · cases h
  · cases h
def pairG (K : Fg) (x : Str) (i j : Int) : Bool := match PySem.W.nsIn K mainGlobals x with
  | some (some (.ref a)) => pairAt K a i j
  | _ => false
theorem pairG_ok {K : Fg} {h : Heap} {mg : Str → Option Value} {x : Str} {i j : Int} (X : K.In h) (G : h.Ns mainGlobals mg) (e : pairG K x i j = true) : GV K mg x (rT2 rInt rInt) (i, j) := by
  unfold pairG at e
  split at e
  · rename_i a ha
    exact ⟨.ref a, .ref a, PySem.W.mg_of X G ha, rfl, pairAt_ok e⟩
  · cases e
end L3

namespace L3
open PySem L2
open Evl (Ex ex_rd ex_l ex_t sq_of st_of fresh_back)
/-! ### while -/
def iterM {S R : Type} (f : S → Option (Stp S R)) : Nat → S → Option (S ⊕ R)
  | 0, _ => none
  | n + 1, s => match f s with
    | some (.nx s') => iterM f n s'
    | some (.bk s') => some (.inl s')
    | some (.rt r) => some (.inr r)
    | none => none
open Classical in
noncomputable def whileR {S R : Type} (f : S → Option (Stp S R)) (s : S) : Option (S ⊕ R) :=
  if h : ∃ n o, iterM f n s = some o then some (choose (choose_spec h)) else none
theorem whileR_some {S R : Type} {f : S → Option (Stp S R)} {s : S} {o : S ⊕ R} (h : whileR f s = some o) : ∃ n, iterM f n s = some o := by
  unfold whileR at h
  split at h
  · rename_i h'
    rw [← h]
    exact ⟨_, Classical.choose_spec (Classical.choose_spec h')⟩
  · cases h
theorem iterM_up {S R : Type} {f : S → Option (Stp S R)} : ∀ {n m : Nat} {s : S} {o : S ⊕ R}, iterM f n s = some o → n ≤ m → iterM f m s = some o
  | 0, _, _, _, h, _ => by cases h
  | n + 1, 0, _, _, _, h => by omega
  | n + 1, m + 1, s, o, h, l => by
    unfold iterM at h ⊢
    cases hf : f s with
    | none => rw [hf] at h; cases h
    | some t =>
      rw [hf] at h
      cases t with
      | nx s' => exact iterM_up (n := n) h (by omega)
      | bk s' => exact h
      | rt r => exact h
theorem whileR_of {S R : Type} {f : S → Option (Stp S R)} {s : S} {o : S ⊕ R} {n : Nat} (h : iterM f n s = some o) : whileR f s = some o := by
  unfold whileR
  have e : ∃ n o, iterM f n s = some o := ⟨n, o, h⟩
  rw [dif_pos e]
  obtain ⟨m, hm⟩ : ∃ m, iterM f m s = some (Classical.choose (Classical.choose_spec e)) := ⟨_, Classical.choose_spec (Classical.choose_spec e)⟩
  have h1 := iterM_up h (Nat.le_max_left n m)
  have h2 := iterM_up hm (Nat.le_max_right n m)
  rw [h1] at h2
  exact h2.symm
noncomputable def whileB {S : Type} (f : S → Option (Stp S Empty)) (s : S) : Option S := (whileR f s).map fun o => match o with
  | .inl s => s
  | .inr r => nomatch r
section
variable {K : Fg} {M : Fr} {σ : St} {B B' H H' : Hp} {L L1 L2 L' : List Cell} {α β γ δ : Type} {r : Rep α} {s : Rep β} {t : Rep γ} {ta tb tc te : TE} {tt tu : TT} {tA : TA} {i j k : Int} {b c : Bool} {D : Ends} {tz t1 t2 : TS}
theorem q_wt {Q : Bool → Hp → Prop} (w : Own K B M L H) (h : ET K M tt σ B L b L') (h1 : b = true → ∀ B' H', Ex B B' → Own K B' M L' H' → Q true H') (h2 : b = false → ∀ B' H', Ex B B' → Own K B' M L' H' → Q false H') : tt σ H Q :=
  h B H (Ex.refl _) w _ fun B' H' e w' => by
    cases b with
    | true => exact h1 rfl B' H' e w'
    | false => exact h2 rfl B' H' e w'
theorem q_whileR {S R : Type} {tb : TS} (w : Own K B M L H) (f : S → Option (Stp S R)) (P : S → Hp → St → Prop) (Lf : S → List Cell) (s0 : S) {o : S ⊕ R} (hm : whileR f s0 = some o)
    (h0 : ∀ B', Ex B B' → P s0 B' σ) (hL : Lf s0 = L)
    (hs : ∀ s st B0 B' H' σ', f s = some st → Ex B B0 → P s B0 σ' → Ex B0 B' → Own K B' M (Lf s) H' → (∀ q, st = .rt q → o = .inr q) → ∀ (N : St → Hp → Prop) (BK : St → Hp → Prop),
      (∀ s3 B3 H3 σ3, st = .nx s3 → Ex B' B3 → Own K B3 M (Lf s3) H3 → P s3 B3 σ3 → N σ3 H3) → (∀ s3 B3 H3 σ3, st = .bk s3 → Ex B' B3 → Own K B3 M (Lf s3) H3 → P s3 B3 σ3 → BK σ3 H3) →
      ∀ Q : Bool → Hp → Prop, (∀ H1, tb { D with nx := N, ct := N, bk := BK } σ' H1 → Q true H1) → (∀ H1, BK σ' H1 → Q false H1) → tt σ' H' Q)
    (hd : ∀ s B' H' σ', o = .inl s → Ex B B' → Own K B' M (Lf s) H' → P s B' σ' → tz D σ' H') : tSeq (tWhile tt tb) tz D σ H := by
  obtain ⟨n, hn⟩ := whileR_some hm
  refine ⟨fun m σ' H' => ∃ s B', Ex B B' ∧ Own K B' M (Lf s) H' ∧ P s B' σ' ∧ iterM f m s = some o, ⟨n, s0, B, Ex.refl _, by rw [hL]; exact w, h0 B (Ex.refl _), hn⟩, ?_⟩
  rintro m σ' H' ⟨s, B', e', w', hP, hl⟩
  cases m with
  | zero => cases hl
  | succ m =>
    unfold iterM at hl
    cases hst : f s with
    | none => rw [hst] at hl; cases hl
    | some st =>
      rw [hst] at hl
      refine hs s st B' B' H' σ' hst e' hP (Ex.refl _) w' (fun q e => by rw [e] at hl; exact (Option.some.inj hl).symm) (fun σ3 H3 => ∃ s3 B3, st = .nx s3 ∧ Ex B B3 ∧ Own K B3 M (Lf s3) H3 ∧ P s3 B3 σ3) (tz D)
        (fun s3 B3 H3 σ3 e3 e4 w3 p3 => ⟨s3, B3, e3, e'.trans e4, w3, p3⟩) (fun s3 B3 H3 σ3 e3 e4 w3 p3 => by
          rw [e3] at hl
          exact hd s3 B3 H3 σ3 (Option.some.inj hl).symm (e'.trans e4) w3 p3) _ (fun H1 hb => ?_) (fun H1 hb => ?_)
      · refine (if_pos rfl).mpr ⟨_, ?_, hb⟩
        rintro σ3 H3 ⟨s3, B3, e3, a1, a2, a3⟩
        subst e3
        exact ⟨m, Nat.lt_succ_self m, s3, B3, a1, a2, a3, hl⟩
      · exact (if_neg Bool.false_ne_true).mpr hb
theorem q_whileB {S : Type} {tb : TS} (w : Own K B M L H) (f : S → Option (Stp S Empty)) (P : S → Hp → St → Prop) (Lf : S → List Cell) (s0 : S) {s1 : S} (hm : whileB f s0 = some s1)
    (h0 : ∀ B', Ex B B' → P s0 B' σ) (hL : Lf s0 = L)
    (hs : ∀ s st B0 B' H' σ', f s = some st → Ex B B0 → P s B0 σ' → Ex B0 B' → Own K B' M (Lf s) H' → ∀ (N : St → Hp → Prop) (BK : St → Hp → Prop),
      (∀ s3 B3 H3 σ3, st = .nx s3 → Ex B' B3 → Own K B3 M (Lf s3) H3 → P s3 B3 σ3 → N σ3 H3) → (∀ s3 B3 H3 σ3, st = .bk s3 → Ex B' B3 → Own K B3 M (Lf s3) H3 → P s3 B3 σ3 → BK σ3 H3) →
      ∀ Q : Bool → Hp → Prop, (∀ H1, tb { D with nx := N, ct := N, bk := BK } σ' H1 → Q true H1) → (∀ H1, BK σ' H1 → Q false H1) → tt σ' H' Q)
    (hd : ∀ B' H' σ', Ex B B' → Own K B' M (Lf s1) H' → P s1 B' σ' → tz D σ' H') : tSeq (tWhile tt tb) tz D σ H := by
  unfold whileB at hm
  cases h : whileR f s0 with
  | none => rw [h] at hm; cases hm
  | some o =>
    rw [h] at hm
    refine q_whileR w f P Lf s0 h h0 hL (fun s st B0 B' H' σ' a1 a2 a3 a4 a5 _ => hs s st B0 B' H' σ' a1 a2 a3 a4 a5) fun s B' H' σ' a1 => ?_
    subst a1
    have e : s = s1 := Option.some.inj hm
    subst e
    exact hd B' H' σ'
/-! ### calls that read lists of ours -/
def nTup : HO → Prop
  | .lst _ => True
  | .dK _ => True
  | .tbl _ => True
  | _ => False
structure NT {α : Type} (c : CRep α) : Prop where
  nt : ∀ {K : Fg} {B : Hp} {o : HO} {a : α}, c.is K B o a → nTup o
theorem nt_lst {r : Rep α} : NT (cLst r) := ⟨fun ⟨xs, h, _⟩ => by subst h; trivial⟩
theorem nt_l2 {r : Rep α} {s : Rep β} : NT (cL2 r s) := ⟨fun ⟨x, y, h, _⟩ => by subst h; trivial⟩
theorem nt_dk : NT cDk := ⟨fun h => by
  have h : _ = HO.dK _ := h
  subst h; trivial⟩
def NTs (L : List Cell) : Prop := ∀ x ∈ L, NT x.c
theorem nts_nil : NTs [] := fun _ h => absurd h (by simp)
theorem nts_cons {x : Cell} (h : NT x.c) (h' : NTs L) : NTs (x :: L) := fun y hy => (List.mem_cons.mp hy).elim (fun e => e ▸ h) (h' y)
/-- without some addresses -/
def era (B : Hp) (ps : List Addr) : Hp := fun a => if a ∈ ps then none else B a
/-- with lists of ours -/
def frz (B : Hp) (L : List Cell) (H : Hp) : Hp := fun a => if a ∈ L.map (·.p) then H a else B a
structure TO {α : Type} (r : Rep α) : Prop where
  to : ∀ {K : Fg} {B : Hp} {ps : List Addr} {v : V} {a : α}, (∀ p ∈ ps, ∃ o, B p = some o ∧ nTup o) → r.is K B v a → r.is K (era B ps) v a
theorem era_t {ps : List Addr} {p : Addr} {xs : List V} (h : ∀ p ∈ ps, ∃ o, B p = some o ∧ nTup o) (hs : SqT K B p xs) : SqT K (era B ps) p xs := by
  have out : ∀ o, B p = some o → ¬ nTup o → era B ps p = some o := fun o e n => by
    unfold era
    rw [if_neg fun hp => ?_]
    · exact e
    · obtain ⟨u, e1, e2⟩ := h p hp
      rw [e] at e1
      cases e1
      exact n e2
  rcases hs with (e | ⟨o, e⟩) | e
  · exact .inl (.inl (out _ e id))
  · exact .inl (.inr ⟨o, out _ e id⟩)
  · exact .inr e
theorem to_int : TO rInt := ⟨fun _ h => h⟩
theorem to_bool : TO rBool := ⟨fun _ h => h⟩
theorem to_str : TO rStr := ⟨fun _ h => h⟩
theorem to_non : TO rNon := ⟨fun _ h => h⟩
theorem to_opt {r : Rep α} (h : TO r) : TO (rOpt r) := ⟨fun {K B ps v a} q e => by
  cases a with
  | none => exact e
  | some a => exact h.to q e⟩
theorem to_T2 {r : Rep α} {s : Rep β} (h : TO r) (g : TO s) : TO (rT2 r s) := ⟨fun q ⟨p, x, y, e1, e2, e3, e4⟩ => ⟨p, x, y, e1, era_t q e2, h.to q e3, g.to q e4⟩⟩
theorem to_T3 {r : Rep α} {s : Rep β} {t : Rep γ} (h : TO r) (g : TO s) (f : TO t) : TO (rT3 r s t) := ⟨fun q ⟨p, x, y, z, e1, e2, e3, e4, e5⟩ => ⟨p, x, y, z, e1, era_t q e2, h.to q e3, g.to q e4, f.to q e5⟩⟩
theorem paired_to {F G : V → α → Prop} (h : ∀ v a, F v a → G v a) {xs : List V} {as : List α} (e : Paired F xs as) : Paired G xs as := paired_imp h e
theorem to_tup {r : Rep α} (h : TO r) : TO (rTup r) := ⟨fun q ⟨p, xs, e1, e2, e3⟩ => ⟨p, xs, e1, era_t q e2, paired_to (fun _ _ => h.to q) e3⟩⟩
def AF (K : Fg) (M : Fr) (L : List Cell) (as as' : List Arg) : Prop := ∀ B H vs, Own K B M L H → ArgsIs K B vs as → ArgsIs K (frz B L H) vs as'
theorem ex_frz (w : Own K B M L H) : Ex B (frz B L H) := fun a u e => by
  unfold frz
  split
  · exact w.b a u e
  · exact e
theorem af_nil : AF K M L [] [] := fun B H vs w h => by
  match vs, h with
  | [], _ => trivial
theorem af_same {a : Arg} {as as' : List Arg} (h : AF K M L as as') : AF K M L (a :: as) (a :: as') := fun B H vs w g => by
  match vs, g with
  | _ :: _, ⟨g1, g2⟩ => exact ⟨a.r.mono (ex_frz w) g1, h B H _ w g2⟩
theorem af_cell {n : Nat} {p : Addr} {r : Rep α} {xs : List α} {as as' : List Arg} (hc : L[n]? = some ⟨p, cLst r, xs⟩) (h : AF K M L as as') : AF K M L (⟨rRef, p⟩ :: as) (⟨rLst r, xs⟩ :: as') := fun B H vs w g => by
  match vs, g with
  | v :: _, ⟨g1, g2⟩ =>
    obtain ⟨⟨o, h1, ys, h2, h3⟩, _⟩ := w.at hc
    have h1 : H p = some o := h1
    have g1 : v = .ref p := g1
    refine ⟨⟨p, ys, g1, ?_, paired_mono (ex_frz w) h3⟩, h B H _ w g2⟩
    unfold frz
    rw [if_pos (List.mem_map.mpr ⟨_, List.mem_of_getElem? hc, rfl⟩), h1, h2]
theorem Own.frzAll (w : Own K B M L H) : Own K (frz B L H) M [] H := by
  refine ⟨fun a u e => ?_, w.m, fun a => ?_, fun _ h => absurd h (by simp), by simp, fun P hP => ?_⟩
  · unfold frz at e
    split at e
    · exact e
    · exact w.b a u e
  · unfold frz
    split
    · rename_i h
      obtain ⟨x, hx, rfl⟩ := List.mem_map.mp h
      exact .inr (w.l x hx).2.2
    · exact w.bm a
  · obtain ⟨t1, t2, t3, t4⟩ := w.t P hP
    exact ⟨t1, by unfold frz; rw [if_neg t4]; exact t2, t3, by simp⟩
theorem Own.unfrz {B3 H3 : Hp} (w : Own K B M L H) (e : Ex (frz B L H) B3) (w3 : Own K B3 M [] H3) : Ex B (era B3 (L.map (·.p))) ∧ Own K (era B3 (L.map (·.p))) M L H3 := by
  have hex : Ex B (era B3 (L.map (·.p))) := fun a u h => by
    have hn : a ∉ L.map (·.p) := fun hm => by
      obtain ⟨x, hx, rfl⟩ := List.mem_map.mp hm
      rw [(w.l x hx).2.1] at h
      cases h
    unfold era
    rw [if_neg hn]
    exact e a u (ex_frz w a u h)
  refine ⟨hex, fun a u h => ?_, w3.m, fun a => ?_, fun x hx => ?_, w.nd, fun P hP => ?_⟩
  · unfold era at h
    split at h
    · cases h
    · exact w3.b a u h
  · unfold era
    split
    · exact .inl rfl
    · exact w3.bm a
  · obtain ⟨⟨o, h1, h2⟩, h3, h4⟩ := w.l x hx
    have hm : x.p ∈ L.map (·.p) := List.mem_map.mpr ⟨x, hx, rfl⟩
    refine ⟨⟨o, w3.b _ _ (e _ _ ?_), x.c.mono hex h2⟩, by unfold era; rw [if_pos hm], h4⟩
    unfold frz
    rw [if_pos hm, h1]
  · obtain ⟨t1, t2, t3, _⟩ := w3.t P hP
    obtain ⟨_, _, _, t4⟩ := w.t P hP
    exact ⟨t1, by unfold era; rw [if_neg t4]; exact t2, t3, t4⟩
theorem ev_callF {C : List Arg → List Cell → Arg → List Cell → Prop} {E : XK} {as as' : List Arg} {a : α} (ha : EA K M tA σ B L as L1) (hf : AF K M L1 as as') (hn : NTs L1) (hr : TO r) (h : C as' [] ⟨r, a⟩ []) : EV K M (tCall (spV K M.T C) [] E tA) σ B L r a L1 := fun B1 H e w Q q =>
  ha B1 H e w _ fun vs B2 H2 e2 w2 hv => by
    show spV K M.T C (vs ++ []) H2 Q E
    rw [List.append_nil]
    refine ⟨frz B2 L1 H2, M, [], as', ⟨r, a⟩, [], rfl, w2.frzAll, hf B2 H2 vs w2 hv, h, fun v B' H' e3 w3 hr3 => ?_⟩
    obtain ⟨e4, w4⟩ := w2.unfrz e3 w3
    refine q v _ H' (e2.trans e4) w4 (hr.to (fun p hp => ?_) hr3)
    obtain ⟨x, hx, rfl⟩ := List.mem_map.mp hp
    obtain ⟨⟨o, h1, h2⟩, _⟩ := w2.l x hx
    refine ⟨o, e3 _ _ ?_, (hn x hx).nt h2⟩
    unfold frz
    rw [if_pos hp, h1]
/-- a list of ours stays from now on -/
theorem frz_step {n : Nat} {p : Addr} {xs : List α} (w : Own K B M L H) (hc : L[n]? = some ⟨p, cLst r, xs⟩) : ∃ B', Ex B B' ∧ Own K B' M (L.eraseIdx n) H ∧ (rLst r).is K B' (.ref p) xs := by
  obtain ⟨o, h1, ⟨vs, h2, h3⟩, h4, w'⟩ := w.freeze hc
  have h4 : B p = none := h4
  refine ⟨_, Ex.new h4, w', p, vs, rfl, ?_, paired_mono (Ex.new h4) h3⟩
  show upd B p o p = _
  rw [upd_same, h2]
end
/-! ### defs that return a new list -/
def spN (K : Fg) (T : List Addr) {α : Type} (r : Rep α) (C : List Arg → List Cell → List α → List Cell → Prop) : Sp := fun vs H Q _ => ∃ B M L as xs L', M.T = T ∧ Own K B M L H ∧ ArgsIs K B vs as ∧ C as L xs L' ∧
  ∀ p B' H', Ex B B' → Own K B' M (⟨p, cLst r, xs⟩ :: L') H' → Q (.ref p) H'
section
variable {K : Fg} {M : Fr} {σ : St} {B B' H H' : Hp} {L L1 L2 L' : List Cell} {α β γ δ : Type} {r : Rep α} {s : Rep β} {t : Rep γ} {ta tb tc te : TE} {tt tu : TT} {tA : TA} {i j k : Int} {b c : Bool} {D : Ends} {tz t1 t2 : TS}
theorem Own.pick {n d : Nat} {x : Cell} (w : Own K B M L H) (hc : L[n]? = some x) (h : n < d) : Own K B M (x :: L.drop d) H := by
  have hx : x ∈ L.take d := by
    refine List.mem_of_getElem? (i := n) ?_
    rw [List.getElem?_take, if_pos h]; exact hc
  have sub : (x :: L.drop d).Sublist L := by
    have := (List.singleton_sublist.mpr hx).append (List.Sublist.refl (L.drop d))
    rwa [List.take_append_drop] at this
  exact w.perm (fun y hy => sub.subset hy) (w.nd.sublist (sub.map _))
theorem back_new {L2 : List Cell} {B1 B3 H1 H3 : Hp} {x : Cell} (w : Own K B1 M L2 H1) (e : Ex B1 B3) (w3 : Own K B3 (absorb M L2 H1) [x] H3) : Own K B3 M (x :: L2) H3 := by
  have hx := w3.l x (List.mem_singleton.mpr rfl)
  refine w.back (L := L2) (L1' := [x]) (L2 := L2) (fun _ h => h) w.nd e w3 fun y hy => ?_
  rw [List.mem_singleton.mp hy]
  intro hm
  obtain ⟨z, hz, ez⟩ := List.mem_map.mp hm
  have h1 := hx.2.2
  obtain ⟨⟨o, g1, _⟩, _⟩ := w.l z hz
  have e2 : absorb M L2 H1 z.p = H1 z.p := absorb_in hz
  rw [ez] at e2
  rw [e2] at h1
  rw [← ez, g1] at h1
  cases h1
theorem el_call {C : List Arg → List Cell → List α → List Cell → Prop} {E : XK} {as : List Arg} {xs : List α} (ha : EA K M tA σ B L as L1) (h : C as [] xs []) : EVL K M (tCall (spN K M.T r C) [] E tA) σ B L r xs L1 := fun B1 H e w Q q =>
  ha B1 H e w _ fun vs B2 H2 e2 w2 hv => by
    show spN K M.T r C (vs ++ []) H2 Q E
    rw [List.append_nil]
    refine ⟨B2, absorb M L1 H2, [], as, xs, [], rfl, w2.lend (L1 := []) (L2 := L1) (fun _ h => absurd h (by simp)) (fun _ h => h) (by simp) (fun _ h => absurd h (by simp)), hv, h, fun p B' H' e3 w3 => ?_⟩
    exact q p B' H' (e2.trans e3) (back_new w2 e3 w3)
theorem el_callF {C : List Arg → List Cell → List α → List Cell → Prop} {E : XK} {as as' : List Arg} {xs : List α} (ha : EA K M tA σ B L as L1) (hf : AF K M L1 as as') (hn : NTs L1) (hr : TO r) (h : C as' [] xs []) : EVL K M (tCall (spN K M.T r C) [] E tA) σ B L r xs L1 := fun B1 H e w Q q =>
  ha B1 H e w _ fun vs B2 H2 e2 w2 hv => by
    show spN K M.T r C (vs ++ []) H2 Q E
    rw [List.append_nil]
    refine ⟨frz B2 L1 H2, M, [], as', xs, [], rfl, w2.frzAll, hf B2 H2 vs w2 hv, h, fun p B' H' e3 w3 => ?_⟩
    have hx := w3.l _ (List.mem_singleton.mpr rfl)
    obtain ⟨e4, w4⟩ := w2.unfrz e3 w3.tail
    have nt : ∀ q ∈ L1.map (·.p), ∃ o, B' q = some o ∧ nTup o := fun q hq => by
      obtain ⟨x, hx, rfl⟩ := List.mem_map.mp hq
      obtain ⟨⟨o, h1, h2⟩, _⟩ := w2.l x hx
      refine ⟨o, e3 _ _ ?_, (hn x hx).nt h2⟩
      unfold frz
      rw [if_pos hq, h1]
    obtain ⟨⟨o, g1, ys, g2, g3⟩, gB, gM⟩ := hx
    have pn : p ∉ L1.map (·.p) := fun hp => by
      obtain ⟨o, e5, _⟩ := nt p hp
      have gB : B' p = none := gB
      rw [e5] at gB
      cases gB
    refine q p _ H' (e2.trans e4) ⟨w4.b, w4.m, w4.bm, fun x hx => ?_, ?_, fun P hP => ?_⟩
    · rcases List.mem_cons.mp hx with rfl | hx
      · refine ⟨⟨o, g1, ys, g2, paired_imp (fun v a => hr.to nt) g3⟩, ?_, gM⟩
        show era B' _ p = none
        unfold era
        rw [if_neg pn]
        exact gB
      · exact w4.l x hx
    · rw [List.map_cons, List.nodup_cons]
      exact ⟨pn, w4.nd⟩
    · obtain ⟨t1, t2, t3, t4⟩ := w4.t P hP
      obtain ⟨_, _, _, t5⟩ := w3.t P hP
      refine ⟨t1, t2, t3, fun z => ?_⟩
      rcases List.mem_cons.mp z with e | z
      · exact t5 (by rw [e]; simp)
      · exact t4 z
theorem q_retCN {n m : Nat} {p : Addr} {as : List α} (w : Own K B M L H) (hs : σ[m]? = some (some (.ref p))) (hc : L[n]? = some ⟨p, cLst r, as⟩) (q : D.rt (.ref p) H) : tSeq (tRet (tVar m)) tz D σ H := ⟨_, hs, q⟩
theorem q_retL {as : List α} (w : Own K B M L H) (h : EVL K M te σ B L r as L') (q : ∀ p B' H', Ex B B' → Own K B' M (⟨p, cLst r, as⟩ :: L') H' → D.rt (.ref p) H') : tSeq (tRet te) tz D σ H := h B H (Ex.refl _) w _ q
end
/-! ### lists: + -/
section
variable {K : Fg} {M : Fr} {σ : St} {B B' H H' : Hp} {L L1 L2 L' : List Cell} {α β γ δ : Type} {r : Rep α} {s : Rep β} {t : Rep γ} {ta tb tc te : TE} {tt tu : TT} {tA : TA} {i j k : Int} {b c : Bool} {D : Ends} {tz t1 t2 : TS}
theorem el_cat {xs ys zs : List α} (h : EV K M ta σ B L (rLst r) xs L1) (h' : EV K M tb σ B L1 (rLst r) ys L2) (hc : catT xs ys = some zs) : EVL K M (tOp rCat ta tb) σ B L r zs L2 := fun B1 H e w Q q =>
  h B1 H e w _ fun v B2 H2 e2 w2 hv => h' B2 H2 (e.trans e2) w2 _ fun u B3 H3 e3 w3 hu => by
    obtain ⟨p, vs, rfl, hs, hp⟩ := hv
    obtain ⟨p', us, rfl, hs', hp'⟩ := hu
    unfold catT at hc
    split at hc
    · rename_i hl
      obtain rfl := Option.some.inj hc
      have hp3 := paired_mono e3 hp
      have l1 := paired_len hp
      have l2 := paired_len hp'
      exact ⟨p, p', vs, us, rfl, rfl, w3.b _ _ (e3 _ _ hs), w3.b _ _ hs', Nat.le_trans (by omega) (show 1000000 ≤ sizeLine by decide), fun l hl => q l B3 _ (e2.trans e3) (w3.new hl ⟨_, rfl, paired_app hp3 hp'⟩)⟩
    · cases hc
end
/-! ### while: it ends -/
section
variable {S R : Type}
theorem y_while (f : S → Option (Stp S R)) (I : S → Prop) (μ : S → Nat) (E : S ⊕ R → Prop) {s : S} (h0 : I s)
    (hs : ∀ s, I s → Yes (f s) fun t => match t with | .nx s' => I s' ∧ μ s' < μ s | .bk s' => E (.inl s') | .rt r => E (.inr r)) : Yes (whileR f s) E := by
  have key : ∀ (n : Nat) (s : S), μ s < n → I s → ∃ o, iterM f n s = some o ∧ E o := by
    intro n
    induction n with
    | zero => intro s h; omega
    | succ n ih =>
      intro s h hI
      obtain ⟨t, h1, h2⟩ := hs s hI
      unfold iterM
      rw [h1]
      cases t with
      | nx s' => exact ih s' (by have := h2.2; omega) h2.1
      | bk s' => exact ⟨_, rfl, h2⟩
      | rt r => exact ⟨_, rfl, h2⟩
  obtain ⟨o, h1, h2⟩ := key _ s (Nat.lt_succ_self _) h0
  exact ⟨o, whileR_of h1, h2⟩
theorem y_whileB (f : S → Option (Stp S Empty)) (I : S → Prop) (μ : S → Nat) (E : S → Prop) {s : S} (h0 : I s)
    (hs : ∀ s, I s → Yes (f s) fun t => match t with | .nx s' => I s' ∧ μ s' < μ s | .bk s' => E s' | .rt r => False) : Yes (whileB f s) E := by
  obtain ⟨o, h1, h2⟩ := y_while f I μ (fun o => match o with | .inl s => E s | .inr r => False) h0 fun s hI => (hs s hI).mono fun t ht => by cases t <;> exact ht
  unfold whileB
  rw [h1]
  cases o with
  | inl s => exact ⟨s, rfl, h2⟩
  | inr r => exact h2.elim
end
end L3

namespace L3
open PySem L2
open Evl (Ex ex_rd ex_l ex_t sq_of st_of fresh_back)
/-! ### sorted ints -/
def sortL (xs : List Int) : List Int := xs.mergeSort fun a b => decide (a ≤ b)
theorem sortL_perm (xs : List Int) : (sortL xs).Perm xs := List.mergeSort_perm xs _
theorem sortL_le (xs : List Int) : (sortL xs).Pairwise (· ≤ ·) := by
  refine (List.pairwise_mergeSort (le := fun a b : Int => decide (a ≤ b)) (fun a b c h1 h2 => ?_) (fun a b => ?_) xs).imp fun {a b} h => of_decide_eq_true h
  · simp at *; omega
  · simp; omega
theorem sortL_eq {ys xs : List Int} (hp : ys.Perm xs) (hs : ys.Pairwise (· ≤ ·)) : ys = sortL xs :=
  List.Perm.eq_of_pairwise (le := fun a b : Int => a ≤ b) (fun a b _ _ h1 h2 => Int.le_antisymm h1 h2) hs (sortL_le xs) (hp.trans (sortL_perm xs).symm)
theorem paired_intsY {K : Fg} {B : Hp} : ∀ ns : List Int, Paired (rInt.is K B) (ns.map V.int) ns
  | [] => .nil
  | _ :: l => .cons rfl (paired_intsY l)
section
variable {K : Fg} {M : Fr} {σ : St} {B B' H H' : Hp} {L L1 L2 L' : List Cell} {α β γ δ : Type} {r : Rep α} {s : Rep β} {t : Rep γ} {ta tb tc te : TE} {tt tu : TT} {tA : TA} {i j k : Int} {b c : Bool} {D : Ends} {tz t1 t2 : TS}
theorem el_sorted {xs : List Int} (h : EV K M te σ B L (rScr rInt) xs L') : EVL K M (tCB (rSortedI K) (tCons te tNil)) σ B L rInt (sortL xs) L' := fun B1 H e w Q q =>
  h B1 H e w _ fun v B2 H2 e2 w2 hv => by
    obtain ⟨p, vs, rfl, hs, hp⟩ := hv
    have ev := ints_of hp
    subst ev
    refine ⟨p, xs, rfl, ex_l w2.b hs, fun ns l hp2 hs2 hl => ?_⟩
    rw [sortL_eq hp2 hs2]
    exact q l B2 _ e2 (w2.new hl ⟨_, rfl, paired_intsY _⟩)
/-! ### a, b, .. = a list -/
def un2 : List α → Option (α × α)
  | [a, b] => some (a, b)
  | _ => none
def un3 : List α → Option (α × α × α)
  | [a, b, c] => some (a, b, c)
  | _ => none
def un4 : List α → Option (α × α × α × α)
  | [a, b, c, d] => some (a, b, c, d)
  | _ => none
variable {Qs : St → Hp → Prop}
theorem g_U2 {as : List α} {a : α × α} {v : V} {gs : TGs} (h : (rLst r).is K B v as) (w : Own K B M L H) (e : un2 as = some a) (q : ∀ x y, r.is K B x a.1 → r.is K B y a.2 → gs [x, y] σ H Qs) : gUnl K 2 gs v σ H Qs := by
  obtain ⟨p, vs, rfl, hs, hp⟩ := h
  match as, e, vs, hp, hs with
  | [a, b], e, [x, y], .cons h1 (.cons h2 .nil), hs =>
    cases e
    exact ⟨p, _, rfl, sq_of (w.b _ _ hs), rfl, q x y h1 h2⟩
theorem g_U3 {as : List α} {a : α × α × α} {v : V} {gs : TGs} (h : (rLst r).is K B v as) (w : Own K B M L H) (e : un3 as = some a) (q : ∀ x y z, r.is K B x a.1 → r.is K B y a.2.1 → r.is K B z a.2.2 → gs [x, y, z] σ H Qs) : gUnl K 3 gs v σ H Qs := by
  obtain ⟨p, vs, rfl, hs, hp⟩ := h
  match as, e, vs, hp, hs with
  | [a, b, c], e, [x, y, z], .cons h1 (.cons h2 (.cons h3 .nil)), hs =>
    cases e
    exact ⟨p, _, rfl, sq_of (w.b _ _ hs), rfl, q x y z h1 h2 h3⟩
theorem g_U4 {as : List α} {a : α × α × α × α} {v : V} {gs : TGs} (h : (rLst r).is K B v as) (w : Own K B M L H) (e : un4 as = some a) (q : ∀ x y z u, r.is K B x a.1 → r.is K B y a.2.1 → r.is K B z a.2.2.1 → r.is K B u a.2.2.2 → gs [x, y, z, u] σ H Qs) : gUnl K 4 gs v σ H Qs := by
  obtain ⟨p, vs, rfl, hs, hp⟩ := h
  match as, e, vs, hp, hs with
  | [a, b, c, d], e, [x, y, z, u], .cons h1 (.cons h2 (.cons h3 (.cons h4 .nil))), hs =>
    cases e
    exact ⟨p, _, rfl, sq_of (w.b _ _ hs), rfl, q x y z u h1 h2 h3 h4⟩
end
end L3

namespace L3G
open PySem L2
variable {X : Cx}
/-! ### is True, is False -/
def rIsB : R2 := fun x y H Q => ∃ a b, x = .bl a ∧ y = .bl b ∧ Q (.bl (decide (a = b))) H
def rNotB : R2 := fun x y H Q => ∃ a b, x = .bl a ∧ y = .bl b ∧ Q (.bl (!decide (a = b))) H
theorem op_isB : OpR X (compareOp .Is) rIsB := by
  intro pins s σ H x y v u Q I rx ry h
  obtain ⟨a, b, rfl, rfl, q⟩ := h
  cases (show v = Value.bool a from rx)
  cases (show u = Value.bool b from ry)
  exact wpAny_is_plain rfl (fin_bl I q (by cases a <;> cases b <;> rfl))
theorem op_isnB : OpR X (compareOp .IsNot) rNotB := by
  intro pins s σ H x y v u Q I rx ry h
  obtain ⟨a, b, rfl, rfl, q⟩ := h
  cases (show v = Value.bool a from rx)
  cases (show u = Value.bool b from ry)
  exact wpAny_isNot_plain rfl (fin_bl I q (by cases a <;> cases b <;> rfl))
end L3G
namespace L3
open PySem L2
open Evl (Ex ex_rd ex_l ex_t sq_of st_of fresh_back)
/-! ### any new thing that may change -/
def ENC (K : Fg) (M : Fr) {α : Type} (te : TE) (σ : St) (B : Hp) (L : List Cell) (c : CRep α) (a : α) (L' : List Cell) : Prop :=
  ∀ B1 H, Ex B B1 → Own K B1 M L H → ∀ Q : VK, (∀ p B2 H2, Ex B1 B2 → Own K B2 M (⟨p, c, a⟩ :: L') H2 → Q (.ref p) H2) → te σ H Q
def spC (K : Fg) (T : List Addr) {α : Type} (c : CRep α) (C : List Arg → List Cell → α → List Cell → Prop) : Sp := fun vs H Q _ => ∃ B M L as x L', M.T = T ∧ Own K B M L H ∧ ArgsIs K B vs as ∧ C as L x L' ∧
  ∀ p B' H', Ex B B' → Own K B' M (⟨p, c, x⟩ :: L') H' → Q (.ref p) H'
/-- a dict of a list and an int -/
def cBox : CRep (List Int × Int) := ⟨fun K B o a => ∃ q, o = .dK [(Sum.inr "row", .ref q), (Sum.inr "at", .int a.2)] ∧ (rLst rInt).is K B (.ref q) a.1, fun e ⟨q, h1, h2⟩ => ⟨q, h1, (rLst rInt).mono e h2⟩⟩
section
variable {K : Fg} {M : Fr} {σ : St} {B B' H H' : Hp} {L L1 L2 L' : List Cell} {α β γ δ : Type} {r : Rep α} {s : Rep β} {t : Rep γ} {ta tb tc te : TE} {tt tu : TT} {tA : TA} {i j k : Int} {b c : Bool} {D : Ends} {tz t1 t2 : TS}
theorem nt_box : NT cBox := ⟨fun ⟨q, h, _⟩ => by subst h; trivial⟩
theorem ec_call {cr : CRep α} {C : List Arg → List Cell → α → List Cell → Prop} {E : XK} {as : List Arg} {x : α} (ha : EA K M tA σ B L as L1) (h : C as [] x []) : ENC K M (tCall (spC K M.T cr C) [] E tA) σ B L cr x L1 := fun B1 H e w Q q =>
  ha B1 H e w _ fun vs B2 H2 e2 w2 hv => by
    show spC K M.T cr C (vs ++ []) H2 Q E
    rw [List.append_nil]
    refine ⟨B2, absorb M L1 H2, [], as, x, [], rfl, w2.lend (L1 := []) (L2 := L1) (fun _ h => absurd h (by simp)) (fun _ h => h) (by simp) (fun _ h => absurd h (by simp)), hv, h, fun p B' H' e3 w3 => ?_⟩
    exact q p B' H' (e2.trans e3) (back_new w2 e3 w3)
theorem q_asgC {n : Nat} {cr : CRep α} {a : α} (w : Own K B M L H) (h : ENC K M te σ B L cr a L') (q : ∀ p B' H', Ex B B' → Own K B' M (⟨p, cr, a⟩ :: L') H' → tz D (σ.set n (some (.ref p))) H') : tSeq (tAsg te (gName n)) tz D σ H := h B H (Ex.refl _) w _ q
theorem q_retNC {cr : CRep α} {a : α} (w : Own K B M L H) (h : ENC K M te σ B L cr a L') (q : ∀ p B' H', Ex B B' → Own K B' M (⟨p, cr, a⟩ :: L') H' → D.rt (.ref p) H') : tSeq (tRet te) tz D σ H := h B H (Ex.refl _) w _ q
theorem ec_box {tx ty : TE} {xs : List Int} (hx : ∀ p, EV K M tx σ B (⟨p, cDk, []⟩ :: L) (rLst rInt) xs (⟨p, cDk, []⟩ :: L1)) (hy : ∀ p, EV K M ty σ B (⟨p, cDk, []⟩ :: L1) rInt i (⟨p, cDk, []⟩ :: L')) : ENC K M (tDisp [(tC (.str "row"), tx), (tC (.str "at"), ty)]) σ B L cBox (xs, i) L' := fun B1 H e w Q q p hp => by
  have w1 : Own K B1 M (⟨p, cDk, []⟩ :: L) (upd H p (.dK [])) := w.new hp rfl
  refine hx p B1 _ e w1 _ fun u B2 H2 e2 w2 hu => hy p B2 H2 (e.trans e2) w2 _ fun v B3 H3 e3 w3 hv => ?_
  have hv : v = .int i := hv
  obtain ⟨l, vs, rfl, hl⟩ := (rLst rInt).mono e3 hu
  obtain ⟨⟨o, h1, h2⟩, _⟩ := w3.at (i := 0) rfl
  have h1 : H3 p = some o := h1
  have h2 : o = .dK [] := h2
  refine ⟨by rw [h1, h2], [(Sum.inr "row", .ref l), (Sum.inr "at", v)], rfl, by show 2 ≤ 15; decide, ?_⟩
  refine q p B3 _ (e2.trans e3) ?_
  have := w3.set (i := 0) (o := .dK (mergeK [] [(Sum.inr "row", V.ref l), (Sum.inr "at", v)])) rfl (c' := cBox) (a' := (xs, i)) ⟨l, by rw [hv]; rfl, l, vs, rfl, hl⟩
  exact this
theorem ev_boxAt {n m : Nat} {p : Addr} {x : List Int × Int} (hs : σ[m]? = some (some (.ref p))) (hc : L[n]? = some ⟨p, cBox, x⟩) : EV K M (tDGet (tVar m) (tC (.str "at"))) σ B L rInt x.2 L := fun B1 H e w Q q => by
  obtain ⟨⟨o, h1, l, h2, h3⟩, _⟩ := w.at hc
  have h1 : H p = some o := h1
  subst h2
  exact ⟨_, hs, p, .int x.2, rfl, DGet.k (k := Sum.inr "at") h1, q _ B1 H (Ex.refl _) w rfl⟩
theorem ev_boxRow {n m : Nat} {p : Addr} {x : List Int × Int} (hs : σ[m]? = some (some (.ref p))) (hc : L[n]? = some ⟨p, cBox, x⟩) : EV K M (tDGet (tVar m) (tC (.str "row"))) σ B L (rLst rInt) x.1 L := fun B1 H e w Q q => by
  obtain ⟨⟨o, h1, l, h2, h3⟩, _⟩ := w.at hc
  have h1 : H p = some o := h1
  subst h2
  exact ⟨_, hs, p, .ref l, rfl, DGet.k (k := Sum.inr "row") h1, q _ B1 H (Ex.refl _) w h3⟩
theorem q_boxAt {n m : Nat} {p : Addr} {x : List Int × Int} (w : Own K B M L H) (h : EV K M te σ B L rInt i L1) (hs : σ[m]? = some (some (.ref p))) (hc : L1[n]? = some ⟨p, cBox, x⟩)
    (q : ∀ B' H', Ex B B' → Own K B' M (L1.set n ⟨p, cBox, (x.1, i)⟩) H' → tz D σ H') : tSeq (tAsg te (gSub (tVar m) (tC (.str "at")) rSetD)) tz D σ H :=
  h B H (Ex.refl _) w _ fun v B1 H1 e1 w1 hv => ⟨_, hs, by
    obtain ⟨⟨o, h1, l, h2, h3⟩, _⟩ := w1.at hc
    have h1 : H1 p = some o := h1
    have hv : v = .int i := hv
    subst h2 hv
    refine ⟨p, _, rfl, DPut.k (k := Sum.inr "at") h1 (by show 2 < sizeLine; decide), q B1 _ e1 ?_⟩
    exact w1.set (c' := cBox) (a' := (x.1, i)) hc ⟨l, rfl, h3⟩⟩
/-! ### is True; texts in a tuple -/
theorem ev_isB {x y : Bool} (ha : EV K M ta σ B L rBool x L1) (hb : EV K M tb σ B L1 rBool y L2) : EV K M (tOp L3G.rIsB ta tb) σ B L rBool (decide (x = y)) L2 :=
  ev_op ha hb fun _ _ _ _ _ _ hx hy q => ⟨x, y, hx, hy, q _ rfl⟩
theorem ev_isnB {x y : Bool} (ha : EV K M ta σ B L rBool x L1) (hb : EV K M tb σ B L1 rBool y L2) : EV K M (tOp L3G.rNotB ta tb) σ B L rBool (!decide (x = y)) L2 :=
  ev_op ha hb fun _ _ _ _ _ _ hx hy q => ⟨x, y, hx, hy, q _ rfl⟩
theorem strs_of : ∀ {vs : List V} {xs : List Str}, Paired (rStr.is K B) vs xs → vs = xs.map V.str
  | _, _, .nil => rfl
  | _, _, .cons h t => by
    have h : _ = V.str _ := h
    rw [h, strs_of t]; rfl
theorem flat_strs : ∀ xs : List Str, (xs.map V.str).all flatV = true
  | [] => rfl
  | x :: xs => by rw [List.map_cons, List.all_cons, flat_strs xs]; rfl
theorem inV_strs (k : Str) : ∀ xs : List Str, inV (.str k) (xs.map V.str) = decide (k ∈ xs)
  | [] => rfl
  | x :: xs => by
    have ih := inV_strs k xs
    unfold inV at ih ⊢
    rw [List.map_cons, List.any_cons, ih]
    have e : eqV (.str x) (.str k) = decide (x = k) := by
      show (x == k) = _
      rw [Bool.eq_iff_iff, beq_iff_eq, decide_eq_true_iff]
    rw [e]
    clear ih e
    by_cases h : x = k
    · subst h
      rw [decide_eq_true rfl, Bool.true_or, decide_eq_true (List.mem_cons_self)]
    · rw [decide_eq_false h, Bool.false_or]
      by_cases h2 : k ∈ xs
      · rw [decide_eq_true h2, decide_eq_true (List.mem_cons_of_mem _ h2)]
      · rw [decide_eq_false h2, decide_eq_false fun z => (List.mem_cons.mp z).elim (fun q => h q.symm) h2]
theorem sq_strs {v : V} {xs : List Str} (e : Ex B H) (h : (rSeq rStr).is K B v xs) : ∃ p, v = .ref p ∧ (SqL K H p (xs.map V.str) ∨ SqT K H p (xs.map V.str)) := by
  obtain ⟨p, vs, h1, h2, h3⟩ := h
  have ev := strs_of h3
  subst ev
  exact ⟨p, h1, h2.imp (ex_l e) (ex_t e)⟩
theorem ev_inS {z : Str} {xs : List Str} (h : EV K M ta σ B L rStr z L1) (h' : EV K M tb σ B L1 (rSeq rStr) xs L2) : EV K M (tOp (rIn K false) ta tb) σ B L rBool (decide (z ∈ xs)) L2 := fun B1 H e w Q q =>
  h B1 H e w _ fun v B2 H2 e2 w2 hv => h' B2 H2 (e.trans e2) w2 _ fun u B3 H3 e3 w3 hu => by
    have hv : v = .str z := hv
    subst hv
    obtain ⟨p, rfl, hs⟩ := sq_strs w3.b hu
    refine ⟨p, _, rfl, hs, rfl, flat_strs xs, ?_⟩
    rw [inV_strs]
    exact q _ B3 H3 (e2.trans e3) w3 rfl
theorem ev_niS {z : Str} {xs : List Str} (h : EV K M ta σ B L rStr z L1) (h' : EV K M tb σ B L1 (rSeq rStr) xs L2) : EV K M (tOp (rIn K true) ta tb) σ B L rBool (!decide (z ∈ xs)) L2 := fun B1 H e w Q q =>
  h B1 H e w _ fun v B2 H2 e2 w2 hv => h' B2 H2 (e.trans e2) w2 _ fun u B3 H3 e3 w3 hu => by
    have hv : v = .str z := hv
    subst hv
    obtain ⟨p, rfl, hs⟩ := sq_strs w3.b hu
    refine ⟨p, _, rfl, hs, rfl, flat_strs xs, ?_⟩
    rw [inV_strs]
    exact q _ B3 H3 (e2.trans e3) w3 rfl
/-! ### data that is known to be of a kind -/
def asS : PyData → Option Str
  | .str x => some x
  | _ => none
def asI : PyData → Option Int
  | .int i => some i
  | _ => none
def asB : PyData → Option Bool
  | .bool b => some b
  | _ => none
def asT : PyData → Option (List PyData)
  | .tuple ds => some ds
  | _ => none
def asIs : List PyData → Option (List Int)
  | [] => some []
  | .int i :: ds => (asIs ds).map (i :: ·)
  | _ :: _ => none
def asQ : PyData → Option (Int × Int)
  | .tuple [.int i, .int j] => some (i, j)
  | _ => none
variable {d : PyData}
theorem ev_asS {z : Str} (h : EV K M te σ B L rDat d L') (e : asS d = some z) : EV K M te σ B L rStr z L' := ev_as h fun _ _ h => by
  have h : Dp _ _ _ d := h
  cases h <;> cases e
  rfl
theorem ev_asI (h : EV K M te σ B L rDat d L') (e : asI d = some i) : EV K M te σ B L rInt i L' := ev_as h fun _ _ h => by
  have h : Dp _ _ _ d := h
  cases h <;> cases e
  rfl
theorem ev_asB (h : EV K M te σ B L rDat d L') (e : asB d = some b) : EV K M te σ B L rBool b L' := ev_as h fun _ _ h => by
  have h : Dp _ _ _ d := h
  cases h <;> cases e
  rfl
theorem ev_asT {ds : List PyData} (h : EV K M te σ B L rDat d L') (e : asT d = some ds) : EV K M te σ B L (rTup rDat) ds L' := ev_as h fun _ _ h => by
  have h : Dp _ _ _ d := h
  cases h with
  | tup hs hd => cases e; exact ⟨_, _, rfl, hs, dpAll_paired hd⟩
  | _ => cases e
theorem asIs_paired : ∀ {vs : List V} {ds : List PyData} {is : List Int}, Paired (rDat.is K B) vs ds → asIs ds = some is → Paired (rInt.is K B) vs is
  | _, _, _, .nil, e => by cases e; exact .nil
  | v :: vs, d :: ds, is, .cons h t, e => by
    have h : Dp K B v d := h
    cases d <;> try (cases e)
    rename_i i
    unfold asIs at e
    cases hi : asIs ds with
    | none => rw [hi] at e; cases e
    | some js =>
      rw [hi] at e
      cases e
      cases h
      exact .cons rfl (asIs_paired t hi)
theorem ev_asIs {ds : List PyData} {is : List Int} (h : EV K M te σ B L (rTup rDat) ds L') (e : asIs ds = some is) : EV K M te σ B L (rTup rInt) is L' := ev_as h fun _ _ ⟨p, vs, h1, h2, h3⟩ => ⟨p, vs, h1, h2, asIs_paired h3 e⟩
theorem dpQ {v : V} {q : Int × Int} (h : Dp K B v d) (e : asQ d = some q) : (rT2 rInt rInt).is K B v q := by
  unfold asQ at e
  split at e
  · cases e
    cases h with
    | tup hs hd =>
      cases hd with
      | cons h1 h2 =>
        cases h2 with
        | cons h2 h3 =>
          cases h3
          cases h1
          cases h2
          exact ⟨_, _, _, rfl, hs, rfl, rfl⟩
  · cases e
theorem ev_asQ {q : Int × Int} (h : EV K M te σ B L rDat d L') (e : asQ d = some q) : EV K M te σ B L (rT2 rInt rInt) q L' := ev_as h fun _ _ h => dpQ h e
/-- len of a pair -/
theorem ev_lenT2 {a : α × β} (ha : EV K M ta σ B L (rT2 r s) a L1) : EV K M (tCB (rLen K) (tCons ta tNil)) σ B L rInt 2 L1 :=
  ev_cb1 ha fun B1 H1 x Q w hx q => by
    obtain ⟨p, u, v, rfl, hs, h1, h2⟩ := hx
    exact ⟨p, _, rfl, .inr (ex_t w.b hs), q _ rfl⟩
end
/-! ### a list of two kinds -/
def rL2 {α β : Type} (r : Rep α) (s : Rep β) : Rep (α × β) := ⟨fun K B v a => ∃ p x y, v = .ref p ∧ B p = some (.lst [x, y]) ∧ r.is K B x a.1 ∧ s.is K B y a.2,
  fun e ⟨p, x, y, h1, h2, h3, h4⟩ => ⟨p, x, y, h1, e _ _ h2, r.mono e h3, s.mono e h4⟩⟩
def dL2 {α β : Type} (f : α → PyData) (g : β → PyData) (a : α × β) : PyData := .list [f a.1, g a.2]
section
variable {K : Fg} {M : Fr} {σ : St} {B B' H H' : Hp} {L L1 L2 L' : List Cell} {α β γ δ : Type} {r : Rep α} {s : Rep β} {t : Rep γ} {ta tb tc te : TE} {tA : TA} {f : α → PyData} {g : β → PyData} {n m : Nat}
theorem ev_L2 {a : α} {b : β} (h : EA K M tA σ B L [⟨r, a⟩, ⟨s, b⟩] L') : EV K M (tLst tA) σ B L (rL2 r s) (a, b) L' := fun B1 H e w Q q =>
  h B1 H e w _ fun vs B2 H2 e2 w2 hv => by
    match vs, hv with
    | [x0, x1], ⟨h1, h2, _⟩ =>
      refine ⟨by show 2 ≤ sizeLine; decide, fun p hp => ?_⟩
      have eN := Ex.new (o := HO.lst [x0, x1]) (fresh_back w2.b hp)
      exact q _ (upd B2 p _) _ (e2.trans eN) (w2.ext hp) ⟨p, _, _, rfl, upd_same, r.mono eN h1, s.mono eN h2⟩
theorem ev_L2fst {a : α × β} (ha : EV K M ta σ B L (rL2 r s) a L1) : EV K M (tOp (rIx K) ta (tC (.int 0))) σ B L r a.1 L1 := fun B1 H e w Q q =>
  ha B1 H e w _ fun x B2 H2 e2 w2 hx => by
    obtain ⟨p, x0, x1, rfl, hs, h0, h1⟩ := hx
    exact .inl ⟨p, _, 0, x0, rfl, rfl, sq_of (w2.b _ _ hs), rfl, q _ B2 H2 e2 w2 h0⟩
theorem ev_L2snd {a : α × β} (ha : EV K M ta σ B L (rL2 r s) a L1) : EV K M (tOp (rIx K) ta (tC (.int 1))) σ B L s a.2 L1 := fun B1 H e w Q q =>
  ha B1 H e w _ fun x B2 H2 e2 w2 hx => by
    obtain ⟨p, x0, x1, rfl, hs, h0, h1⟩ := hx
    exact .inl ⟨p, _, 1, x1, rfl, rfl, sq_of (w2.b _ _ hs), rfl, q _ B2 H2 e2 w2 h1⟩
theorem dr_L2 (d : DR r f n) (e : DR s g m) : DR (rL2 r s) (dL2 f g) (max n m + 1) := ⟨fun K B v a ⟨p, x, y, h1, h2, h3, h4⟩ => by subst h1; exact .lst (sq_of h2) (.cons (d.dp _ _ _ _ h3) (.cons (e.dp _ _ _ _ h4) .nil)),
  fun a => by simp [dL2, PyData.canLay0, PyData.canLayAll0, d.lay, e.lay], fun a => by have := d.dep a.1; have := e.dep a.2; simp only [dL2, PyData.depth, PyData.depthAll]; omega,
  fun a b => by simp only [dL2, PyData.eqv, PyData.eqvAll, Bool.and_true, Bool.and_eq_true, d.eqv, e.eqv]; exact ⟨fun ⟨x, y⟩ => Prod.ext x y, fun e => by rw [e]; exact ⟨rfl, rfl⟩⟩,
  fun a b q => by unfold dL2 at q; injection q with q; injection q with q1 q2; injection q2 with q2 _; exact Prod.ext (d.inj _ _ q1) (e.inj _ _ q2)⟩
theorem dq_L2 (d : DQ r f) (e : DQ s g) : DQ (rL2 r s) (dL2 f g) := fun K B v a ⟨p, x, y, h1, h2, h3, h4⟩ => by subst h1; exact .lst (sq_of h2) (.cons (d _ _ _ _ h3) (.cons (e _ _ _ _ h4) .nil))
end
/-! ### a global dict of texts -/
def lookI : List (Str × Int) → Str → Option Int
  | [], _ => none
  | q :: l, z => if q.1 = z then some q.2 else lookI l z
def entB : List DictEntry → List (Str × Int) → Bool
  | [], [] => true
  | e :: es, q :: qs => (match e.key, e.val with
    | .str k _, .int i _ => decide (k = q.1) && decide (i = q.2)
    | _, _ => false) && entB es qs
  | _, _ => false
def tabG (K : Fg) (x : Str) (l : List (Str × Int)) : Bool := match PySem.W.nsIn K mainGlobals x with
  | some (some (.ref a)) => decide (a = He.ga K x) && (match K.lookup a with
    | some ⟨_, _, .dict es _, _⟩ => entB es.toList l
    | _ => false)
  | _ => false
structure GD (K : Fg) (w : World) (mg : Str → Option Value) (x : Str) (l : List (Str × Int)) : Prop where
  ex : ∃ a es n, mg x = some (.ref a) ∧ KDict K w a es n ∧ (∀ z, lookI l z = none → PySem.W.nsIn K a z = some none) ∧ ∀ z i, lookI l z = some i → ∃ t, PySem.W.nsIn K a z = some (some (.int i t))
theorem ent_find : ∀ {es : List DictEntry} {l : List (Str × Int)} (z : Str), entB es l = true → (lookI l z = none → es.find? (·.key.isStr z) = none ∧ es.any (·.refKey) = false) ∧ ∀ i, lookI l z = some i → ∃ e t, es.find? (·.key.isStr z) = some e ∧ e.val = .int i t
  | [], [], z, _ => ⟨fun _ => ⟨rfl, rfl⟩, fun i h => by cases h⟩
  | e :: es, q :: l, z, h => by
    unfold entB at h
    rw [Bool.and_eq_true] at h
    obtain ⟨h1, h2⟩ := h
    have ih := ent_find z h2
    obtain ⟨hh, ek, ev⟩ := e
    cases ek <;> try (cases h1)
    cases ev <;> try (cases h1)
    rename_i k tk i ti
    have h1 : (decide (k = q.1) && decide (i = q.2)) = true := h1
    rw [Bool.and_eq_true, decide_eq_true_iff, decide_eq_true_iff] at h1
    obtain ⟨rfl, rfl⟩ := h1
    unfold lookI
    have is : (Value.str q.1 tk).isStr z = decide (q.1 = z) := by
      rw [Bool.eq_iff_iff, decide_eq_true_iff]
      show (q.1 == z) = true ↔ _
      exact beq_iff_eq
    by_cases e : q.1 = z
    · rw [if_pos e]
      refine ⟨fun h => (by cases h), fun i h => ?_⟩
      cases h
      refine ⟨⟨hh, .str q.1 tk, .int q.2 ti⟩, ti, ?_, rfl⟩
      rw [List.find?_cons, is, decide_eq_true e]
    · rw [if_neg e]
      refine ⟨fun h => ?_, fun i h => ?_⟩
      · obtain ⟨a, b⟩ := ih.1 h
        refine ⟨?_, ?_⟩
        · rw [List.find?_cons, is, decide_eq_false e]; exact a
        · rw [List.any_cons, b]; rfl
      · obtain ⟨e', t, a, b⟩ := ih.2 i h
        refine ⟨e', t, ?_, b⟩
        rw [List.find?_cons, is, decide_eq_false e]; exact a
theorem tabG_ok {K : Fg} {w : World} {h : Heap} {mg : Str → Option Value} {x : Str} {l : List (Str × Int)} (X : K.In h) (G : h.Ns mainGlobals mg) (e : tabG K x l = true) (D : ∃ es n, KDict K w (He.ga K x) es n) : GD K w mg x l := by
  unfold tabG at e
  split at e
  · rename_i a ha
    rw [Bool.and_eq_true, decide_eq_true_iff] at e
    obtain ⟨ea, e⟩ := e
    obtain ⟨es, n, D⟩ := D
    rw [← ea] at D
    rw [D.at_] at e
    have e : entB es.toList l = true := e
    refine ⟨a, es, n, PySem.W.mg_of X G ha, D, fun z hz => ?_, fun z i hz => ?_⟩
    · obtain ⟨h1, h2⟩ := (ent_find z e).1 hz
      unfold PySem.W.nsIn
      rw [D.at_]
      show (match es.toList.find? (·.key.isStr z) with | some e => some (some e.val) | none => if es.toList.any (·.refKey) then none else some none) = _
      rw [h1, h2]; rfl
    · obtain ⟨e', t, h1, h2⟩ := (ent_find z e).2 i hz
      refine ⟨t, ?_⟩
      unfold PySem.W.nsIn
      rw [D.at_]
      show (match es.toList.find? (·.key.isStr z) with | some e => some (some e.val) | none => if es.toList.any (·.refKey) then none else some none) = _
      rw [h1, ← h2]
  · cases e
section
variable {K : Fg} {M : Fr} {σ : St} {B B' H H' : Hp} {L L1 L2 L' : List Cell} {α β γ δ : Type} {r : Rep α} {s : Rep β} {t : Rep γ} {ta tb tc te : TE} {tt tu : TT} {tA : TA} {i j k : Int} {b c : Bool} {D : Ends} {tz t1 t2 : TS}
abbrev rInG (K : Fg) (d : Addr) : R2 := fun x y H Q => ∃ (z : Str) (r : Option Value), x = .str z ∧ y = .ref d ∧ PySem.W.nsIn K d z = some r ∧ Q (.bl r.isSome) H
abbrev rNiG (K : Fg) (d : Addr) : R2 := fun x y H Q => ∃ (z : Str) (r : Option Value), x = .str z ∧ y = .ref d ∧ PySem.W.nsIn K d z = some r ∧ Q (.bl (!r.isSome)) H
theorem ev_inG {d : Addr} {z : Str} {l : List (Str × Int)} (h0 : ∀ z, lookI l z = none → PySem.W.nsIn K d z = some none) (h1 : ∀ z i, lookI l z = some i → ∃ t, PySem.W.nsIn K d z = some (some (.int i t))) (h : EV K M ta σ B L rStr z L1) (h' : EV K M tb σ B L1 rRef d L2) : EV K M (tOp (rInG K d) ta tb) σ B L rBool (lookI l z).isSome L2 :=
  ev_op h h' fun _ _ _ _ _ _ hx hy q => by
    cases e : lookI l z with
    | none => exact ⟨z, none, hx, hy, h0 z e, q _ (by rw [e]; rfl)⟩
    | some i =>
      obtain ⟨t, ht⟩ := h1 z i e
      exact ⟨z, _, hx, hy, ht, q _ (by rw [e]; rfl)⟩
theorem ev_niG {d : Addr} {z : Str} {l : List (Str × Int)} (h0 : ∀ z, lookI l z = none → PySem.W.nsIn K d z = some none) (h1 : ∀ z i, lookI l z = some i → ∃ t, PySem.W.nsIn K d z = some (some (.int i t))) (h : EV K M ta σ B L rStr z L1) (h' : EV K M tb σ B L1 rRef d L2) : EV K M (tOp (rNiG K d) ta tb) σ B L rBool (!(lookI l z).isSome) L2 :=
  ev_op h h' fun _ _ _ _ _ _ hx hy q => by
    cases e : lookI l z with
    | none => exact ⟨z, none, hx, hy, h0 z e, q _ (by rw [e]; rfl)⟩
    | some i =>
      obtain ⟨t, ht⟩ := h1 z i e
      exact ⟨z, _, hx, hy, ht, q _ (by rw [e]; rfl)⟩
theorem ev_ixG {w0 : World} {d : Addr} {es : Array DictEntry} {n : Nat} {z : Str} {l : List (Str × Int)} (D : KDict K w0 d es n) (h1 : ∀ z i, lookI l z = some i → ∃ t, PySem.W.nsIn K d z = some (some (.int i t))) (h : EV K M ta σ B L rRef d L1) (h' : EV K M tb σ B L1 rStr z L2) (e : lookI l z = some i) : EV K M (tOp (rIxD K w0) ta tb) σ B L rInt i L2 :=
  ev_op h h' fun _ _ _ _ _ _ hx hy q => by
    obtain ⟨t, ht⟩ := h1 z i e
    exact ⟨d, z, .int i, hx, hy, ⟨es, n, .int i t, D.at_, D.lit, ht, ⟨t, rfl⟩⟩, q _ rfl⟩
end
end L3

namespace L3G
open PySem PySem.Spec PyProof.Rows L2
variable {X : Cx}
/-- name = {k: v for ..} on one line, the name a local -/
theorem ps_setDc {i : Nat} {y : Str} {py : Pos} {kx vx tg iter : Expr} {ifs : List Expr} {scope : Scope} {own : List (Str × Nat)} {pos spos : Pos} {wi : TI} {g : TG} {tt : TT} {tk tv : TE} (hc : X.calm = true) (hN : X.N.Nodup) (hy : X.N[i]? = some y) (hyl : X.env.scope.names.lookup y = some .local)
    (hsw : swapsWith (.DictComp kx vx [⟨tg, iter, ifs, 0⟩] scope pos) (some (.Name y py)) spos.line X.env = pure true) (hi : PI X tg iter wi) (ok : BlkOk X.N X.env.scope scope own)
    (hg : ∀ (s : Shared) (H : Hp) (C : Addr) (cl : List (Str × Addr)) (fp : List Addr), PG (X.blk s H scope (compEnvC scope cl C X.env) fp) tg g) (ht : ∀ (s : Shared) (H : Hp) (C : Addr) (cl : List (Str × Addr)) (fp : List Addr), PTs (X.blk s H scope (compEnvC scope cl C X.env) fp) ifs tt)
    (hk : ∀ (s : Shared) (H : Hp) (C : Addr) (cl : List (Str × Addr)) (fp : List Addr), PE (X.blk s H scope (compEnvC scope cl C X.env) fp) kx tk)
    (he : ∀ (s : Shared) (H : Hp) (C : Addr) (cl : List (Str × Addr)) (fp : List Addr), PE (X.blk s H scope (compEnvC scope cl C X.env) fp) vx tv) (hs : ∀ x, foldedSetIterable iter X.env x = pure x := by intro _; rfl) :
    PS X (.Assign [.Name y py] (.DictComp kx vx [⟨tg, iter, ifs, 0⟩] scope pos) spos) (tAsg (tDc wi g tt tk tv (own.map (·.2))) (gName i)) := by
  refine ⟨fun pins s σ H D I h => ?_⟩
  rw [exec_Assign_Name_used _ _ _ _ hsw]
  refine wpAny_bind (wpAny_standAt (wpAny_bind ?_))
  show wpAny _ X.A (do let _ ← comprehension (.DictComp kx vx [⟨tg, iter, ifs, 0⟩] scope pos) scope X.env (firstIterPos [⟨tg, iter, ifs, 0⟩] pos) newDict false (eval iter X.env) (some (assign (.Name y py) X.env))) _ _ s
  have h : tDc wi g tt tk tv (own.map (·.2)) σ H (fun x H1 => gName i x σ H1 D.nx) := h
  refine wpAny_bind (thn (dc_core (Qf := fun _ s' => SP X pins D .next s') hc hN I hi ok hg ht hk he hs h fun L C s' m H' I' q hn f => ?_) fun _ s' hq => wpAny_pure (wpAny_pure hq))
  show wpAny _ _ (assign (.Name y py) X.env (.ref L)) _ _ _
  refine wpAny_assign_Name (store_ok2 (v := V.ref L) I' hN hy (.inl hyl) rfl (fun s2 I2 ⟨a, sb, ha⟩ => ?_) (.inr hyl))
  obtain ⟨f0, f1, f2, f3, f4, f5⟩ := f
  have haC : C ≠ a := by
    rcases ha with z | z
    · rw [z]; exact f1
    · exact fun e => f4 y a z e.symm
  refine ⟨m, hn.sameBut sb haC, fun h3 sb3 => ?_⟩
  exact ⟨_, H', I2.turned (t' := s2.toks) (fun b o hb e => (sb3.2 b hb).trans e) f0 f1 f3 f4 f5, q⟩
end L3G
namespace L3
open PySem L2
open Evl (Ex ex_rd ex_l ex_t sq_of st_of fresh_back)
/-! ### dicts of ints: made by a comprehension, read, asked -/
def getI : List (Int × Int) → Int → Option Int
  | [], _ => none
  | q :: l, k => if q.1 = k then some q.2 else getI l k
theorem valV_enc (k : Int) : ∀ kvs : List (Int × Int), valV (L3G.encI kvs) (Sum.inl k : Key) = (getI kvs k).map V.int
  | [] => rfl
  | q :: l => by
    have ih := valV_enc k l
    unfold valV L3G.encI at ih ⊢
    rw [List.map_cons, List.find?_cons]
    unfold getI
    by_cases h : q.1 = k
    · rw [if_pos h]
      have : (decide ((Sum.inl q.1 : Key) = Sum.inl k)) = true := decide_eq_true (by rw [h])
      rw [this]
      rfl
    · rw [if_neg h]
      have : (decide ((Sum.inl q.1 : Key) = Sum.inl k)) = false := decide_eq_false fun z => h (Sum.inl.inj z)
      rw [this]
      exact ih
def dcM {α : Type} (f : α → Option (Int × Int)) : List (Int × Int) → List α → Option (List (Int × Int))
  | kvs, [] => some kvs
  | kvs, x :: xs => match f x with
    | some q => dcM f (putI kvs q.1 q.2) xs
    | none => none
theorem putI_len (kvs : List (Int × Int)) (k v : Int) : (putI kvs k v).length ≤ kvs.length + 1 := by
  have h := L2.length_putK (L3G.encI kvs) (Sum.inl k : Key) (V.int v)
  rw [enc_put] at h
  simpa [L3G.encI] using h
section
variable {K : Fg} {M : Fr} {σ : St} {B : Hp} {L L1 L2 L' : List Cell} {α β γ δ : Type} {r : Rep α} {s : Rep β} {t : Rep γ} {ta tb tc te tk tv : TE} {tt tu : TT} {tA : TA} {i j k : Int} {b c : Bool} {wi : TI} {g : TG}
theorem ec_dc {vs : List Nat} {σ' : St} {xs : List α} {kvs : List (Int × Int)} (hi : EI K M wi σ B L r xs L1) (f : α → Option (Int × Int)) (hm : dcM f [] xs = some kvs) (hr : room xs.length = some ()) (hw : wipe σ vs = σ')
    (hs : ∀ x o v D acc B' H', f x = some o → Ex B B' → Own K B' M (⟨D, cDk, acc⟩ :: L1) H' → r.is K B' v x → ∀ (PY : V → V → Hp → Prop) (PN : Hp → Prop),
      (∀ y z B2 H2, Ex B' B2 → Own K B2 M (⟨D, cDk, acc⟩ :: L1) H2 → y = .int o.1 → z = .int o.2 → PY y z H2) →
      g v σ' H' fun σ2 H2 => wipe σ2 vs = σ' ∧ tYes σ2 H2 fun b H3 => if b = true then tk σ2 H3 fun y H4 => tv σ2 H4 fun z H5 => PY y z H5 else PN H3) :
    ENC K M (tDc wi g tYes tk tv vs) σ B L cDk kvs L1 := fun B1 H e w Q q => by
  refine hi B1 H e w _ fun J B2 H2 e2 w2 wk => ?_
  intro D hD
  subst hw
  have w3 : Own K B2 M (⟨D, cDk, []⟩ :: L1) (upd H2 D (.dK [])) := w2.new (c := cDk) hD rfl
  refine ⟨fun i m H' => m = xs.length - i ∧ i ≤ xs.length ∧ ∃ acc B', Ex B2 B' ∧ Own K B' M (⟨D, cDk, acc⟩ :: L1) H' ∧ acc.length ≤ i ∧ dcM f acc (xs.drop i) = some kvs,
    ⟨_, rfl, Nat.zero_le _, [], B2, Ex.refl _, w3, Nat.zero_le _, hm⟩, ?_⟩
  rintro i m H' ⟨rfl, hil, acc, B', eb, w', hacc, hz⟩
  by_cases hl : i = xs.length
  · subst hl
    rw [List.drop_length] at hz
    obtain rfl := Option.some.inj hz
    exact .inl ⟨wk.stop B' _ H' eb w', q D B' H' (e2.trans eb) w'⟩
  · have hlt : i < xs.length := by omega
    rw [List.drop_eq_getElem_cons hlt] at hz
    have hx : xs[i]? = some xs[i] := List.getElem?_eq_getElem hlt
    obtain ⟨g1, g2⟩ := wk.go i xs[i] B' _ H' eb w' hx
    unfold dcM at hz
    cases hf : f xs[i] with
    | none => rw [hf] at hz; cases hz
    | some o =>
      rw [hf] at hz
      dsimp only at hz
      refine .inr ⟨g1, fun H5 => i + 1 ≤ xs.length ∧ ∃ acc B', Ex B2 B' ∧ Own K B' M (⟨D, cDk, acc⟩ :: L1) H5 ∧ acc.length ≤ i + 1 ∧ dcM f acc (xs.drop (i + 1)) = some kvs, fun H5 h5 => ⟨xs.length - (i + 1), by omega, rfl, h5⟩, fun x H4 hy => ?_⟩
      obtain ⟨B4, e4, w4, hrx⟩ := g2 x H4 hy
      have hb := (e.trans e2).trans (eb.trans e4)
      refine hs xs[i] o x D acc B4 H4 hf hb w4 hrx (fun y z H6 => ∃ kvs' k', y = kV k' ∧ H6 D = some (.dK kvs') ∧ kvs'.length < sizeLine ∧ (fun H5 => i + 1 ≤ xs.length ∧ ∃ acc B', Ex B2 B' ∧ Own K B' M (⟨D, cDk, acc⟩ :: L1) H5 ∧ acc.length ≤ i + 1 ∧ dcM f acc (xs.drop (i + 1)) = some kvs) (upd H6 D (.dK (putK kvs' k' z)))) _ fun y z B5 H5 e5 w5 hy hz' => ?_
      subst hy hz'
      obtain ⟨⟨o', a1, a2⟩, _⟩ := w5.at (i := 0) rfl
      have a1 : H5 D = some o' := a1
      have a2 : o' = .dK (L3G.encI acc) := a2
      refine ⟨L3G.encI acc, Sum.inl o.1, rfl, by rw [a1, a2], ?_, hlt, putI acc o.1 o.2, B5, (eb.trans e4).trans e5, ?_, ?_, hz⟩
      · have hq := room_some hr
        have : (L3G.encI acc).length = acc.length := by simp [L3G.encI]
        omega
      · rw [enc_put]
        exact w5.set (i := 0) rfl (c' := cDk) rfl
      · have := putI_len acc o.1 o.2
        omega
theorem dc_yes {PY : V → V → Hp → Prop} {PN : Hp → Prop} {H : Hp} (h : tk σ H fun y H4 => tv σ H4 fun z H5 => PY y z H5) : tYes σ H fun b H3 => if b = true then tk σ H3 fun y H4 => tv σ H4 fun z H5 => PY y z H5 else PN H3 := by
  show (if true = true then tk σ H fun y H4 => tv σ H4 fun z H5 => PY y z H5 else PN H)
  rw [if_pos rfl]
  exact h
theorem ev_dGet {n : Nat} {p : Addr} {kvs : List (Int × Int)} {v : Int} (h : EV K M ta σ B L rRef p L1) (h' : EV K M tb σ B L1 rInt k L2) (hc : L2[n]? = some ⟨p, cDk, kvs⟩) (e : getI kvs k = some v) : EV K M (tDGet ta tb) σ B L rInt v L2 := fun B1 H e1 w Q q =>
  h B1 H e1 w _ fun x B2 H2 e2 w2 hx => h' B2 H2 (e1.trans e2) w2 _ fun u B3 H3 e3 w3 hu => by
    obtain ⟨⟨o', g1, g2⟩, _⟩ := w3.at hc
    have g1 : H3 p = some o' := g1
    have g2 : o' = .dK (L3G.encI kvs) := g2
    have hu : u = .int k := hu
    subst hu
    have hd : DGet H3 p (kV (Sum.inl k)) (valV (L3G.encI kvs) (Sum.inl k)) := DGet.k (by rw [g1, g2])
    rw [valV_enc, e] at hd
    exact ⟨p, .int v, hx, hd, q _ B3 H3 (e2.trans e3) w3 rfl⟩
theorem ev_dIn {n : Nat} {p : Addr} {kvs : List (Int × Int)} (h' : EV K M tb σ B L rInt k L1) (h : EV K M ta σ B L1 rRef p L2) (hc : L2[n]? = some ⟨p, cDk, kvs⟩) : EV K M (tDIn tb ta) σ B L rBool (getI kvs k).isSome L2 := fun B1 H e1 w Q q =>
  h' B1 H e1 w _ fun u B2 H2 e2 w2 hu => h B2 H2 (e1.trans e2) w2 _ fun x B3 H3 e3 w3 hx => by
    obtain ⟨⟨o', g1, g2⟩, _⟩ := w3.at hc
    have g1 : H3 p = some o' := g1
    have g2 : o' = .dK (L3G.encI kvs) := g2
    have hu : u = .int k := hu
    subst hu
    have hd : DGet H3 p (kV (Sum.inl k)) (valV (L3G.encI kvs) (Sum.inl k)) := DGet.k (by rw [g1, g2])
    rw [valV_enc] at hd
    refine ⟨p, _, hx, hd, q _ B3 H3 (e2.trans e3) w3 ?_⟩
    cases getI kvs k <;> rfl
theorem ev_dNi {n : Nat} {p : Addr} {kvs : List (Int × Int)} (h' : EV K M tb σ B L rInt k L1) (h : EV K M ta σ B L1 rRef p L2) (hc : L2[n]? = some ⟨p, cDk, kvs⟩) : EV K M (tDNotIn tb ta) σ B L rBool (!(getI kvs k).isSome) L2 := fun B1 H e1 w Q q =>
  h' B1 H e1 w _ fun u B2 H2 e2 w2 hu => h B2 H2 (e1.trans e2) w2 _ fun x B3 H3 e3 w3 hx => by
    obtain ⟨⟨o', g1, g2⟩, _⟩ := w3.at hc
    have g1 : H3 p = some o' := g1
    have g2 : o' = .dK (L3G.encI kvs) := g2
    have hu : u = .int k := hu
    subst hu
    have hd : DGet H3 p (kV (Sum.inl k)) (valV (L3G.encI kvs) (Sum.inl k)) := DGet.k (by rw [g1, g2])
    rw [valV_enc] at hd
    refine ⟨p, _, hx, hd, q _ B3 H3 (e2.trans e3) w3 ?_⟩
    cases getI kvs k <;> rfl
/-! ### list.index of ints -/
def idxI : List Int → Int → Option Int
  | [], _ => none
  | x :: l, k => if x = k then some 0 else (idxI l k).map (· + 1)
theorem idxI_at {k : Int} : ∀ {xs : List Int} {v : Int}, idxI xs k = some v → ∃ n : Nat, v = (n : Int) ∧ xs[n]? = some k ∧ ∀ (m : Nat) (z : Int), m < n → xs[m]? = some z → z ≠ k
  | [], _, h => by cases h
  | x :: l, v, h => by
    unfold idxI at h
    split at h
    · rename_i e
      obtain rfl := Option.some.inj h
      exact ⟨0, rfl, by rw [← e]; rfl, fun m z hm => absurd hm (by omega)⟩
    · rename_i e
      cases e2 : idxI l k with
      | none => rw [e2] at h; cases h
      | some u =>
        rw [e2] at h
        obtain rfl := Option.some.inj h
        obtain ⟨n, rfl, h1, h2⟩ := idxI_at e2
        refine ⟨n + 1, by simp, by simpa using h1, fun m z hm hz => ?_⟩
        cases m with
        | zero => obtain rfl : x = z := Option.some.inj hz; exact e
        | succ m => exact h2 m z (by omega) (by simpa using hz)
theorem ev_index {xs : List Int} {v : Int} (h : EV K M ta σ B L (rLst rInt) xs L1) (h' : EV K M tb σ B L1 rInt k L2) (e : idxI xs k = some v) : EV K M (tBM K "list" (rIndex K) ta (tCons tb tNil)) σ B L rInt v L2 := fun B1 H e1 w Q q =>
  h B1 H e1 w _ fun x B2 H2 e2 w2 hx => by
    obtain ⟨p, ys, rfl, hs, hp⟩ := rl_sc hx
    refine ⟨.inl ⟨rfl, ys, ex_l w2.b hs⟩, h' B2 H2 (e1.trans e2) w2 _ fun u B3 H3 e3 w3 hu => ?_⟩
    have hu : u = .int k := hu
    subst hu
    obtain ⟨n, rfl, h1, h2⟩ := idxI_at e
    obtain rfl := ints_of hp
    refine ⟨p, xs.map V.int, .int k, n, .int k, rfl, rfl, ex_l w3.b (ex_l e3 hs), rfl, ?_, by rw [List.getElem?_map, h1]; rfl, by simp [eqV], fun m z hm hz => ?_, q _ B3 H3 (e2.trans e3) w3 rfl⟩
    · rw [List.all_eq_true]
      intro y hy
      obtain ⟨z, _, rfl⟩ := List.mem_map.mp hy
      rfl
    · rw [List.getElem?_map] at hz
      cases hx : xs[m]? with
      | none => rw [hx] at hz; cases hz
      | some z2 =>
        rw [hx] at hz
        obtain rfl : V.int z2 = z := Option.some.inj hz
        have := h2 m z2 hm hx
        simpa [eqV] using this
end
end L3

namespace L3G
open PySem PySem.Spec PyProof.Rows L2
variable {X : Cx}
/-! ### one of two readings -/
def orI (a b : TI) : TI := fun σ H R => a σ H R ∨ b σ H R
theorem pi_or {tg e : Expr} {a b : TI} (h1 : PI X tg e a) (h2 : PI X tg e b) : PI X tg e (orI a b) := ⟨fun pins s σ H R I h => h.elim (h1.run pins s σ H R I) (h2.run pins s σ H R I)⟩
/-- a generator expression within a comprehension -/
def relab (sc fsc : Scope) : Scope := { sc with names := sc.names.map fun (n, k) => if (k == .free && fsc.kind == .function && fsc.names.lookup n == some .cell) then (n, .cell) else (n, k) }
theorem gs_in {scC scope fsc : Scope} (e : X.env.scope = fsc) (h : gsB (relab scC fsc) scope = true) : GSc (relabel scC X.env) scope := by
  have : relabel scC X.env = relab scC fsc := by subst e; rfl
  rw [this]
  exact gs_by h
/-! ### the truth of a list, a text -/
def tTru (K : PySem.W.Frag) (te : TE) : TT := fun σ H Q => te σ H fun x H' => ∃ k, TruV K x H' k ∧ Q k H'
theorem pt_tru {a : Expr} {ta : TE} (ha : PE X a ta) (he : ∀ whole, isTrue a X.env whole = (do let v ← whole; standAt a.pos; holding [v] (truthy v)) := by intro _; rfl) : PT X a (tTru X.K ta) := pt_truth ha he
end L3G
namespace L3
open PySem L2
open Evl (Ex ex_rd ex_l ex_t sq_of st_of fresh_back)
def truS (x : Str) : Option Bool := if x.length ≤ 1000000 then some (decide (x.length ≠ 0)) else none
section
variable {K : Fg} {M : Fr} {σ : St} {B B' H H' : Hp} {L L1 L2 L' : List Cell} {α β γ δ : Type} {r : Rep α} {s : Rep β} {t : Rep γ} {ta tb tc te : TE} {tt tu : TT} {tA : TA} {i j k : Int} {b c : Bool} {D : Ends} {tz t1 t2 : TS} {wa wb : TI}
theorem seq_cases {v : V} {xs : List α} (h : (rSeq r).is K B v xs) : (rScr r).is K B v xs ∨ (rTup r).is K B v xs := by
  obtain ⟨p, vs, h1, h2, h3⟩ := h
  exact h2.imp (fun z => ⟨p, vs, h1, z, h3⟩) (fun z => ⟨p, vs, h1, z, h3⟩)
theorem ei_or {xs : List α} (h : EI K M wa σ B L r xs L' ∨ EI K M wb σ B L r xs L') : EI K M (L3G.orI wa wb) σ B L r xs L' := fun B1 H e w R q => h.imp (fun z => z B1 H e w R q) (fun z => z B1 H e w R q)
theorem ei_seqV {n : Nat} {v : V} {xs : List α} (h : σ[n]? = some (some v)) (hr : (rSeq r).is K B v xs) : EI K M (L3G.orI (iList K (tVar n)) (iTup K (tVar n))) σ B L r xs L := ei_or ((seq_cases hr).imp (fun z => ei_scr (ev_var h z)) (fun z => ei_tup (ev_var h z)))
theorem ei_enumSc {xs : List α} (h : EV K M te σ B L (rScr r) xs L') : EI K M (iEnum K (tCons te tNil)) σ B L (rT2 rInt r) (enumI 0 xs) L' := fun B1 H e w R q => h B1 H e w _ fun v B2 H2 e2 w2 hv => by
  obtain ⟨p, vs, rfl, hs, hp⟩ := hv
  refine ⟨p, vs, rfl, ex_l w2.b hs, q _ B2 H2 e2 w2 ⟨fun i a B' L' H' e' w' hi => ?_, fun B' L' H' e' w' => ⟨vs, ex_l (e'.trans w'.b) hs, by rw [enumI_len, paired_len hp]; exact Nat.le_refl _⟩⟩⟩
  obtain ⟨h1, h2⟩ := enumI_get hi
  obtain ⟨x, hx, hr⟩ := paired_get hp h2
  refine ⟨⟨vs, x, ex_l (e'.trans w'.b) hs, hx⟩, fun y H3 hy => ?_⟩
  obtain ⟨T, z, rfl, hT, rfl, hy⟩ := hy
  have := hy vs (ex_l (e'.trans w'.b) hs)
  rw [hx] at this
  cases this
  have eN := Ex.new (o := HO.tup [.int (i : Nat), x]) (fresh_back w'.b hT)
  exact ⟨upd B' T _, eN, w'.ext hT, ⟨T, _, _, rfl, st_of upd_same, by rw [h1]; show V.int _ = V.int _; congr 1; simp, r.mono (e'.trans eN) hr⟩⟩
theorem ei_enumSV {n : Nat} {v : V} {xs : List α} (h : σ[n]? = some (some v)) (hr : (rSeq r).is K B v xs) : EI K M (L3G.orI (iEnum K (tCons (tVar n) tNil)) (L3G.iEnumT K (tCons (tVar n) tNil))) σ B L (rT2 rInt r) (enumI 0 xs) L := ei_or ((seq_cases hr).imp (fun z => ei_enumSc (ev_var h z)) (fun z => ei_enumT (ev_var h z)))
theorem pair_empty {F : V → α → Prop} {vs : List V} {xs : List α} (h : Paired F vs xs) : vs.isEmpty = xs.isEmpty := by cases h <;> rfl
theorem et_truL {xs : List α} (h : EV K M te σ B L (rSeq r) xs L') : ET K M (L3G.tTru K te) σ B L (!xs.isEmpty) L' := fun B1 H e w Q q => h B1 H e w _ fun v B2 H2 e2 w2 hv => by
  obtain ⟨p, vs, rfl, hs, hp⟩ := hv
  refine ⟨_, ?_, q B2 H2 e2 w2⟩
  rcases hs with hs | hs
  · exact .inl ⟨vs, ex_l w2.b hs, by rw [pair_empty hp]⟩
  · exact .inr (.inl ⟨vs, ex_t w2.b hs, by rw [pair_empty hp]⟩)
theorem et_truC {n : Nat} {p : Addr} {xs : List α} (h : EV K M te σ B L rRef p L') (hc : L'[n]? = some ⟨p, cLst r, xs⟩) : ET K M (L3G.tTru K te) σ B L (!xs.isEmpty) L' := fun B1 H e w Q q => h B1 H e w _ fun v B2 H2 e2 w2 hv => by
  have hv : v = .ref p := hv
  subst hv
  obtain ⟨⟨o, h1, vs, h2, hp⟩, _⟩ := w2.at hc
  have h1 : H2 p = some o := h1
  exact ⟨_, .inl ⟨vs, sq_of (by rw [h1, h2]), by rw [pair_empty hp]⟩, q B2 H2 e2 w2⟩
theorem et_truI (h : EV K M te σ B L rInt i L') : ET K M (L3G.tTru K te) σ B L (!decide (i = 0)) L' := fun B1 H e w Q q => h B1 H e w _ fun v B2 H2 e2 w2 hv => by
  have hv : v = .int i := hv
  subst hv
  refine ⟨_, ?_, q B2 H2 e2 w2⟩
  show _ = (i != 0)
  by_cases g : i = 0 <;> simp [g]
theorem et_truS {x : Str} (h : EV K M te σ B L rStr x L') (e : truS x = some b) : ET K M (L3G.tTru K te) σ B L b L' := fun B1 H e1 w Q q => h B1 H e1 w _ fun v B2 H2 e2 w2 hv => by
  have hv : v = .str x := hv
  subst hv
  unfold truS at e
  split at e
  · rename_i hl
    obtain rfl := Option.some.inj e
    refine ⟨_, ⟨Nat.le_trans hl (by decide), rfl⟩, ?_⟩
    have : decide (x.length ≠ 0) = ((x.length : Int) != 0) := by
      by_cases g : x.length = 0 <;> simp [g]
    rw [← this]
    exact q B2 H2 e2 w2
  · cases e
theorem ev_chP {g g' : Int → Int → Bool} {d : Bool} (ha : EV K M ta σ B L rInt i L1) (hb : EV K M tb σ B L1 rInt j L2) (h1 : g i j = true → ∃ k, EV K M tc σ B L2 rInt k L2 ∧ d = g' j k) (h2 : g i j = false → d = false) : EV K M (tChain (rI0 fun i j => .bl (g i j)) (rI0 fun i j => .bl (g' i j)) ta tb tc) σ B L rBool d L2 := fun B1 H e w Q q =>
  ha B1 H e w _ fun x B2 H2 e2 w2 hx => hb B2 H2 (e.trans e2) w2 _ fun y B3 H3 e3 w3 hy => ⟨i, j, hx, hy, g i j, rfl, by
    cases hg : g i j with
    | true =>
      obtain ⟨k, hc, rfl⟩ := h1 hg
      exact hc B3 H3 ((e.trans e2).trans e3) w3 _ fun z B4 H4 e4 w4 hz => ⟨j, k, hy, hz, q _ B4 H4 ((e2.trans e3).trans e4) w4 rfl⟩
    | false => exact q _ B3 H3 (e2.trans e3) w3 (by show V.bl _ = V.bl _; rw [h2 hg])⟩
/-- a new list from a def that changes the one at n -/
theorem el_callC {C : List Arg → List Cell → List α → List Cell → Prop} {E : XK} {as : List Arg} {xs : List α} (n : Nat) {x x' : Cell} (ha : EA K M tA σ B L as L1) (hx : L1[n]? = some x) (h : C as [x] xs [x']) (hp : x'.p = x.p) : EVL K M (tCall (spN K M.T r C) [] E tA) σ B L r xs (L1.set n x') := fun B1 H e w Q q =>
  ha B1 H e w _ fun vs B2 H2 e2 w2 hv => by
    show spN K M.T r C (vs ++ []) H2 Q E
    rw [List.append_nil]
    have nd := w2.nd
    have hn := erase_mem nd hx
    have sub : ∀ y ∈ L1.eraseIdx n, y ∈ L1 := fun y hy => List.mem_of_mem_eraseIdx hy
    refine ⟨B2, absorb M (L1.eraseIdx n) H2, [x], as, xs, [x'], rfl, w2.lend (L1 := [x]) (L2 := L1.eraseIdx n) (fun y h => by rw [List.mem_singleton.mp h]; exact List.mem_of_getElem? hx) sub nodup_one (fun y h => by rw [List.mem_singleton.mp h]; exact hn), hv, h, fun p B' H' e3 w3 => ?_⟩
    have hnew := w3.l _ (List.mem_cons_self)
    have hpn : p ∉ (L1.eraseIdx n).map (·.p) := fun hm => by
      obtain ⟨z, hz, ez⟩ := List.mem_map.mp hm
      have h1 := hnew.2.2
      obtain ⟨⟨o, g1, _⟩, _⟩ := w2.l z (sub z hz)
      have e2 : absorb M (L1.eraseIdx n) H2 z.p = H2 z.p := absorb_in hz
      have h1 : absorb M (L1.eraseIdx n) H2 p = none := h1
      rw [ez] at e2
      rw [e2] at h1
      rw [← ez, g1] at h1
      cases h1
    have w4 := w2.back (L1' := [⟨p, cLst r, xs⟩, x']) sub (nd.sublist ((List.eraseIdx_sublist L1 n).map _)) e3 w3 (fun y h => by
      rcases List.mem_cons.mp h with rfl | h
      · exact hpn
      · rw [List.mem_singleton.mp h, hp]; exact hn)
    refine q p B' H' (e2.trans e3) (w4.perm (fun y hy => ?_) ?_)
    · rcases List.mem_cons.mp hy with rfl | hy
      · exact List.mem_cons_self
      · exact List.mem_cons_of_mem _ (set_perm hx y hy)
    · rw [List.map_cons, List.nodup_cons, set_keys hx hp]
      refine ⟨fun hm => ?_, nd⟩
      obtain ⟨z, hz, ez⟩ := List.mem_map.mp hm
      have ez : z.p = p := ez
      by_cases g : z.p = x.p
      · have := w4.nd
        rw [List.map_append, List.map_cons, List.map_cons, List.cons_append, List.nodup_cons] at this
        exact this.1 (by rw [List.map_nil, List.cons_append]; exact List.mem_cons.mpr (.inl (by show p = x'.p; rw [← ez, g, hp])))
      · obtain ⟨m, hm2⟩ := List.getElem?_of_mem hz
        exact hpn (List.mem_map.mpr ⟨z, List.mem_eraseIdx_iff_getElem?.mpr ⟨m, fun e => g (by rw [e, hx] at hm2; cases hm2; rfl), hm2⟩, ez⟩)
theorem ev_neB {x y : Bool} (ha : EV K M ta σ B L rBool x L1) (hb : EV K M tb σ B L1 rBool y L2) : EV K M (tOp rNe ta tb) σ B L rBool (!decide (x = y)) L2 :=
  ev_op ha hb fun _ _ _ _ _ _ hx hy q => by
    have hx : _ = V.bl x := hx
    have hy : _ = V.bl y := hy
    subst hx hy
    exact ⟨rfl, q _ (by show V.bl _ = V.bl _; congr 1; simp)⟩
theorem ev_p3_0 {a : α × β × γ} (ha : EV K M ta σ B L (rT3 r s t) a L1) : EV K M (tOp (rIx K) ta (tC (.int 0))) σ B L r a.1 L1 := fun B1 H e w Q q =>
  ha B1 H e w _ fun x B2 H2 e2 w2 hx => by
    obtain ⟨p, x0, x1, x2, rfl, hs, h0, h1, h2⟩ := hx
    exact .inr (.inl ⟨p, _, 0, x0, rfl, rfl, ex_t w2.b hs, rfl, q _ B2 H2 e2 w2 h0⟩)
theorem ev_p3_1 {a : α × β × γ} (ha : EV K M ta σ B L (rT3 r s t) a L1) : EV K M (tOp (rIx K) ta (tC (.int 1))) σ B L s a.2.1 L1 := fun B1 H e w Q q =>
  ha B1 H e w _ fun x B2 H2 e2 w2 hx => by
    obtain ⟨p, x0, x1, x2, rfl, hs, h0, h1, h2⟩ := hx
    exact .inr (.inl ⟨p, _, 1, x1, rfl, rfl, ex_t w2.b hs, rfl, q _ B2 H2 e2 w2 h1⟩)
theorem ev_p3_2 {a : α × β × γ} (ha : EV K M ta σ B L (rT3 r s t) a L1) : EV K M (tOp (rIx K) ta (tC (.int 2))) σ B L t a.2.2 L1 := fun B1 H e w Q q =>
  ha B1 H e w _ fun x B2 H2 e2 w2 hx => by
    obtain ⟨p, x0, x1, x2, rfl, hs, h0, h1, h2⟩ := hx
    exact .inr (.inl ⟨p, _, 2, x2, rfl, rfl, ex_t w2.b hs, rfl, q _ B2 H2 e2 w2 h2⟩)
theorem q_rev {n m : Nat} {p : Addr} {as : List α} (w : Own K B M L H) (hs : σ[m]? = some (some (.ref p))) (hc : L[n]? = some ⟨p, cLst r, as⟩)
    (q : ∀ B' H', Ex B B' → Own K B' M (L.set n ⟨p, cLst r, as.reverse⟩) H' → tz D σ H') : tSeq (tDrop (tBM0 K "list" rReverse (tVar m))) tz D σ H := by
  obtain ⟨⟨o, h1, xs, h2, h3⟩, _⟩ := w.at hc
  have h1 : H p = some o := h1
  exact ⟨_, hs, .inl ⟨rfl, _, sq_of (by rw [h1, h2])⟩, p, xs, rfl, rfl, by rw [h1, h2], q B _ (Ex.refl _) (w.set hc ⟨_, rfl, paired_rev h3⟩)⟩
theorem af_cellS {n : Nat} {p : Addr} {r : Rep α} {xs : List α} {as as' : List Arg} (hc : L[n]? = some ⟨p, cLst r, xs⟩) (h : AF K M L as as') : AF K M L (⟨rRef, p⟩ :: as) (⟨rSeq r, xs⟩ :: as') := fun B H vs w g => by
  match vs, af_cell hc h B H vs w g with
  | _ :: _, ⟨g1, g2⟩ => exact ⟨rLst_seq g1, g2⟩
end
end L3

namespace L3
open PySem L2
open Evl (Ex ex_rd ex_l ex_t sq_of st_of fresh_back)
/-! ### a list of ours that may not be there yet -/
def optC {α : Type} (p : Addr) (r : Rep α) : Option (List α) → List Cell
  | none => []
  | some xs => [⟨p, cLst r, xs⟩]
def oV {α : Type} (p : Addr) : Option (List α) → V
  | none => .non
  | some _ => .ref p
section
variable {K : Fg} {M : Fr} {σ : St} {B B' H H' : Hp} {L L1 L2 L' : List Cell} {α β γ δ : Type} {r : Rep α} {s : Rep β} {t : Rep γ} {ta tb tc te : TE} {tt tu : TT} {tA : TA} {i j k : Int} {b c : Bool} {D : Ends} {tz t1 t2 : TS}
theorem Own.rot {x : Cell} (w : Own K B M (L ++ [x]) H) : Own K B M (x :: L) H := by
  refine w.perm (fun y hy => ?_) ?_
  · rcases List.mem_cons.mp hy with rfl | hy
    · exact List.mem_append_right _ (List.mem_singleton.mpr rfl)
    · exact List.mem_append_left _ hy
  · have := w.nd
    rw [List.map_append, List.map_singleton] at this
    rw [List.map_cons]
    exact (List.perm_append_singleton x.p (L.map (·.p))).nodup_iff.mp this
theorem Own.unrot {x : Cell} (w : Own K B M (x :: L) H) : Own K B M (L ++ [x]) H := by
  refine w.perm (fun y hy => ?_) ?_
  · rcases List.mem_append.mp hy with hy | hy
    · exact List.mem_cons_of_mem _ hy
    · rw [List.mem_singleton.mp hy]; exact List.mem_cons_self
  · have := w.nd
    rw [List.map_cons] at this
    rw [List.map_append, List.map_singleton]
    exact (List.perm_append_singleton x.p (L.map (·.p))).nodup_iff.mpr this
theorem et_isNO {n : Nat} {p : Addr} {o : Option (List α)} (hs : σ[n]? = some (some (oV p o))) : ET K M (tB (tIsN (tVar n))) σ B L o.isNone L := et_B fun B1 H e w Q q => by
  refine ⟨_, hs, q _ B1 H (Ex.refl _) w ?_⟩
  show V.bl _ = V.bl _
  cases o <;> rfl
theorem isNO_some {o : Option (List α)} (h : o.isNone = false) : ∃ y, o = some y := by
  cases o with
  | none => cases h
  | some y => exact ⟨y, rfl⟩
theorem isNO_none {o : Option (List α)} (h : o.isNone = true) : o = none := by
  cases o with
  | none => rfl
  | some y => cases h
theorem nts_app (h : NTs L) (h' : NTs L') : NTs (L ++ L') := fun y hy => (List.mem_append.mp hy).elim (h y) (h' y)
theorem nts_opt {p : Addr} {o : Option (List α)} : NTs (optC p r o) := by
  cases o with
  | none => exact nts_nil
  | some xs => exact nts_cons nt_lst nts_nil
theorem ev_lenT3 {a : α × β × γ} (ha : EV K M ta σ B L (rT3 r s t) a L1) : EV K M (tCB (rLen K) (tCons ta tNil)) σ B L rInt 3 L1 :=
  ev_cb1 ha fun B1 H1 x Q w hx q => by
    obtain ⟨p, u, v, z, rfl, hs, h1, h2, h3⟩ := hx
    exact ⟨p, _, rfl, .inr (ex_t w.b hs), q _ rfl⟩
theorem q_foldG {S Γ : Type} {wi : TI} {g : TG} {tb : TS} {xs : List α} (w : Own K B M L H) (hi : EI K M wi σ B L r xs L1) (f : S → α → Option S) (P : S → Γ → Hp → St → Prop) (Lf : S → Γ → List Cell) (s0 : S) (γ0 : Γ) {s1 : S} (hm : foldO f s0 xs = some s1)
    (h0 : ∀ B', Ex B B' → P s0 γ0 B' σ) (hL : Lf s0 γ0 = L1)
    (hs : ∀ s γ x s' v B0 B' H' σ', f s x = some s' → Ex B B0 → P s γ B0 σ' → Ex B0 B' → Own K B' M (Lf s γ) H' → r.is K B' v x → ∀ (N : St → Hp → Prop) (BK : St → Hp → Prop),
      (∀ γ3 B3 H3 σ3, Ex B' B3 → Own K B3 M (Lf s' γ3) H3 → P s' γ3 B3 σ3 → N σ3 H3) →
      g v σ' H' fun σ2 H2 => tb { D with nx := N, ct := N, bk := BK } σ2 H2)
    (hd : ∀ γ B' H' σ', Ex B B' → Own K B' M (Lf s1 γ) H' → P s1 γ B' σ' → tz D σ' H') : tSeq (tFor wi g tb) tz D σ H :=
  hi B H (Ex.refl _) w _ fun J B1 H1 e1 w1 k => by
    refine ⟨fun i m σ' H' => m = xs.length - i ∧ i ≤ xs.length ∧ ∃ s γ B', Ex B1 B' ∧ Own K B' M (Lf s γ) H' ∧ P s γ B' σ' ∧ foldO f s (xs.drop i) = some s1, ⟨xs.length, by simp, Nat.zero_le _, s0, γ0, B1, Ex.refl _, by rw [hL]; exact w1, h0 B1 e1, hm⟩, ?_⟩
    rintro i m σ' H' ⟨rfl, hle, s, γ, B', e', w', hP, hl⟩
    by_cases hlt : i < xs.length
    · right
      obtain ⟨a, ha⟩ : ∃ a, xs[i]? = some a := ⟨xs[i], List.getElem?_eq_getElem hlt⟩
      obtain ⟨hgo, hy⟩ := k.go i a B' _ H' e' w' ha
      obtain ⟨_, ha2⟩ := List.getElem?_eq_some_iff.mp ha
      rw [List.drop_eq_getElem_cons hlt, ha2] at hl
      unfold foldO at hl
      cases hst : f s a with
      | none => rw [hst] at hl; cases hl
      | some s' =>
        rw [hst] at hl
        refine ⟨hgo, fun σ3 H3 => ∃ γ3 B3, Ex B1 B3 ∧ Own K B3 M (Lf s' γ3) H3 ∧ P s' γ3 B3 σ3, fun σ3 H3 ⟨γ3, B3, a1, a2, a3⟩ => ?_, fun x H2 hy2 => ?_⟩
        · exact ⟨_, (by omega : xs.length - (i + 1) < xs.length - i), rfl, hlt, s', γ3, B3, a1, a2, a3, hl⟩
        · obtain ⟨B2, e2, w2, hr⟩ := hy x H2 hy2
          exact hs s γ a s' x B' B2 H2 σ' hst (e1.trans e') hP e2 w2 hr _ _ fun γ3 B3 H3 σ3 e4 w3 p3 => ⟨γ3, B3, (e'.trans e2).trans e4, w3, p3⟩
    · left
      have : i = xs.length := by omega
      subst this
      rw [List.drop_length] at hl
      have ho : s = s1 := Option.some.inj hl
      subst ho
      exact ⟨k.stop B' _ H' e' w', hd γ B' H' σ' (e1.trans e') w' hP⟩
end
end L3

namespace L3G
open PySem PySem.Spec PyProof.Rows L2
variable {X : Cx}
/-! ### enumerate of what is a list or a tuple -/
def iEnumS (K : PySem.W.Frag) (ta : TA) : TI := fun σ H R => ta σ H fun vs H1 => ∃ a xs, vs = [.ref a] ∧ ((SqL K H1 a xs ∧ R (Ite K a) H1) ∨ (SqT K H1 a xs ∧ R (IteT K a) H1))
theorem pi_enumS {X : Cx} {e : Expr} {ta : TA} {p pos tpos : Pos} {elts : List Expr} {kk : Nat} (hg : Gl X "enumerate") (hm : X.mg "enumerate" = none) (ha : PA X [e] ta) (hs : starEach [e] X.env = [(false, eval e X.env)] := by rfl) :
    PI X (.Tuple elts kk tpos) (.Call (.Name "enumerate" p) [e] [] pos) (iEnumS X.K ta) := by
  refine ⟨fun pins s σ H R I h => ?_⟩
  refine Call_ (ld_blt I hg hm boot_enumerate (PyProof.Rows.callWith_type1 (thn (ha.run pos pins s σ H _ I h) fun us s1 ⟨vs, H1, I1, r1, q1⟩ => ?_) hs rfl))
  obtain ⟨a, xs, ex, q1⟩ := q1
  subst ex
  cases r1 with
  | cons r rr =>
    cases rr
    cases r
    have hfp : ∀ b ∈ [s1.heap.objs.size + 1, s1.heap.objs.size], s1.heap.objs.size ≤ b := fun b hb => by
      have e' : b = s1.heap.objs.size + 1 ∨ b = s1.heap.objs.size := by simpa using hb
      rcases e' with z | z
      · rw [z]; exact Nat.le_add_right _ _
      · rw [z]; exact Nat.le_refl _
    rcases q1 with ⟨hq, q⟩ | ⟨hq, q⟩
    · obtain ⟨its, rv, p', hz⟩ := I1.list hq
      refine call_enumerate_list p'.isList fun h' he hit hsz hk => wpAny_pyIter_enum he ?_
      have I2 : Inv X pins σ H1 { s1 with heap := h' } := I1.kept (t' := s1.toks) hk
      exact ⟨s1.heap.objs.size + 1, [s1.heap.objs.size + 1, s1.heap.objs.size], _, _, H1, rfl, I2, turn_enum a (s1.heap.objs.size + 1) s1.heap.objs.size, ⟨⟨.none, he⟩, hit, Nat.succ_ne_self _⟩, fun b hb => I1.fpOk (hfp b hb) (I1.hok.fresh (hfp b hb)), q⟩
    · obtain ⟨its, rv, p', hz⟩ := I1.tuple hq
      refine call_enumT (show s1.heap.IsTuple a its.toArray from p') fun h' he hit hsz hk => wpAny_pyIter_enum he ?_
      have I2 : Inv X pins σ H1 { s1 with heap := h' } := I1.kept (t' := s1.toks) hk
      exact ⟨s1.heap.objs.size + 1, [s1.heap.objs.size + 1, s1.heap.objs.size], _, _, H1, rfl, I2, turn_enumT a (s1.heap.objs.size + 1) s1.heap.objs.size, ⟨⟨.none, he⟩, hit, Nat.succ_ne_self _⟩, fun b hb => I1.fpOk (hfp b hb) (I1.hok.fresh (hfp b hb)), q⟩
/-! ### a test that is one of two values -/
theorem pt_ifV {c a b : Expr} {tA : TT} {ta tb : TE} {pos : Pos} (hc : PT X c tA) (ha : PE X a ta) (hb : PE X b tb)
    (ea : ∀ whole, isTrue a X.env whole = (do let v ← whole; standAt a.pos; holding [v] (truthy v)) := by intro _; rfl)
    (eb : ∀ whole, isTrue b X.env whole = (do let v ← whole; standAt b.pos; holding [v] (truthy v)) := by intro _; rfl)
    (ei : ∀ whole, isTrue (.IfExp c a b pos) X.env whole = (do if ← isTrue c X.env (eval c X.env) then isTrue a X.env (eval a X.env) else isTrue b X.env (eval b X.env)) := by intro _; rfl) : PT X (.IfExp c a b pos) (tB (tIf tA ta tb)) := by
  refine ⟨fun pins s σ H Q I h => ?_⟩
  rw [ei]
  refine wpAny_bind (thn (hc.run pins s σ H _ I h) fun d s1 ⟨H1, I1, q1⟩ => ?_)
  cases d with
  | true => exact (pt_val ha ea).run pins s1 σ H1 Q I1 q1
  | false => exact (pt_val hb eb).run pins s1 σ H1 Q I1 q1
end L3G
namespace L3
open PySem L2
open Evl (Ex ex_rd ex_l ex_t sq_of st_of fresh_back)
section
variable {K : Fg} {M : Fr} {σ : St} {B B' H H' : Hp} {L L1 L2 L' : List Cell} {α β γ δ : Type} {r : Rep α} {s : Rep β} {t : Rep γ} {te : TE}
theorem ei_enumS {xs : List α} (h : EV K M te σ B L (rSeq r) xs L') : EI K M (L3G.iEnumS K (tCons te tNil)) σ B L (rT2 rInt r) (enumI 0 xs) L' := fun B1 H e w R q => h B1 H e w _ fun v B2 H2 e2 w2 hv => by
  obtain ⟨p, vs, rfl, hs, hp⟩ := hv
  rcases hs with hs | hs
  · refine ⟨p, vs, rfl, .inl ⟨ex_l w2.b hs, q _ B2 H2 e2 w2 ⟨fun i a B' L' H' e' w' hi => ?_, fun B' L' H' e' w' => ⟨vs, ex_l (e'.trans w'.b) hs, by rw [enumI_len, paired_len hp]; exact Nat.le_refl _⟩⟩⟩⟩
    obtain ⟨h1, h2⟩ := enumI_get hi
    obtain ⟨x, hx, hr⟩ := paired_get hp h2
    refine ⟨⟨vs, x, ex_l (e'.trans w'.b) hs, hx⟩, fun y H3 hy => ?_⟩
    obtain ⟨T, z, rfl, hT, rfl, hy⟩ := hy
    have := hy vs (ex_l (e'.trans w'.b) hs)
    rw [hx] at this
    cases this
    have eN := Ex.new (o := HO.tup [.int (i : Nat), x]) (fresh_back w'.b hT)
    exact ⟨upd B' T _, eN, w'.ext hT, ⟨T, _, _, rfl, st_of upd_same, by rw [h1]; show V.int _ = V.int _; congr 1; simp, r.mono (e'.trans eN) hr⟩⟩
  · refine ⟨p, vs, rfl, .inr ⟨ex_t w2.b hs, q _ B2 H2 e2 w2 ⟨fun i a B' L' H' e' w' hi => ?_, fun B' L' H' e' w' => ⟨vs, ex_t (e'.trans w'.b) hs, by rw [enumI_len, paired_len hp]; exact Nat.le_refl _⟩⟩⟩⟩
    obtain ⟨h1, h2⟩ := enumI_get hi
    obtain ⟨x, hx, hr⟩ := paired_get hp h2
    refine ⟨⟨vs, x, ex_t (e'.trans w'.b) hs, hx⟩, fun y H3 hy => ?_⟩
    obtain ⟨T, z, rfl, hT, rfl, hy⟩ := hy
    have := hy vs (ex_t (e'.trans w'.b) hs)
    rw [hx] at this
    cases this
    have eN := Ex.new (o := HO.tup [.int (i : Nat), x]) (fresh_back w'.b hT)
    exact ⟨upd B' T _, eN, w'.ext hT, ⟨T, _, _, rfl, st_of upd_same, by rw [h1]; show V.int _ = V.int _; congr 1; simp, r.mono (e'.trans eN) hr⟩⟩
end
end L3

namespace L3G
open PySem PySem.Spec PyProof.Rows L2 LamX NdefX
/-! ### a lambda with parameters, handed to a def that calls it -/
/-- its words, the cells it captured, its code -/
structure LF where
  qual : Str
  params : Arguments
  body : Expr
  scope : Scope
  cl : List (Str × Addr)
  c : Addr
abbrev LF.fd (F : LF) (pm ctv : Value) : FuncData := PySem.W.kla_fn "<lambda>" F.qual F.params F.body F.scope F.cl pm (.ref F.c) ctv
/-- as a def's words, for its frame -/
abbrev LF.nf (F : LF) : NF := ⟨"<lambda>", F.qual, F.params, [], F.scope, F.cl, F.c⟩
/-- the lambda's object is at f -/
def LamO (f : Addr) (F : LF) : HO := .ext fun h => ∃ (od : Option Addr) (sl : Array (Option Value)) (pm ctv : Value), h.get? f = some (⟨.type "function", od, .func (F.fd pm ctv), sl⟩ : Obj)
/-- the object ob is at c -/
def CelO (c : Addr) (ob : Obj) : HO := .ext fun h => h.get? c = some ob
def delX (H : Hp) (c : Addr) : Hp := fun a => if a = c then none else H a
theorem delX_same {H : Hp} {c : Addr} : delX H c c = none := if_pos rfl
theorem delX_ne {H : Hp} {c b : Addr} (h : b ≠ c) : delX H c b = H b := if_neg h
theorem del_upd {H : Hp} {c : Addr} {o : HO} (h : H c = none) : delX (upd H c o) c = H := by
  funext b
  by_cases e : b = c
  · rw [e, delX_same, h]
  · rw [delX_ne e, upd_ne e]
theorem celO_ne {c : Addr} {ob : Obj} : (∀ x, CelO c ob ≠ .own x) ∧ (∀ xs, CelO c ob ≠ .tup xs) ∧ (∀ o u, CelO c ob ≠ .frz o u) ∧ ∀ ps, CelO c ob ≠ .tbl ps :=
  ⟨(fun x e => by unfold CelO at e; cases e), (fun x e => by unfold CelO at e; cases e), (fun x y e => by unfold CelO at e; cases e), (fun x e => by unfold CelO at e; cases e)⟩
section
variable {P : Program} {w : World} {K : PySem.W.Frag} {mg : Str → Option Value} {base : Heap} {A : Around} {outer : List Env} {s s' : Shared} {H H' : Hp} {c : Addr} {ob : Obj} {h h' : Heap} {fs : List Addr}
/-- forgotten -/
theorem hok_del (k : HOk P w H h) (e : H c = some (CelO c ob)) : HOk P w (delX H c) h := fun a o q => by
  have ne : a ≠ c := fun z => by rw [z, delX_same] at q; cases q
  rw [delX_ne ne] at q
  refine (k a o q).stay (fun _ _ _ z => z) (fun b z => ?_) fun b xs z => ?_
  · rw [delX_ne (show b ≠ c from fun y => by rw [y, e] at z; exact celO_ne.1 a (Option.some.inj z))]; exact z
  · rw [delX_ne (show b ≠ c from fun y => by rw [y, e] at z; exact celO_ne.2.1 xs (Option.some.inj z))]; exact z
/-- known again -/
theorem hok_cel (k : HOk P w H h) (n : H c = none) (e : h.get? c = some ob) : HOk P w (upd H c (CelO c ob)) h := fun a o q => by
  by_cases z : a = c
  · subst z
    rw [upd_same] at q
    cases q
    exact ⟨e, ⟨ob, e⟩, fun h1 h2 x st => st _ x⟩
  · rw [upd_ne z] at q
    refine (k a o q).stay (fun _ _ _ y => y) (fun b y => ?_) fun b xs y => ?_
    · rw [upd_ne (show b ≠ c from fun u => by rw [u, n] at y; cases y)]; exact y
    · rw [upd_ne (show b ≠ c from fun u => by rw [u, n] at y; cases y)]; exact y
theorem cel_at (k : HOk P w H h) (e : H c = some (CelO c ob)) : h.get? c = some ob := (k c _ e).1
theorem env0_del (e0 : Env0 P w K mg base A outer s H) (e : H c = some (CelO c ob)) : Env0 P w K mg base A outer s (delX H c) := by
  have sub : ∀ b, H b = none → delX H c b = none := fun b n => by
    by_cases z : b = c
    · rw [z]; exact delX_same
    · rw [delX_ne z]; exact n
  exact ⟨e0.frames, e0.mod, fun b o q => ⟨(e0.bs b o q).1, sub b (e0.bs b o q).2⟩, e0.bsz, e0.funs, fun b q => sub b (e0.frf b q), hok_del e0.hok e, e0.bare⟩
theorem env0_cel (e0 : Env0 P w K mg base A outer s H) (n : H c = none) (e : s.heap.get? c = some ob) (nb : base.get? c = none) (nf : c ∉ frs outer) : Env0 P w K mg base A outer s (upd H c (CelO c ob)) := by
  exact ⟨e0.frames, e0.mod, fun b o q => ⟨(e0.bs b o q).1, by rw [upd_ne (show b ≠ c from fun z => by rw [z, nb] at q; cases q)]; exact (e0.bs b o q).2⟩, e0.bsz, e0.funs, fun b q => by rw [upd_ne (show b ≠ c from fun z => nf (by rw [← z]; exact q))]; exact e0.frf b q, hok_cel e0.hok n e, e0.bare⟩
/-- a call made without c, seen by those who know it -/
theorem un_del (e : H c = some (CelO c ob)) (ho : h.get? c = some ob) (nf : c ∉ fs) (u : Un fs [] (delX H c) H' h h') : h'.get? c = some ob ∧ H' c = none ∧ Un fs [] H (upd H' c (CelO c ob)) h h' := by
  have k1 := u.keep c ob ho delX_same nf (by simp)
  have k2 := u.free c ob ho delX_same (by simp)
  have ne : ∀ {b}, H b = none → b ≠ c := fun {b} n z => by rw [z, e] at n; cases n
  refine ⟨k1, k2, fun b o q n hf hx => u.keep b o q (by rw [delX_ne (ne n)]; exact n) hf hx, fun b o q n hf hx => u.slot b o q (by rw [delX_ne (ne n)]; exact n) hf hx, fun b o q n hx => by rw [upd_ne (ne n)]; exact u.free b o q (by rw [delX_ne (ne n)]; exact n) hx, u.there, fun b xs q => ?_, fun b o v q => ?_, fun b ps q => ?_⟩
  · have z : b ≠ c := fun y => by rw [y, e] at q; exact celO_ne.2.1 xs (Option.some.inj q)
    rw [upd_ne z]; exact u.tups b xs (by rw [delX_ne z]; exact q)
  · have z : b ≠ c := fun y => by rw [y, e] at q; exact celO_ne.2.2.1 o v (Option.some.inj q)
    rw [upd_ne z]; exact u.frzs b o v (by rw [delX_ne z]; exact q)
  · have z : b ≠ c := fun y => by rw [y, e] at q; exact celO_ne.2.2.2 ps (Option.some.inj q)
    rw [upd_ne z]; exact u.tbls b ps (by rw [delX_ne z]; exact q)
/-- a call made with c known, seen by those who do not -/
theorem un_cel (n : H c = none) (ho : h.get? c = some ob) (ho' : h'.get? c = some ob) (u : Un fs [] (upd H c (CelO c ob)) H' h h') : Un fs [] H (delX H' c) h h' := by
  have nn : ∀ {b}, H b = none → b ≠ c → upd H c (CelO c ob) b = none := fun {b} q z => by rw [upd_ne z]; exact q
  have nc : ∀ {b o}, H b = some o → b ≠ c := fun {b o} q z => by rw [z, n] at q; cases q
  refine ⟨fun b o q m hf hx => ?_, fun b o q m hf hx => ?_, fun b o q m hx => ?_, u.there, fun b xs q => ?_, fun b o v q => ?_, fun b ps q => ?_⟩
  · by_cases z : b = c
    · subst z; rw [ho] at q; cases q; exact ho'
    · exact u.keep b o q (nn m z) hf hx
  · by_cases z : b = c
    · subst z; rw [ho] at q; cases q; exact ⟨ob.slots, ho'⟩
    · exact u.slot b o q (nn m z) hf hx
  · by_cases z : b = c
    · rw [z]; exact delX_same
    · rw [delX_ne z]; exact u.free b o q (nn m z) hx
  · rw [delX_ne (nc q)]; exact u.tups b xs (by rw [upd_ne (nc q)]; exact q)
  · rw [delX_ne (nc q)]; exact u.frzs b o v (by rw [upd_ne (nc q)]; exact q)
  · obtain ⟨more, z⟩ := u.tbls b ps (by rw [upd_ne (nc q)]; exact q)
    exact ⟨more, by rw [delX_ne (nc q)]; exact z⟩
end
/-! ### the call -/
section
variable {P : Program} {w : World} {K : PySem.W.Frag} {mg : Str → Option Value} {base : Heap} {A : Around} {outer : List Env} {s : Shared} {H : Hp} {N ps fr : List Str} {F : LF} {f c : Addr} {ob : Obj} {k j i : Nat} {us : List Value} {vs : List V} {ws : List (Option V)} {Q : VK} {tb : TE} {sp : Sp}
theorem lam_run (S : NScope N ps fr F.scope) (hb : ∀ (pm ctv : Value) (us : List Value), us.length = ps.length → bindArgs (F.fd pm ctv) ⟨us, []⟩ = pure (ps.zip us)) (hr : Room (k + 1) A) (e0 : Env0 P w K mg base A outer s H)
    (hf : ∃ (od : Option Addr) (sl : Array (Option Value)) (pm ctv : Value), s.heap.get? f = some (⟨.type "function", od, .func (F.fd pm ctv), sl⟩ : Obj)) (hc : s.heap.CodeRec (.ref F.c) F.qual) (C : CellsAt F.cl fr ws s.heap H) (r : Vals vs us) (hl : vs.length = ps.length)
    (hbody : Room k (A.deeper (envF F.nf f s.heap.objs.size)) → PE (ncx CX0 P w K mg base N F.nf f A outer s H E0) F.body tb) (ht : tb (startF N vs ws) H Q) :
    codeAny (model P w) A (.call (.ref f) ⟨us, []⟩) (CR CX0 outer P w H s Q E0) s := by
  have noLim : s.heap.NoLimit := e0.mod.nolimit.keeps fun b ob q => (e0.bs b ob q).1
  obtain ⟨od, sl, pm, ctv, ho⟩ := hf
  refine PySem.W.kla_callFunE hr.depth ho rfl S.co S.gen rfl hc ?_
  rw [hb pm ctv us (by rw [← r.length, hl])]
  refine wpAny_pure (wpAny_newFunctionEnv S.nocell (fun ⟨y, _⟩ hy => S.par y (List.of_mem_zip hy).1) (fun g hns hsb => ⟨noLim.fresh _ hsb, ?_⟩) S.kind)
  have kept : ∀ b q, s.heap.get? b = some q → g.get? b = some q := fun b q e => hsb.extBut b q (Nat.ne_of_lt (Heap.lt_size e)) (Heap.get?_push_of_some _ e)
  have J : Inv (ncx CX0 P w K mg base N F.nf f A outer s H E0) [] (startF N vs ws) H { s with heap := g, toks := s.toks + (ps.zip us).length } := inv_startN S hr.hd e0 hl r C hns kept
  show codeAny _ _ (.expr F.body (envF F.nf f s.heap.objs.size)) _ _
  refine PySem.W.kla_codeExpr (wpAny_mono ((hbody (hr.deeper _)).run [] _ _ H Q J ht) (fun v s' hq => ?_) fun e s' hq => hq)
  obtain ⟨y, H', J', rv, q⟩ := hq
  exact ⟨y, H', J'.os, J'.bare, J'.base, J'.hok, rv, q⟩
/-- what a lambda that captured the one cell c promises -/
structure LOk (P : Program) (w : World) (K : PySem.W.Frag) (mg : Str → Option Value) (base : Heap) (k : Nat) (F : LF) (c : Addr) (ob : Obj) (sp : Sp) : Prop where
  ex : ∃ (N ps : List Str) (y : Str) (kv : V) (u : Value), NScope N ps [y] F.scope ∧ F.cl = [(y, c)] ∧ RelV kv u ∧ ob.data = .cell (some u) ∧ (∀ (pm ctv : Value) (us : List Value), us.length = ps.length → bindArgs (F.fd pm ctv) ⟨us, []⟩ = pure (ps.zip us)) ∧
    (∀ vs H Q E, sp vs H Q E → vs.length = ps.length) ∧ ∀ (f : Addr) (A : Around) (outer : List Env) (s : Shared) (H : Hp) (vs : List V) (Q : VK), Room k (A.deeper (envF F.nf f s.heap.objs.size)) → sp vs H Q E0 →
      ∃ tb, PE (ncx CX0 P w K mg base N F.nf f A outer s H E0) F.body tb ∧ tb (startF N vs [some kv]) H Q
/-- the i-th slot holds it: a call -/
def tLamL (i : Nat) (f : Addr) (F : LF) (c : Addr) (ob : Obj) (sp : Sp) (t : TA) : TE := fun σ H Q => σ[i]? = some (some (.ref f)) ∧ H f = some (LamO f F) ∧ t σ H fun vs H1 => H1 f = some (LamO f F) ∧ H1 F.c = some (CodeO F.c F.qual) ∧ H1 c = some (CelO c ob) ∧ sp vs (delX H1 c) (fun v H2 => H2 c = none → Q v (upd H2 c (CelO c ob))) E0
end
section
variable {X : Cx} {F : LF} {f c : Addr} {ob : Obj} {k j i : Nat} {sp : Sp} {x : Str} {p pos : Pos} {e : Expr} {es : List Expr} {t : TA}
theorem pe_lamL (o : LOk X.prog X.w X.K X.mg X.base k F c ob sp) (hr : Room j X.A) (hk : k + 1 ≤ j) (hN : X.N[i]? = some x) (hv : Vis X.env.scope x) (ha : PA X (e :: es) t)
    (hdb : (x == ("__debug__" : Str)) = false := by decide) (hcd : (x == ("__classdict__" : Str)) = false := by decide)
    (he : starEach (e :: es) X.env = (false, eval e X.env) :: starEach es X.env := by rfl) (hpl : (backTo pos (starEach es X.env)).any (·.1) = false := by rfl) : PE X (.Call (.Name x p) (e :: es) [] pos) (tLamL i f F c ob sp t) := by
  obtain ⟨N, ps, y, kv, u, S, hcl, hu, hob, hb, len, body⟩ := o.ex
  refine ⟨fun pins s σ H Q I h => ?_⟩
  obtain ⟨hs, hf0, ht⟩ := h
  refine wpAny_Call_Name_kw (thn ((pe_var (pos := p) hN hv hdb hcd).run pins s σ H (fun v H1 => v = .ref f ∧ H1 = H) I ⟨.ref f, hs, rfl, rfl⟩) fun z s1 ⟨v, H1, I1, r1, q1⟩ => ?_)
  obtain ⟨rfl, rfl⟩ := q1
  cases r1
  obtain ⟨od0, sl0, pm0, ctv0, ho0⟩ := (I1.hok f _ hf0).1
  refine PySem.W.callWith_F (first := []) ⟨_, od0, _, sl0, ho0⟩ (thn (ha.run pos pins s1 σ _ _ I1 ht) fun us s2 ⟨vs, H2, I2, r, h1, h2, h3, q⟩ => ?_) he hpl
  have nf : c ∉ frs X.stack := fun z => by
    have := I2.env0.frf c z
    rw [h3] at this
    cases this
  obtain ⟨od, sl, pm, ctv, ho⟩ := (I2.hok f _ h1).1
  have hce := cel_at I2.hok h3
  obtain ⟨⟨oc, vv, tt, c1, c2, c3⟩, _, _⟩ := I2.hok F.c _ h2
  have lk : ∀ a b, F.cl.lookup a = some b → a = y ∧ b = c := fun a b z => by
    rw [hcl] at z
    unfold List.lookup at z
    split at z
    · rename_i g
      exact ⟨by simpa using g, (Option.some.inj z).symm⟩
    · cases z
  have cat : CellsAt F.cl [y] [some kv] s2.heap (delX H2 c) := by
    refine ⟨rfl, fun a b z => ?_, fun a b d z1 z2 => (lk a d z1).1.trans (lk b d z2).1.symm, fun m a z => ?_⟩
    · rw [(lk a b z).2]
      exact ⟨delX_same, some u, ob, hce, hob⟩
    · cases m with
      | succ m => simp at z
      | zero =>
        have z : y = a := by simpa using z
        subst z
        refine ⟨c, by rw [hcl]; simp [List.lookup], fun v hv => ?_⟩
        have hv : kv = v := by simpa using hv
        subst hv
        exact ⟨u, hu, ob, hce, hob⟩
  refine ⟨⟨_, od, _, sl, ho⟩, wpAny_call (codeAny_mono (lam_run (k := k) S hb (hr.mono hk) (env0_del I2.env0 h3) ⟨od, sl, pm, ctv, ho⟩ ⟨F.c, oc, vv, tt, rfl, c1, c2, c3⟩ cat r (len _ _ _ _ q) (fun hr2 => (body f _ _ _ _ _ _ hr2 q).choose_spec.1) (body f _ _ _ _ _ _ ((hr.mono hk).deeper _) q).choose_spec.2) fun r s' hq => ?_)⟩
  cases r with
  | error e => exact False.elim hq
  | ok fl =>
    cases fl with
    | next => exact False.elim hq
    | brk => exact False.elim hq
    | cont => exact False.elim hq
    | ret u' =>
      obtain ⟨v', H', os, bare, un, hok, rv, qq⟩ := hq
      obtain ⟨g1, g2, g3⟩ := un_del h3 hce nf un
      exact I2.after ⟨v', _, os, bare, g3, hok_cel hok g2 g1, rv, qq g2⟩
end
/-! ### the making -/
/-- H1 is H with the lambda F at f, its code at F.c, the table at P grown -/
structure LamMade (H H1 : Hp) (P : Addr) (q : Str) (f : Addr) (F : LF) : Prop where
  tab : ∃ ps ps1 : Array Value, H P = some (.tbl ps) ∧ H1 P = some (.tbl ps1) ∧ TriplesOk ps1.toList ∧ (∀ (pos : Pos) (cv : Value), codeAmong pos ps1.toList = some cv → codeAmong pos ps.toList = some cv ∨ cv = .ref F.c) ∧ (H F.c = none ∨ ∃ pos, codeAmong pos ps.toList = some (.ref F.c))
  new : H f = none
  obj : H1 f = some (LamO f F)
  code : H1 F.c = some (CodeO F.c q)
  nP : f ≠ P ∧ F.c ≠ P ∧ f ≠ F.c
  else_ : ∀ b, b ≠ P → b ≠ f → b ≠ F.c → H1 b = H b
section
variable {X : Cx} {pins : List (Addr × Obj)} {σ : L2.St} {H : Hp} {s : Shared}
theorem inv_lam {F : LF} {t' : Nat} {pm ctv : Value} {o : Obj} (I : Inv X pins σ H s) (ho : o = { cls := .type "function", data := .func (F.fd pm ctv) }) :
    Inv X pins σ (upd H s.heap.objs.size (LamO s.heap.objs.size F)) { s with heap := s.heap.push o, toks := t' } := by
  subst ho
  have e : (s.heap.push ({ cls := .type "function", data := .func (F.fd pm ctv) } : Obj)).get? s.heap.objs.size = some ({ cls := .type "function", data := .func (F.fd pm ctv) } : Obj) := Heap.get?_push_size _ rfl
  exact I.laid (a := s.heap.objs.size) (fun b u z => Heap.get?_push_of_some _ z) (Nat.le_refl _) ⟨⟨_, _, pm, ctv, e⟩, ⟨_, e⟩, fun h1 h2 ⟨od, sl, p, t, z⟩ st => ⟨od, sl, p, t, st _ z⟩⟩
theorem lam_mk {c P : Addr} {params : Arguments} {body : Expr} {scope : Scope} {pos : Pos} {E : Value → Shared → Prop} {Q : Value → Shared → Prop} (I : Inv X pins σ H s) (TB : TabB X.base X.mg c P) (hcode : X.env.code = .ref c)
    (hT : TabS H P (X.env.qual ++ "<lambda>")) (hdef : defaultsOf params X.env = ([], [])) (hfree : ∀ y ∈ scope.names, y.2 = .free → ∃ c, X.env.cells.lookup y.1 = some c)
    (h : ∀ (f c' : Addr) (H1 : Hp) (s' : Shared), Inv X pins σ H1 s' → LamMade H H1 P (X.env.qual ++ "<lambda>") f ⟨X.env.qual ++ "<lambda>", params, body, scope, cloFrom X.env.cells scope.names [], c'⟩ → Q (.ref f) s') :
    wpAny (model X.prog X.w) X.A (eval (.Lambda params body scope pos) X.env) Q E s := by
  obtain ⟨tb, hP, ht, ha⟩ := hT
  have hb : s.heap.BuiltinsAt X.mg P := TB.bm.keeps I.bk
  have hP2 : s.heap.get? P = some { cls := .none, data := .fields tb } := I.hok P _ hP
  refine PySem.W.kla_eval hdef ?_
  cases hc : codeAmong pos tb.toList with
  | some cv =>
    obtain ⟨c', rfl, hco⟩ := ha pos cv hc
    refine PySem.W.kla_makeFunctionHit (mg := X.mg) (c := c) (P := P) (ps := tb) (closure_ok hfree) I.ok.glob (I.mod.glob.keeps I.bk) hcode (TB.code.keeps I.bk) hP2 ht hc hb fun ctv g tk k1 k2 => ?_
    have I1 : Inv X pins σ H { s with heap := g, toks := tk } := I.kept fun b o e => k1 b o e
    have I2 := inv_lam (F := ⟨X.env.qual ++ "<lambda>", params, body, scope, cloFrom X.env.cells scope.names [], c'⟩) (t' := tk) (pm := (X.mg "__name__").getD .none) (ctv := ctv) I1 rfl
    have nF : H g.objs.size = none := I.hok.fresh k2
    have n1 : c' ≠ g.objs.size := fun z => by rw [z, nF] at hco; cases hco
    have n2 : P ≠ g.objs.size := fun z => by rw [z, nF] at hP; cases hP
    refine h _ c' _ _ I2 ⟨⟨tb, tb, hP, (upd_ne n2).trans hP, ht, fun p v z => .inl z, .inr ⟨pos, hc⟩⟩, nF, upd_same, (upd_ne n1).trans hco, ⟨n2.symm, fun z => ?_, n1.symm⟩, fun b _ b2 _ => upd_ne b2⟩
    · have z : c' = P := z
      rw [z, hP] at hco
      exact codeO_ne tb (Option.some.inj hco).symm
  | none =>
    refine PySem.W.kla_makeFunction (mg := X.mg) (c := c) (P := P) (ps := tb) (closure_ok hfree) I.ok.glob (I.mod.glob.keeps I.bk) hcode (TB.code.keeps I.bk) hP2 ht hc TB.gP hb fun c' ctv g tk hx hge hlt hrec htb => ?_
    obtain ⟨c2, oc, vs, t, e2, k1, k2, k3⟩ := hrec
    cases e2
    have nC : H c' = none := I.hok.fresh hge
    have I1 := inv_table (t' := tk) (more := #[rawInt pos.line, rawInt pos.col, .ref c']) (h' := g) I hP (fun b o y z => hx b o y z) htb hge ⟨oc, vs, t, k1, k2, k3⟩
    have I2 := inv_lam (F := ⟨X.env.qual ++ "<lambda>", params, body, scope, cloFrom X.env.cells scope.names [], c'⟩) (t' := tk) (pm := (X.mg "__name__").getD .none) (ctv := ctv) I1 rfl
    have nPc : P ≠ c' := ne_of_none hP nC
    have nf : g.objs.size ≠ c' := Nat.ne_of_gt hlt
    have nfP : g.objs.size ≠ P := Nat.ne_of_gt (Nat.lt_of_lt_of_le (Heap.lt_size hP2) (Nat.le_trans hge (Nat.le_of_lt hlt)))
    have eL : (tb ++ #[rawInt pos.line, rawInt pos.col, Value.ref c']).toList = tb.toList ++ [rawInt pos.line, rawInt pos.col, .ref c'] := by simp
    refine h _ c' _ _ I2 ⟨⟨tb, _, hP, (upd_ne nfP.symm).trans ((upd_ne nPc).trans upd_same), by rw [eL]; exact PySem.TriplesOk_snoc _ _ _ _ ht, fun p v z => ?_, .inl nC⟩, I.hok.fresh (Nat.le_trans hge (Nat.le_of_lt hlt)), upd_same, (upd_ne nf.symm).trans upd_same, ⟨nfP, nPc.symm, nf⟩, fun b b1 b2 b3 => (upd_ne b2).trans ((upd_ne b3).trans (upd_ne b1))⟩
    rw [eL] at z
    exact among_app _ ht z
end
/-! ### x(.., lambda ..): the captured cell is known to the def that is called -/
def cyOf (X : Cx) (y : Str) : Addr := (X.env.cells.lookup y).getD 0
/-- the lambda as a value -/
def tLam (P : Addr) (q : Str) (params : Arguments) (body : Expr) (scope : Scope) (y : Str) (cy : Addr) : TE := fun σ H Q => TabS H P q ∧ ∀ f c' H1, LamMade H H1 P q f ⟨q, params, body, scope, [(y, cy)], c'⟩ → Q (.ref f) H1
/-- the call -/
def tCallK (j : Nat) (cy : Addr) (sp : Sp) (t : TA) : TE := fun σ H Q => t σ H fun vs H1 => ∃ kv, σ[j]? = some (some kv) ∧ ∀ (ob : Obj) (u : Value), RelV kv u → ob.data = .cell (some u) → H1 cy = none → sp vs (upd H1 cy (CelO cy ob)) (fun v H2 => H2 cy = some (CelO cy ob) ∧ Q v (delX H2 cy)) E0
section
variable {X : Cx} {params : Arguments} {body : Expr} {scope : Scope} {y x : Str} {c P f : Addr} {j k : Nat} {fd : FuncData} {ps : List Str} {sp : Sp} {p pos lpos : Pos} {e : Expr} {es : List Expr} {t : TA}
theorem pe_lam (TB : TabB X.base X.mg c P) (hcode : X.env.code = .ref c) (L : ∀ y ∈ scope.names, y.2 = .free → X.env.scope.names.lookup y.1 = some .cell ∨ X.env.scope.names.lookup y.1 = some .free) (hcl : ∀ cells, cloFrom cells scope.names [] = [(y, (cells.lookup y).getD 0)]) (hdef : defaultsOf params X.env = ([], []) := by rfl) :
    PE X (.Lambda params body scope lpos) (tLam P (X.env.qual ++ "<lambda>") params body scope y (cyOf X y)) := by
  refine ⟨fun pins s σ H Q I h => ?_⟩
  refine lam_mk I TB hcode h.1 hdef (fun z hz hf => (L z hz hf).elim (fun q => I.ok.has _ (.inl q)) fun q => I.ok.has _ (.inr q)) fun f c' H1 s' I' m => ?_
  rw [hcl] at m
  exact ⟨.ref f, H1, I', rfl, h.2 f c' H1 m⟩
theorem pe_callK (F : FnOk X.prog X.w X.K X.mg X.base CX0 k f fd ps sp) (hr : Room k X.A) (hg : Gl X x) (hm : X.mg x = some (.ref f)) (hk : PySem.W.keepIn X.K (.ref f) = true) (hb : Binds X.K fd ps []) (hy : X.N[j]? = some y) (hyc : X.env.scope.names.lookup y = some .cell) (hfn : X.fn y = true)
    (ha : PA X (e :: es) t) (hdb : (x == ("__debug__" : Str)) = false := by decide) (he : starEach (e :: es) X.env = (false, eval e X.env) :: starEach es X.env := by rfl) (hpl : (backTo pos (starEach es X.env)).any (·.1) = false := by rfl) :
    PE X (.Call (.Name x p) (e :: es) [] pos) (tCallK j (cyOf X y) sp t) := by
  refine ⟨fun pins s σ H Q I h => ?_⟩
  refine wpAny_Call_Name_kw (ld_glob I hg hm ?_ hdb)
  refine PySem.W.callWith_K (h₀ := X.base) I.ok.mod.kin hk (thn (ha.run pos pins s σ H _ I h) fun us s1 ⟨vs, H1, I1, r, kv, hs, q⟩ => ⟨I1.kIn, ?_⟩) he hpl
  obtain ⟨m, hn, hl⟩ := I1.loc
  obtain ⟨u, ru, lk⟩ := hl j y kv hy hs (.inr (.inl hyc))
  rcases lk with ⟨z, _⟩ | ⟨_, cc, hcc, ob, ho, hd⟩
  · have z : X.env.scope.names.lookup y = some .local := z
    rw [hyc] at z
    cases z
  have ecy : cyOf X y = cc := by
    unfold cyOf
    rw [hcc]
    rfl
  rw [ecy] at q
  have nH : H1 cc = none := I1.freeC y cc hcc
  have lo : X.s_0.heap.objs.size ≤ cc := I1.ok.cab y cc hfn hcc
  have nb : X.base.get? cc = none := by
    cases z : X.base.get? cc with
    | none => rfl
    | some o => exact absurd (Heap.lt_size z) (Nat.not_lt.mpr (Nat.le_trans I1.ok.bsz lo))
  have nf : cc ∉ frs X.stack := fun z => by
    rcases List.mem_cons.mp (I1.stkSub cc z) with g | g
    · obtain ⟨o, es', ep, h1, h2, _⟩ := hn
      rw [← g, ho] at h1
      cases h1
      rw [hd] at h2
      cases h2
    · obtain ⟨_, o, h1, _⟩ := I1.ok.funs.mem g
      exact absurd (Heap.lt_size h1) (Nat.not_lt.mpr lo)
  have q := q ob u ru hd nH
  refine wpAny_call (codeAny_mono (F.run X.A X.stack s1 _ ⟨us, []⟩ us vs _ E0 hr (env0_cel I1.env0 nH ho nb nf) ?_ r q) fun r' s' hq => ?_)
  · have := hb s1 us I1.kIn (by rw [List.append_nil, ← r.length]; exact F.len _ _ _ _ q)
    rw [List.append_nil] at this
    exact this
  · cases r' with
    | error e => exact False.elim hq
    | ok fl =>
      cases fl with
      | next => exact False.elim hq
      | brk => exact False.elim hq
      | cont => exact False.elim hq
      | ret u' =>
        obtain ⟨v', H', os, bare, un, hok, rv, hcel, qq⟩ := hq
        exact I1.after ⟨v', _, os, bare, un_cel nH ho (cel_at hok hcel) un, hok_del hok hcel, rv, qq⟩
end
end L3G

namespace L3
open PySem L2
open Evl (Ex ex_rd ex_l ex_t sq_of st_of fresh_back)
open L3G (LamO CelO delX LF LamMade LOk tLam tCallK tLamL delX_same delX_ne del_upd)
open LamX (CodeO TabS)
/-! ### a lambda handed to a def, over what is ours -/
/-- the table of the code of the def that makes it: every code object in it has the name q -/
def cTab (q : Str) : CRep Unit := ⟨fun _ B o _ => ∃ ps : Array Value, o = .tbl ps ∧ TriplesOk ps.toList ∧ ∀ (pos : Pos) (cv : Value), codeAmong pos ps.toList = some cv → ∃ c, cv = .ref c ∧ B c = some (CodeO c q), fun e ⟨ps, h1, h2, h3⟩ => ⟨ps, h1, h2, fun pos cv z => by
  obtain ⟨c, e1, e2⟩ := h3 pos cv z
  exact ⟨c, e1, e _ _ e2⟩⟩⟩
/-- the lambda as a value -/
def rLam (q : Str) (params : Arguments) (body : Expr) (scope : Scope) (y : Str) (cy : Addr) : Rep Unit := ⟨fun _ B v _ => ∃ f c', v = .ref f ∧ B f = some (LamO f ⟨q, params, body, scope, [(y, cy)], c'⟩) ∧ B c' = some (CodeO c' q), fun e ⟨f, c', h1, h2, h3⟩ => ⟨f, c', h1, e _ _ h2, e _ _ h3⟩⟩
section
variable {K : Fg} {M : Fr} {σ : St} {B B' B0 H H' H1 : Hp} {L L1 L2 L' : List Cell} {α β γ δ : Type} {r : Rep α} {s : Rep β} {ta tb tc te : TE} {tA : TA} {i j k : Int} {cy P f : Addr} {ob : Obj} {o : HO} {q : Str} {params : Arguments} {body : Expr} {scope : Scope} {y : Str}
/-- without the known cell -/
def Fr.delX (M : Fr) (c : Addr) : Fr := ⟨L3G.delX M.h c, M.T⟩
def Fr.put (M : Fr) (c : Addr) (o : HO) : Fr := ⟨upd M.h c o, M.T⟩
theorem Own.delX (w : Own K B M L H) (hm : M cy = some o) : Own K B (M.delX cy) L (L3G.delX H cy) := by
  have hB : B cy = none := (w.bm cy).elim id fun z => by rw [hm] at z; cases z
  have nT : ∀ Q ∈ M.T, Q ≠ cy := fun Q hQ z => by
    have := (w.t Q hQ).2.2.1
    rw [z, hm] at this
    cases this
  have nL : ∀ x ∈ L, x.p ≠ cy := fun x hx z => by
    have := (w.l x hx).2.2
    rw [z, hm] at this
    cases this
  refine ⟨fun b u e => ?_, fun b u e => ?_, fun b => ?_, fun x hx => ?_, w.nd, fun Q hQ => ?_⟩
  · rw [delX_ne (show b ≠ cy from fun z => by rw [z, hB] at e; cases e)]
    exact w.b b u e
  · have nb : b ≠ cy := fun z => by
      have e : L3G.delX M.h cy b = some u := e
      rw [z, delX_same] at e
      cases e
    have e : L3G.delX M.h cy b = some u := e
    rw [delX_ne nb] at e ⊢
    exact w.m b u e
  · rcases w.bm b with z | z
    · exact .inl z
    · right
      show L3G.delX M.h cy b = none
      by_cases g : b = cy
      · rw [g, delX_same]
      · rw [delX_ne g]; exact z
  · obtain ⟨⟨u, h1, h2⟩, h3, h4⟩ := w.l x hx
    exact ⟨⟨u, by rw [delX_ne (nL x hx)]; exact h1, h2⟩, h3, (delX_ne (nL x hx)).trans h4⟩
  · obtain ⟨⟨ps, h1, h2⟩, h3, h4, h5⟩ := w.t Q hQ
    exact ⟨⟨ps, (delX_ne (nT Q hQ)).trans h1, h2⟩, h3, (delX_ne (nT Q hQ)).trans h4, h5⟩
theorem Own.undel (w : Own K B (M.delX cy) L H) (n : H cy = none) (hm : M cy = some o) : Own K B M L (upd H cy o) := by
  have hB : B cy = none := fresh_back w.b n
  have ne : ∀ {b u}, H b = some u → b ≠ cy := fun {b u} e z => by rw [z, n] at e; cases e
  refine ⟨fun b u e => ?_, fun b u e => ?_, fun b => ?_, fun x hx => ?_, w.nd, fun Q hQ => ?_⟩
  · rw [upd_ne (ne (w.b b u e))]
    exact w.b b u e
  · by_cases z : b = cy
    · rw [z] at e ⊢
      rw [show (M.h cy) = some o from hm] at e
      rw [upd_same]; exact e
    · rw [upd_ne z]
      exact w.m b u ((delX_ne z).trans e)
  · by_cases z : b = cy
    · rw [z]; exact .inl hB
    · exact (w.bm b).imp id fun g => (delX_ne z).symm.trans g
  · obtain ⟨⟨u, h1, h2⟩, h3, h4⟩ := w.l x hx
    exact ⟨⟨u, by rw [upd_ne (ne h1)]; exact h1, h2⟩, h3, (delX_ne (ne h1)).symm.trans h4⟩
  · obtain ⟨⟨ps, h1, h2⟩, h3, h4, h5⟩ := w.t Q hQ
    exact ⟨⟨ps, (upd_ne (ne h1)).trans h1, h2⟩, h3, (delX_ne (ne h1)).symm.trans h4, h5⟩
theorem Own.addM (w : Own K B M L H) (n : H cy = none) : Own K B (M.put cy o) L (upd H cy o) := by
  have hB : B cy = none := fresh_back w.b n
  have ne : ∀ {b u}, H b = some u → b ≠ cy := fun {b u} e z => by rw [z, n] at e; cases e
  refine ⟨fun b u e => ?_, fun b u e => ?_, fun b => ?_, fun x hx => ?_, w.nd, fun Q hQ => ?_⟩
  · rw [upd_ne (ne (w.b b u e))]
    exact w.b b u e
  · have e : upd M.h cy o b = some u := e
    by_cases z : b = cy
    · rw [z, upd_same] at e ⊢; exact e
    · rw [upd_ne z] at e ⊢; exact w.m b u e
  · by_cases z : b = cy
    · rw [z]; exact .inl hB
    · exact (w.bm b).imp id fun g => (upd_ne z).trans g
  · obtain ⟨⟨u, h1, h2⟩, h3, h4⟩ := w.l x hx
    exact ⟨⟨u, by rw [upd_ne (ne h1)]; exact h1, h2⟩, h3, (upd_ne (ne h1)).trans h4⟩
  · obtain ⟨⟨ps, h1, h2⟩, h3, h4, h5⟩ := w.t Q hQ
    exact ⟨⟨ps, (upd_ne (ne h1)).trans h1, h2⟩, h3, (upd_ne (ne h1)).trans h4, h5⟩
theorem Fr.put_del (n : M cy = none) : (M.put cy o).delX cy = M := by
  unfold Fr.put Fr.delX
  rw [show L3G.delX (upd M.h cy o) cy = M.h from del_upd n]
/-- the lambda is made -/
theorem ev_lam {n : Nat} (hc : L[n]? = some ⟨P, cTab q, ()⟩) : EV K M (tLam P q params body scope y cy) σ B L (rLam q params body scope y cy) () L := fun B1 H e w Q k => by
  obtain ⟨⟨o', g1, ps, rfl, g2, g3⟩, bP, mP⟩ := w.at hc
  have g1 : H P = some (.tbl ps) := g1
  refine ⟨⟨ps, g1, g2, fun pos cv z => ?_⟩, fun f c' H1 m => ?_⟩
  · obtain ⟨c, e1, e2⟩ := g3 pos cv z
    exact ⟨c, e1, w.b _ _ e2⟩
  · obtain ⟨⟨ps', ps1, t1, t2, t3, t4, t5⟩, nf, of, oc, ⟨n1, n2, n3⟩, el⟩ := m
    rw [g1] at t1
    cases t1
    replace n2 : c' ≠ P := n2
    replace n3 : f ≠ c' := n3
    replace oc : H1 c' = some (CodeO c' q) := oc
    replace el : ∀ b, b ≠ P → b ≠ f → b ≠ c' → H1 b = H b := el
    replace t4 : ∀ (pos : Pos) (cv : Value), codeAmong pos ps1.toList = some cv → codeAmong pos ps.toList = some cv ∨ cv = .ref c' := t4
    have bc : B1 c' = some (CodeO c' q) ∨ H c' = none := by
      rcases t5 with z | ⟨pos, z⟩
      · exact .inr z
      · obtain ⟨c, e1, e2⟩ := g3 pos _ z
        cases e1
        exact .inl e2
    have bf : B1 f = none := fresh_back w.b nf
    have mf : M f = none := fresh_back w.m nf
    have mc : M c' = none := bc.elim (fun z => (w.bm c').elim (fun y => by rw [z] at y; cases y) id) fun z => fresh_back w.m z
    have e0 : Ex B1 (upd (upd B1 c' (CodeO c' q)) f (LamO f ⟨q, params, body, scope, [(y, cy)], c'⟩)) := fun b u z => by
      rw [upd_ne (show b ≠ f from fun g => by rw [g, bf] at z; cases z)]
      by_cases g : b = c'
      · rw [g, upd_same]
        rcases bc with h | h
        · rw [g, h] at z; exact z
        · rw [g, fresh_back w.b h] at z; cases z
      · rw [upd_ne g]; exact z
    have nx : ∀ x ∈ L, x.p ≠ P → x.p ≠ f ∧ x.p ≠ c' := fun x hx hp => by
      obtain ⟨⟨u, h1, _⟩, h3, _⟩ := w.l x hx
      refine ⟨(fun z => by rw [z, nf] at h1; cases h1), fun z => ?_⟩
      rcases bc with h | h
      · rw [z, h] at h3; cases h3
      · rw [z, h] at h1; cases h1
    have own : Own K (upd (upd B1 c' (CodeO c' q)) f (LamO f ⟨q, params, body, scope, [(y, cy)], c'⟩)) M L H1 := by
      refine ⟨fun b u z => ?_, fun b u z => ?_, fun b => ?_, fun x hx => ?_, w.nd, fun T hT => ?_⟩
      · by_cases b1 : b = f
        · rw [b1, upd_same] at z; rw [b1]; exact of.trans z
        · rw [upd_ne b1] at z
          by_cases b2 : b = c'
          · rw [b2, upd_same] at z; rw [b2]; exact oc.trans z
          · rw [upd_ne b2] at z
            have b3 : b ≠ P := fun g => by
              rw [g] at z
              have bP : B1 P = none := bP
              rw [bP] at z; cases z
            rw [el b b3 b1 b2]
            exact w.b b u z
      · have b1 : b ≠ f := fun g => by rw [g] at z; rw [show M.h f = none from mf] at z; cases z
        have b2 : b ≠ c' := fun g => by rw [g] at z; rw [show M.h c' = none from mc] at z; cases z
        have b3 : b ≠ P := fun g => by rw [g] at z; rw [show M.h P = none from mP] at z; cases z
        rw [el b b3 b1 b2]
        exact w.m b u z
      · by_cases b1 : b = f
        · right; rw [b1]; exact mf
        · by_cases b2 : b = c'
          · right; rw [b2]; exact mc
          · rw [upd_ne b1, upd_ne b2]; exact w.bm b
      · obtain ⟨⟨u, h1, h2⟩, h3, h4⟩ := w.l x hx
        by_cases hp : x.p = P
        · obtain ⟨j, hj⟩ := List.getElem?_of_mem hx
          have ej : j = n := nodup_at w.nd (by rw [List.getElem?_map, hj]; rfl) (by rw [List.getElem?_map, hc]; exact congrArg some hp.symm)
          rw [ej, hc] at hj
          cases hj
          refine ⟨⟨.tbl ps1, t2, ps1, rfl, t3, fun pos cv z => ?_⟩, ?_, h4⟩
          · rcases t4 pos cv z with g | g
            · obtain ⟨c, e1, e2⟩ := g3 pos cv g
              exact ⟨c, e1, e0 _ _ e2⟩
            · exact ⟨c', g, (upd_ne n3.symm).trans upd_same⟩
          · show upd _ f _ P = none
            rw [upd_ne n1.symm, upd_ne n2.symm]; exact bP
        · obtain ⟨x1, x2⟩ := nx x hx hp
          refine ⟨⟨u, by rw [el x.p hp x1 x2]; exact h1, x.c.mono e0 h2⟩, ?_, h4⟩
          rw [upd_ne x1, upd_ne x2]; exact h3
      · obtain ⟨⟨ts, h1, h2⟩, h3, h4, h5⟩ := w.t T hT
        have b3 : T ≠ P := fun g => h5 (by rw [g]; exact List.mem_map.mpr ⟨_, List.mem_of_getElem? hc, rfl⟩)
        have b1 : T ≠ f := fun g => by rw [g, nf] at h1; cases h1
        have b2 : T ≠ c' := fun g => by
          rcases bc with h | h
          · rw [g, h] at h3; cases h3
          · rw [g, h] at h1; cases h1
        exact ⟨⟨ts, (el T b3 b1 b2).trans h1, h2⟩, (upd_ne b1).trans ((upd_ne b2).trans h3), h4, h5⟩
    exact k _ _ _ e0 own ⟨f, c', rfl, upd_same, (upd_ne n3.symm).trans upd_same⟩
theorem nt_tab : NT (cTab q) := ⟨fun ⟨ps, h, _⟩ => by subst h; trivial⟩
/-! ### promises -/
/-- of a lambda that captured something told over B0 -/
def spVB (K : Fg) (T : List Addr) (B0 : Hp) (C : List Arg → List Cell → Arg → List Cell → Prop) : Sp := fun vs H Q _ => ∃ B M L as r L', Ex B0 B ∧ M.T = T ∧ Own K B M L H ∧ ArgsIs K B vs as ∧ C as L r L' ∧
  ∀ v B' H', Ex B B' → Own K B' M L' H' → r.is K B' v → Q v H'
/-- of a def that gets the lambda last -/
def spL {β : Type} (P : Program) (w : World) (mg : Str → Option Value) (base : Heap) (k : Nat) (K : Fg) (T : List Addr) (q : Str) (params : Arguments) (body : Expr) (scope : Scope) (y : Str) (CL C : β → List Arg → List Cell → Arg → List Cell → Prop) : Sp := fun vs H Q _ => ∃ B M L as r L' cy ob kn B0,
  Ex B0 B ∧ M.T = T ∧ M cy = some (CelO cy ob) ∧ (∀ c', LOk P w K mg base k ⟨q, params, body, scope, [(y, cy)], c'⟩ cy ob (spVB K T B0 (CL kn))) ∧ Own K B M L H ∧ ArgsIs K B vs (as ++ [⟨rLam q params body scope y cy, ()⟩]) ∧ C kn as L r L' ∧
  ∀ v B' H', Ex B B' → Own K B' M L' H' → r.is K B' v → Q v H'
/-- the lambda is called -/
theorem ev_lamL {n : Nat} {CL : List Arg → List Cell → Arg → List Cell → Prop} {as as' : List Arg} {a : α} {c' : Addr} (hs : σ[n]? = some (some (.ref f))) (hM : M cy = some (CelO cy ob)) (hf : B f = some (LamO f ⟨q, params, body, scope, [(y, cy)], c'⟩)) (hc : B c' = some (CodeO c' q)) (hB : Ex B0 B)
    (ha : EA K M tA σ B L as L1) (hz : AF K M L1 as as') (hn : NTs L1) (hr : TO r) (h : CL as' [] ⟨r, a⟩ []) : EV K M (tLamL n f ⟨q, params, body, scope, [(y, cy)], c'⟩ cy ob (spVB K M.T B0 CL) tA) σ B L r a L1 := fun B1 H e w Q k =>
  ⟨hs, w.b _ _ (e _ _ hf), ha B1 H e w _ fun vs B2 H2 e2 w2 hv => ⟨w2.b _ _ (e2 _ _ (e _ _ hf)), w2.b _ _ (e2 _ _ (e _ _ hc)), w2.m _ _ hM, by
    refine ⟨frz B2 L1 H2, M.delX cy, [], as', ⟨r, a⟩, [], ((hB.trans e).trans e2).trans (ex_frz w2), rfl, w2.frzAll.delX hM, hz B2 H2 vs w2 hv, h, fun v B' H' e3 w3 hr3 nn => ?_⟩
    obtain ⟨e4, w4⟩ := w2.unfrz e3 (w3.undel nn hM)
    refine k v _ _ (e2.trans e4) w4 (hr.to (fun p hp => ?_) hr3)
    obtain ⟨x, hx, rfl⟩ := List.mem_map.mp hp
    obtain ⟨⟨o, h1, h2⟩, _⟩ := w2.l x hx
    exact ⟨o, e3 _ _ (by unfold frz; rw [if_pos hp, h1]), (hn x hx).nt h2⟩⟩⟩
/-- it is handed over -/
theorem ev_callK {β : Type} {P' : Program} {w' : World} {mg : Str → Option Value} {base : Heap} {kk n : Nat} {CL C : β → List Arg → List Cell → Arg → List Cell → Prop} {kn : β} {kv : V} {as as' : List Arg} {a : α} (hs : σ[n]? = some (some kv))
    (hl : ∀ ob u, RelV kv u → ob.data = .cell (some u) → ∀ c', LOk P' w' K mg base kk ⟨q, params, body, scope, [(y, cy)], c'⟩ cy ob (spVB K M.T B (CL kn)))
    (ha : EA K M tA σ B L (as ++ [⟨rLam q params body scope y cy, ()⟩]) L1) (hz : AF K M L1 (as ++ [⟨rLam q params body scope y cy, ()⟩]) (as' ++ [⟨rLam q params body scope y cy, ()⟩])) (hn : NTs L1) (hr : TO r) (h : C kn as' [] ⟨r, a⟩ []) :
    EV K M (tCallK n cy (spL P' w' mg base kk K M.T q params body scope y CL C) tA) σ B L r a L1 := fun B1 H e w Q k =>
  ha B1 H e w _ fun vs B2 H2 e2 w2 hv => ⟨kv, hs, fun ob u hu hd nn => by
    have mn : M cy = none := fresh_back w2.m nn
    refine ⟨frz B2 L1 H2, M.put cy (CelO cy ob), [], as', ⟨r, a⟩, [], cy, ob, kn, B, (e.trans e2).trans (ex_frz w2), rfl, upd_same, hl ob u hu hd, w2.frzAll.addM nn, hz B2 H2 vs w2 hv, h, fun v B' H' e3 w3 hr3 => ⟨w3.m cy _ upd_same, ?_⟩⟩
    have w4 := w3.delX (cy := cy) (o := CelO cy ob) upd_same
    rw [Fr.put_del mn] at w4
    obtain ⟨e4, w5⟩ := w2.unfrz e3 w4
    refine k v _ _ (e2.trans e4) w5 (hr.to (fun p hp => ?_) hr3)
    obtain ⟨x, hx, rfl⟩ := List.mem_map.mp hp
    obtain ⟨⟨o, h1, h2⟩, _⟩ := w2.l x hx
    exact ⟨o, e3 _ _ (by unfold frz; rw [if_pos hp, h1]), (hn x hx).nt h2⟩⟩
/-- it is handed over; what is ours is set aside -/
theorem ev_callK0 {β : Type} {P' : Program} {w' : World} {mg : Str → Option Value} {base : Heap} {kk n : Nat} {CL C : β → List Arg → List Cell → Arg → List Cell → Prop} {kn : β} {kv : V} {as : List Arg} {a : α} (hs : σ[n]? = some (some kv))
    (hl : ∀ ob u, RelV kv u → ob.data = .cell (some u) → ∀ c', LOk P' w' K mg base kk ⟨q, params, body, scope, [(y, cy)], c'⟩ cy ob (spVB K M.T B (CL kn)))
    (ha : EA K M tA σ B L (as ++ [⟨rLam q params body scope y cy, ()⟩]) L1) (h : C kn as [] ⟨r, a⟩ []) : EV K M (tCallK n cy (spL P' w' mg base kk K M.T q params body scope y CL C) tA) σ B L r a L1 := fun B1 H e w Q k =>
  ha B1 H e w _ fun vs B2 H2 e2 w2 hv => ⟨kv, hs, fun ob u hu hd nn => by
    have mn : (absorb M L1 H2) cy = none := by
      show (if cy ∈ L1.map (·.p) then H2 cy else M cy) = none
      split
      · exact nn
      · exact fresh_back w2.m nn
    refine ⟨B2, (absorb M L1 H2).put cy (CelO cy ob), [], as, ⟨r, a⟩, [], cy, ob, kn, B, e.trans e2, rfl, upd_same, hl ob u hu hd, (w2.lend (L1 := []) (L2 := L1) (fun _ h => absurd h (by simp)) (fun _ h => h) (by simp) (fun _ h => absurd h (by simp))).addM nn, hv, h, fun v B' H' e3 w3 hr3 => ⟨w3.m cy _ upd_same, ?_⟩⟩
    have w4 := w3.delX (cy := cy) (o := CelO cy ob) upd_same
    rw [Fr.put_del mn] at w4
    exact k v B' _ (e2.trans e3) (w2.back (L1' := []) (fun _ h => h) w2.nd e3 w4 (fun _ h => absurd h (by simp))) hr3⟩
/-- a lambda's promise by its body; rk tells what it captured -/
theorem lok_of {β : Type} {P' : Program} {w' : World} {mg : Str → Option Value} {base : Heap} {kk : Nat} {T : List Addr} {CL : β → List Arg → List Cell → Arg → List Cell → Prop} {kn : β} {kv : V} {u : Value} {N ps : List Str} {rk : Rep β} (S : NdefX.NScope N ps [y] scope)
    (hb : ∀ (c' : Addr) (pm ctv : Value) (us : List Value), us.length = ps.length → bindArgs (PySem.W.kla_fn "<lambda>" q params body scope [(y, cy)] pm (.ref c') ctv) ⟨us, []⟩ = pure (ps.zip us)) (hu : RelV kv u) (hd : ob.data = .cell (some u)) (hk : rk.is K B0 kv kn) (hlen : ∀ as L r L', CL kn as L r L' → as.length = ps.length)
    (walk : ∀ (c' f : Addr) (A : Around) (outer : List Env) (s : Shared) (H : Hp), Room kk (A.deeper (NdefX.envF (LF.nf ⟨q, params, body, scope, [(y, cy)], c'⟩) f s.heap.objs.size)) → ∃ tb, PE (NdefX.ncx CX0 P' w' K mg base N (LF.nf ⟨q, params, body, scope, [(y, cy)], c'⟩) f A outer s H E0) body tb ∧
      ∀ B M L vs as r L' (Q : VK), M.T = T → Own K B M L H → ArgsIs K B vs as → CL kn as L r L' → rk.is K B kv kn → (∀ v B' H', Ex B B' → Own K B' M L' H' → r.is K B' v → Q v H') → tb (NdefX.startF N vs [some kv]) H Q) :
    ∀ c', LOk P' w' K mg base kk ⟨q, params, body, scope, [(y, cy)], c'⟩ cy ob (spVB K T B0 (CL kn)) := fun c' => ⟨⟨N, ps, y, kv, u, S, rfl, hu, hd, hb c', fun vs H Q E ⟨B, M, L, as, r, L', _, _, _, ha, hc, _⟩ => (args_len ha).trans (hlen as L r L' hc), fun f A outer s H vs Q hr ⟨B, M, L, as, r, L', e0, hT, w, ha, hc, k⟩ => by
  obtain ⟨tb, h1, h2⟩ := walk c' f A outer s H hr
  exact ⟨tb, h1, h2 B M L vs as r L' Q hT w ha hc (rk.mono e0 hk) k⟩⟩⟩
end
end L3
namespace L3
open PySem L2
/-- the call with a lambda, of a def that is known by its name -/
theorem pe_cK {X : Cx} {k jj j : Nat} {x y : Str} {sp : Sp} {p pos : Pos} {e : Expr} {es : List Expr} {t : TA} (c : Cl X.prog X.w X.K X.mg X.base k x sp []) (hr : Room jj X.A) (hk : k ≤ jj) (hg : Gl X x) (hy : X.N[j]? = some y) (hyc : X.env.scope.names.lookup y = some .cell) (hfn : X.fn y = true) (ha : PA X (e :: es) t)
    (hdb : (x == ("__debug__" : Str)) = false := by decide) (he : starEach (e :: es) X.env = (false, eval e X.env) :: starEach es X.env := by rfl) (hpl : (backTo pos (starEach es X.env)).any (·.1) = false := by rfl) :
    PE X (.Call (.Name x p) (e :: es) [] pos) (L3G.tCallK j (L3G.cyOf X y) sp t) := by
  obtain ⟨f, fd, ps, ds, F, hm, kp, b, d⟩ := c.ex
  cases d
  exact L3G.pe_callK F (hr.mono hk) hg hm kp b hy hyc hfn ha hdb he hpl
end L3

namespace L3
open PySem L2
open Evl (Ex ex_rd ex_l ex_t sq_of st_of fresh_back)
/-! ### == of values that may be None -/
section
variable {α : Type} {r : Rep α} {f : α → PyData} {n : Nat}
theorem dr_opt (d : DR r f n) (hn : ∀ a, PyData.eqv (f a) .none = false ∧ PyData.eqv .none (f a) = false) : DR (rOpt r) (dOpt f) (max n 1) := ⟨dq_opt d.dp, fun a => by
    cases a with
    | none => rfl
    | some a => exact d.lay a, fun a => by
    cases a with
    | none => simp [dOpt, PyData.depth]
    | some a => exact Nat.le_trans (d.dep a) (Nat.le_max_left _ _), fun a b => by
    cases a with
    | none => cases b with
      | none => simp [dOpt, PyData.eqv]
      | some b => simp [dOpt, (hn b).2]
    | some a => cases b with
      | none => simp [dOpt, (hn a).1]
      | some b => simp [dOpt, d.eqv], fun a b e => by
    cases a with
    | none => cases b with
      | none => rfl
      | some b =>
        have e : PyData.none = f b := e
        have := (hn b).2
        rw [← e] at this
        simp [PyData.eqv] at this
    | some a => cases b with
      | none =>
        have e : f a = PyData.none := e
        have := (hn a).1
        rw [e] at this
        simp [PyData.eqv] at this
      | some b => exact congrArg some (d.inj a b e)⟩
end
/-! ### the start where a lambda's table is ours -/
theorem Own.startL (K : Fg) (H : Hp) (T : List Addr) (Pt : Addr) (q : Str) (hT : ∀ P ∈ T, GxR.TabG H P) (hP : H Pt = some (.tbl #[])) (hne : Pt ∉ T) : Own K (noT H (Pt :: T)) ⟨fun _ => none, T⟩ [⟨Pt, cTab q, ()⟩] H := ⟨fun a u h => by
    unfold noT at h
    split at h
    · cases h
    · exact h, fun _ _ h => (by cases h), fun _ => .inr rfl, fun x hx => by
    obtain rfl := List.mem_singleton.mp hx
    exact ⟨⟨.tbl #[], hP, #[], rfl, trivial, fun pos cv z => (by cases z)⟩, by unfold noT; rw [if_pos (List.mem_cons_self)], rfl⟩, by simp, fun P hp => ⟨hT P hp, by unfold noT; rw [if_pos (List.mem_cons_of_mem _ hp)], rfl, by
    intro z
    have z : P ∈ [Pt] := z
    rw [List.mem_singleton.mp z] at hp
    exact hne hp⟩⟩
end L3

/-! dicts of ints by any data; a dict that stays from now on; sets of ints, sorted -/
namespace L3G
open PySem PySem.Spec PyProof.Rows L2
variable {X : Cx}
/-- from here on the thing at d stays (it is read, never written) -/
def tFrz (t : TS) : TS := fun D σ H => ∃ d u, H d = some u ∧ Mut (some u) ∧ ∀ od, t D σ (upd H d (.frz od u))
theorem pss_frz {ss : List Stmt} {t : TS} (h : PSs X ss t) : PSs X ss (tFrz t) := ⟨fun pins s σ H D I q => by
  obtain ⟨d, u, hd, mu, q⟩ := q
  obtain ⟨od, J⟩ := I.lock hd mu
  exact h.run pins s σ _ D J (q od)⟩
/-- what == of two dicts tells, entry by entry -/
inductive HitV (K : PySem.W.Frag) (H : Hp) (fs : List (Key × V)) : List (Key × V) → Bool → Prop
  | nil : HitV K H fs [] true
  | miss {k : Key} {v : V} {r : List (Key × V)} : valV fs k = none → HitV K H fs ((k, v) :: r) false
  | hit {k : Key} {v y : V} {r : List (Key × V)} {d e : PyData} {b : Bool} : valV fs k = some y → Dp K H v d → Dp K H y e → SeqAt.shaped d = true → SeqAt.shaped e = true → d.depth ≤ 60 → HitV K H fs r b → HitV K H fs ((k, v) :: r) (PyData.eqv d e && b)
def rEqM (K : PySem.W.Frag) : R2 := fun x y H Q => ∃ a b es fs r, x = .ref a ∧ y = .ref b ∧ Rd H a (.dK es) ∧ Rd H b (.dK fs) ∧ HitV K H fs es r ∧ Q (.bl (es.length == fs.length && r)) H
theorem hit_run {pins : List (Addr × Obj)} {σ : L2.St} {H : Hp} {s : Shared} (I : Inv X pins σ H s) {A : Around} (hu : A.units + 61 < cLine) {fs : List (Key × V)} {us : List (Key × Value)} (rf : KV fs us) :
    ∀ {es : List (Key × V)} {r : Bool}, HitV X.K H fs es r → ∀ {vs : List (Key × Value)}, KV es vs → PySem.W.KeqHitsP X.prog X.w A s us vs r := fun h => by
  induction h with
  | nil => intro vs kv; cases kv; exact .nil
  | @miss k v r hn =>
    intro vs kv
    cases kv with
    | @cons p q ps qs h1 h2 =>
      obtain ⟨k', u⟩ := q
      obtain ⟨rfl, ru⟩ := h1
      exact .miss (RelO.none_of (by rw [← hn]; exact rf.val k))
  | @hit k v y r d e b hv d1 d2 s1 s2 dz _ ih =>
    intro vs kv
    cases kv with
    | @cons p q ps qs h1 h2 =>
      obtain ⟨k', u⟩ := q
      obtain ⟨rfl, ru⟩ := h1
      obtain ⟨w', hw, rw'⟩ := RelO.some_of (v := y) (o := valueAt us k) (by rw [← hv]; exact rf.val k)
      obtain ⟨as, r1⟩ := Dp.reads I d v u d1 ru
      obtain ⟨bs, r2⟩ := Dp.reads I e y w' d2 rw'
      exact .hit hw (SeqAt.EqAt.eqP (SeqAt.eqAt_reads d e A s u w' _ _ r1 r2 (SeqAt.canLay_of_shaped s1) (SeqAt.canLay_of_shaped s2) (by have := Nat.min_le_left d.depth e.depth; omega))) (ih h2)
theorem op_eqM (hu : X.A.units + 64 < cLine) : OpR X (compareOp .Eq) (rEqM X.K) := by
  intro pins s σ H x y v u Q I rx ry h
  obtain ⟨a, b, es, fs, r, rfl, rfl, ha, hb, hit, q⟩ := h
  cases rx
  cases ry
  obtain ⟨z1, l1, vs, k1, d1⟩ := dk_rd I.hok ha
  obtain ⟨z2, l2, us, k2, d2⟩ := dk_rd I.hok hb
  refine PySem.W.rcP_dicts (knd := mixKind X.prog X.w) (r := r) l1 l2 d1 d2 (by omega) (fun _ => hit_run I (by show X.A.in1.units + 61 < cLine; have : X.A.in1.units = X.A.units + 1 := rfl; omega) k2 hit k1) _ _ ⟨.bl _, H, I, rfl, ?_⟩
  have e1 : es.length = vs.length := Paired.length k1
  have e2 : fs.length = us.length := Paired.length k2
  rw [← e1, ← e2]
  exact q
end L3G
namespace L3
open PySem L2
open Evl (Ex ex_rd ex_l ex_t sq_of st_of fresh_back)

/-! ### dicts of ints by any data -/
def getM {α : Type} : List (Int × α) → Int → Option α
  | [], _ => none
  | q :: l, k => if q.1 = k then some q.2 else getM l k
def putM {α : Type} (kvs : List (Int × α)) (k : Int) (a : α) : List (Int × α) :=
  if (kvs.any fun q => decide (q.1 = k)) = true then kvs.map fun q => if q.1 = k then (q.1, a) else q else kvs ++ [(k, a)]
def EntM {α : Type} (r : Rep α) (K : Fg) (B : Hp) (e : Key × V) (q : Int × α) : Prop := e.1 = Sum.inl q.1 ∧ r.is K B e.2 q.2
theorem entM_mono {α : Type} {r : Rep α} {K : Fg} {B B' : Hp} (e : Ex B B') : ∀ {xs : List (Key × V)} {as : List (Int × α)}, Paired (EntM r K B) xs as → Paired (EntM r K B') xs as
  | _, _, .nil => .nil
  | _, _, .cons h t => .cons ⟨h.1, r.mono e h.2⟩ (entM_mono e t)
def cMap {α : Type} (r : Rep α) : CRep (List (Int × α)) := ⟨fun K B o kvs => ∃ es, o = .dK es ∧ Paired (EntM r K B) es kvs, fun e ⟨es, h1, h2⟩ => ⟨es, h1, entM_mono e h2⟩⟩
def rDic {α : Type} (r : Rep α) : Rep (List (Int × α)) := ⟨fun K B v kvs => ∃ p od es, v = .ref p ∧ B p = some (.frz od (.dK es)) ∧ Paired (EntM r K B) es kvs, fun e ⟨p, od, es, h1, h2, h3⟩ => ⟨p, od, es, h1, e _ _ h2, entM_mono e h3⟩⟩
def cFrz {α : Type} (r : Rep α) : CRep (List (Int × α)) := ⟨fun K B o kvs => ∃ od es, o = .frz od (.dK es) ∧ Paired (EntM r K B) es kvs, fun e ⟨od, es, h1, h2⟩ => ⟨od, es, h1, entM_mono e h2⟩⟩
theorem inl_eq {i j : Int} : ((Sum.inl i : Key) = Sum.inl j) ↔ i = j := ⟨Sum.inl.inj, fun e => by rw [e]⟩
section
variable {α : Type} {r : Rep α} {K : Fg} {B : Hp}
theorem entM_get (k : Int) : ∀ {es : List (Key × V)} {kvs : List (Int × α)}, Paired (EntM r K B) es kvs → match getM kvs k with
    | none => valV es (Sum.inl k : Key) = none
    | some a => ∃ v, valV es (Sum.inl k : Key) = some v ∧ r.is K B v a
  | _, _, .nil => rfl
  | _, _, @Paired.cons _ _ _ e q es kvs h t => by
    have ih := entM_get k t
    unfold getM
    by_cases hk : q.1 = k
    · rw [if_pos hk]
      exact ⟨e.2, valV_pos (by rw [h.1, hk]), h.2⟩
    · rw [if_neg hk, valV_neg (by rw [h.1]; exact fun z => hk (Sum.inl.inj z))]
      exact ih
theorem entM_any (k : Int) : ∀ {es : List (Key × V)} {kvs : List (Int × α)}, Paired (EntM r K B) es kvs → (es.any fun e => decide (e.1 = (Sum.inl k : Key))) = kvs.any fun q => decide (q.1 = k)
  | _, _, .nil => rfl
  | _, _, @Paired.cons _ _ _ e q es kvs h t => by
    rw [List.any_cons, List.any_cons, entM_any k t, h.1]
    congr 1
    exact decide_eq_decide.mpr inl_eq
theorem entM_repl (k : Int) {v : V} {a : α} (hv : r.is K B v a) : ∀ {es : List (Key × V)} {kvs : List (Int × α)}, Paired (EntM r K B) es kvs → Paired (EntM r K B) (es.map fun e => if e.1 = (Sum.inl k : Key) then (e.1, v) else e) (kvs.map fun q => if q.1 = k then (q.1, a) else q)
  | _, _, .nil => .nil
  | _, _, @Paired.cons _ _ _ e q es kvs h t => by
    rw [List.map_cons, List.map_cons]
    refine .cons ?_ (entM_repl k hv t)
    by_cases hk : q.1 = k
    · rw [if_pos hk, if_pos (by rw [h.1, hk])]; exact ⟨h.1, hv⟩
    · rw [if_neg hk, if_neg (by rw [h.1]; exact fun z => hk (Sum.inl.inj z))]; exact h
theorem entM_put (k : Int) {v : V} {a : α} (hv : r.is K B v a) {es : List (Key × V)} {kvs : List (Int × α)} (h : Paired (EntM r K B) es kvs) : Paired (EntM r K B) (putK es (Sum.inl k : Key) v) (putM kvs k a) := by
  unfold putK putM
  rw [entM_any k h]
  by_cases hc : (kvs.any fun q => decide (q.1 = k)) = true
  · rw [if_pos hc, if_pos hc]; exact entM_repl k hv h
  · rw [if_neg hc, if_neg hc]; exact paired_app h (.cons ⟨rfl, hv⟩ .nil)
theorem putM_len (kvs : List (Int × α)) (k : Int) (a : α) : (putM kvs k a).length ≤ kvs.length + 1 := by
  unfold putM
  split
  · rw [List.length_map]; omega
  · rw [List.length_append]; simp
end
/-- == of two dicts of data -/
def eqM {α : Type} [DecidableEq α] (kvs lvs : List (Int × α)) : Bool := (kvs.length == lvs.length) && kvs.all fun q => decide (getM lvs q.1 = some q.2)
section
variable {K : Fg} {M : Fr} {σ : St} {B B' H H' : Hp} {L L1 L2 L3 L' : List Cell} {α β γ δ : Type} {r : Rep α} {s : Rep β} {ta tb tc te tk tv : TE} {tt tu : TT} {tA : TA} {i j k : Int} {D : Ends} {tz : TS}
theorem eraseIdx_set {x : Cell} : ∀ (l : List Cell) (n : Nat), (l.set n x).eraseIdx n = l.eraseIdx n
  | [], _ => rfl
  | _ :: _, 0 => rfl
  | y :: l, n + 1 => congrArg (y :: ·) (eraseIdx_set l n)
/-- a dict of ours stays as it is from here on -/
theorem q_frzM {n : Nat} {p : Addr} {kvs : List (Int × α)} (w : Own K B M L H) (hc : L[n]? = some ⟨p, cMap r, kvs⟩) (q : ∀ B' H', Ex B B' → Own K B' M (L.eraseIdx n) H' → (rDic r).is K B' (.ref p) kvs → tz D σ H') : L3G.tFrz tz D σ H := by
  obtain ⟨⟨o, h1, es, h2, h3⟩, hB, hM⟩ := w.at hc
  have h1 : H p = some o := h1
  have hB : B p = none := hB
  subst h2
  refine ⟨p, .dK es, h1, trivial, fun od => ?_⟩
  have w1 : Own K B M (L.set n ⟨p, cFrz r, kvs⟩) (upd H p (.frz od (.dK es))) := w.set hc (c' := cFrz r) ⟨od, es, rfl, h3⟩
  have hl : n < L.length := (List.getElem?_eq_some_iff.mp hc).1
  obtain ⟨o', g1, g2, g3, w2⟩ := w1.freeze (i := n) (x := ⟨p, cFrz r, kvs⟩) (List.getElem?_set_self hl)
  have g1 : upd H p (.frz od (.dK es)) p = some o' := g1
  rw [upd_same] at g1
  cases g1
  rw [eraseIdx_set] at w2
  have e : Ex B (upd B p (.frz od (.dK es))) := Ex.new hB
  exact q _ _ e w2 ⟨p, od, es, rfl, upd_same, entM_mono e h3⟩
theorem q_asgM {n : Nat} (w : Own K B M L H) (q : ∀ p H', Own K B M (⟨p, cMap r, []⟩ :: L) H' → tz D (σ.set n (some (.ref p))) H') : tSeq (tAsg tDNewK (gName n)) tz D σ H :=
  fun p hp => q p _ (w.new hp ⟨[], rfl, .nil⟩)
theorem q_setM {n m : Nat} {p : Addr} {as : List (Int × α)} {a : α} (w : Own K B M L H) (h : EV K M te σ B L r a L1) (hs : σ[m]? = some (some (.ref p))) (hb : EV K M tb σ B L1 rInt i L2) (hc : L2[n]? = some ⟨p, cMap r, as⟩) (hr : room as.length = some ())
    (q : ∀ B' H', Ex B B' → Own K B' M (L2.set n ⟨p, cMap r, putM as i a⟩) H' → tz D σ H') : tSeq (tAsg te (gSub (tVar m) tb rSetD)) tz D σ H :=
  h B H (Ex.refl _) w _ fun v B1 H1 e1 w1 hv => ⟨_, hs, hb B1 H1 e1 w1 _ fun y B2 H2 e2 w2 hy => by
    obtain ⟨⟨o', g1, es, g2, g3⟩, _⟩ := w2.at hc
    have g1 : H2 p = some o' := g1
    have hy : y = kV (Sum.inl i) := hy
    subst hy
    refine ⟨p, _, rfl, DPut.k (kvs := es) (by rw [g1, g2]) (by rw [paired_len g3]; exact room_some hr), q B2 _ (e1.trans e2) (w2.set hc ⟨_, rfl, entM_put i (r.mono e2 hv) g3⟩)⟩⟩
/-! reading -/
theorem ev_mGet {n : Nat} {p : Addr} {kvs : List (Int × α)} {a : α} (h : EV K M ta σ B L rRef p L1) (h' : EV K M tb σ B L1 rInt k L2) (hc : L2[n]? = some ⟨p, cMap r, kvs⟩) (e : getM kvs k = some a) : EV K M (tDGet ta tb) σ B L r a L2 := fun B1 H e1 w Q q =>
  h B1 H e1 w _ fun x B2 H2 e2 w2 hx => h' B2 H2 (e1.trans e2) w2 _ fun u B3 H3 e3 w3 hu => by
    obtain ⟨⟨o', g1, es, g2, g3⟩, _⟩ := w3.at hc
    have g1 : H3 p = some o' := g1
    have hu : u = .int k := hu
    subst hu
    have g := entM_get k g3
    rw [e] at g
    obtain ⟨v, gv, gr⟩ := g
    exact ⟨p, v, hx, .inl ⟨es, Sum.inl k, .inl (by rw [g1, g2]), rfl, gv.symm⟩, q _ B3 H3 (e2.trans e3) w3 gr⟩
theorem ev_fGet {kvs : List (Int × α)} {a : α} (h : EV K M ta σ B L (rDic r) kvs L1) (h' : EV K M tb σ B L1 rInt k L2) (e : getM kvs k = some a) : EV K M (tDGet ta tb) σ B L r a L2 := fun B1 H e1 w Q q =>
  h B1 H e1 w _ fun x B2 H2 e2 w2 hx => h' B2 H2 (e1.trans e2) w2 _ fun u B3 H3 e3 w3 hu => by
    obtain ⟨p, od, es, rfl, g1, g3⟩ := (rDic r).mono e3 hx
    have hu : u = .int k := hu
    subst hu
    have g := entM_get k g3
    rw [e] at g
    obtain ⟨v, gv, gr⟩ := g
    exact ⟨p, v, rfl, .inl ⟨es, Sum.inl k, .inr ⟨od, w3.b _ _ g1⟩, rfl, gv.symm⟩, q _ B3 H3 (e2.trans e3) w3 gr⟩
theorem entM_some {es : List (Key × V)} {kvs : List (Int × α)} (h : Paired (EntM r K B) es kvs) (k : Int) : (valV es (Sum.inl k : Key)).isSome = (getM kvs k).isSome := by
  have g := entM_get k h
  cases e : getM kvs k with
  | none => rw [e] at g; rw [g]; rfl
  | some a => rw [e] at g; obtain ⟨v, gv, _⟩ := g; rw [gv]; rfl
theorem ev_mIn {n : Nat} {p : Addr} {kvs : List (Int × α)} (h' : EV K M tb σ B L rInt k L1) (h : EV K M ta σ B L1 rRef p L2) (hc : L2[n]? = some ⟨p, cMap r, kvs⟩) : EV K M (tDIn tb ta) σ B L rBool (getM kvs k).isSome L2 := fun B1 H e1 w Q q =>
  h' B1 H e1 w _ fun u B2 H2 e2 w2 hu => h B2 H2 (e1.trans e2) w2 _ fun x B3 H3 e3 w3 hx => by
    obtain ⟨⟨o', g1, es, g2, g3⟩, _⟩ := w3.at hc
    have g1 : H3 p = some o' := g1
    have hu : u = .int k := hu
    subst hu
    exact ⟨p, _, hx, .inl ⟨es, Sum.inl k, .inl (by rw [g1, g2]), rfl, rfl⟩, q _ B3 H3 (e2.trans e3) w3 (by rw [entM_some g3]; rfl)⟩
theorem ev_mNi {n : Nat} {p : Addr} {kvs : List (Int × α)} (h' : EV K M tb σ B L rInt k L1) (h : EV K M ta σ B L1 rRef p L2) (hc : L2[n]? = some ⟨p, cMap r, kvs⟩) : EV K M (tDNotIn tb ta) σ B L rBool (!(getM kvs k).isSome) L2 := fun B1 H e1 w Q q =>
  h' B1 H e1 w _ fun u B2 H2 e2 w2 hu => h B2 H2 (e1.trans e2) w2 _ fun x B3 H3 e3 w3 hx => by
    obtain ⟨⟨o', g1, es, g2, g3⟩, _⟩ := w3.at hc
    have g1 : H3 p = some o' := g1
    have hu : u = .int k := hu
    subst hu
    exact ⟨p, _, hx, .inl ⟨es, Sum.inl k, .inl (by rw [g1, g2]), rfl, rfl⟩, q _ B3 H3 (e2.trans e3) w3 (by rw [entM_some g3]; rfl)⟩
theorem ev_fIn {kvs : List (Int × α)} (h' : EV K M tb σ B L rInt k L1) (h : EV K M ta σ B L1 (rDic r) kvs L2) : EV K M (tDIn tb ta) σ B L rBool (getM kvs k).isSome L2 := fun B1 H e1 w Q q =>
  h' B1 H e1 w _ fun u B2 H2 e2 w2 hu => h B2 H2 (e1.trans e2) w2 _ fun x B3 H3 e3 w3 hx => by
    obtain ⟨p, od, es, rfl, g1, g3⟩ := hx
    have hu : u = .int k := hu
    subst hu
    exact ⟨p, _, rfl, .inl ⟨es, Sum.inl k, .inr ⟨od, w3.b _ _ g1⟩, rfl, rfl⟩, q _ B3 H3 (e2.trans e3) w3 (by rw [entM_some g3]; rfl)⟩
theorem ev_fNi {kvs : List (Int × α)} (h' : EV K M tb σ B L rInt k L1) (h : EV K M ta σ B L1 (rDic r) kvs L2) : EV K M (tDNotIn tb ta) σ B L rBool (!(getM kvs k).isSome) L2 := fun B1 H e1 w Q q =>
  h' B1 H e1 w _ fun u B2 H2 e2 w2 hu => h B2 H2 (e1.trans e2) w2 _ fun x B3 H3 e3 w3 hx => by
    obtain ⟨p, od, es, rfl, g1, g3⟩ := hx
    have hu : u = .int k := hu
    subst hu
    exact ⟨p, _, rfl, .inl ⟨es, Sum.inl k, .inr ⟨od, w3.b _ _ g1⟩, rfl, rfl⟩, q _ B3 H3 (e2.trans e3) w3 (by rw [entM_some g3]; rfl)⟩
/-- d.get(k, x) -/
theorem ev_fGet2 {kvs : List (Int × α)} {a : α} (h : EV K M ta σ B L (rDic r) kvs L1) (h' : EV K M tb σ B L1 rInt k L2) (h'' : EV K M tc σ B L2 r a L3) : EV K M (tDGet2 ta tb tc) σ B L r ((getM kvs k).getD a) L3 := fun B1 H e1 w Q q =>
  h B1 H e1 w _ fun x B2 H2 e2 w2 hx => by
    obtain ⟨p, od, es, rfl, g1, g3⟩ := hx
    refine ⟨p, rfl, .inl ⟨es, .inr ⟨od, w2.b _ _ g1⟩⟩, h' B2 H2 (e1.trans e2) w2 _ fun u B3 H3 e3 w3 hu => h'' B3 H3 ((e1.trans e2).trans e3) w3 _ fun z B4 H4 e4 w4 hz => ?_⟩
    have hu : u = .int k := hu
    subst hu
    refine ⟨_, .inl ⟨es, Sum.inl k, .inr ⟨od, w4.b _ _ (e4 _ _ (e3 _ _ g1))⟩, rfl, rfl⟩, q _ B4 H4 ((e2.trans e3).trans e4) w4 ?_⟩
    have g := entM_get k (entM_mono (e3.trans e4) g3)
    cases e : getM kvs k with
    | none => rw [e] at g; rw [g]; exact hz
    | some a => rw [e] at g; obtain ⟨v, gv, gr⟩ := g; rw [gv]; exact gr
theorem entM_hit [DecidableEq α] {f : α → PyData} {m : Nat} (d : DR r f m) (hm : m ≤ 60) (e : Ex B H) {fs : List (Key × V)} {lvs : List (Int × α)} (hf : Paired (EntM r K B) fs lvs) : ∀ {es : List (Key × V)} {kvs : List (Int × α)}, Paired (EntM r K B) es kvs → L3G.HitV K H fs es (kvs.all fun q => decide (getM lvs q.1 = some q.2))
  | _, _, .nil => .nil
  | _, _, @Paired.cons _ _ _ x q es kvs h t => by
    obtain ⟨k, v⟩ := x
    obtain ⟨hk, hv⟩ := h
    have hk : k = Sum.inl q.1 := hk
    subst hk
    have g := entM_get q.1 hf
    rw [List.all_cons]
    cases eg : getM lvs q.1 with
    | none =>
      rw [eg] at g
      rw [show decide ((none : Option α) = some q.2) = false from decide_eq_false (by simp), Bool.false_and]
      exact .miss g
    | some a =>
      rw [eg] at g
      obtain ⟨y, gy, gr⟩ := g
      have ee : decide ((some a : Option α) = some q.2) = PyData.eqv (f q.2) (f a) := by
        rw [d.dec]
        exact decide_eq_decide.mpr ⟨fun z => (Option.some.inj z).symm, fun z => by rw [z]⟩
      rw [ee]
      exact .hit gy (dp_mono e (d.dp _ _ _ _ hv)) (dp_mono e (d.dp _ _ _ _ gr)) (d.sh (by omega) _) (d.sh (by omega) _) (Nat.le_trans (d.dep _) hm) (entM_hit d hm e hf t)
theorem ev_eqM [DecidableEq α] {f : α → PyData} {m : Nat} {kvs lvs : List (Int × α)} (d : DR r f m) (hm : m ≤ 60) (ha : EV K M ta σ B L (rDic r) kvs L1) (hb : EV K M tb σ B L1 (rDic r) lvs L2) : EV K M (tOp (L3G.rEqM K) ta tb) σ B L rBool (eqM kvs lvs) L2 :=
  ev_op ha hb fun B1 H1 x y Q w hx hy q => by
    obtain ⟨p, od, es, rfl, g1, g3⟩ := hx
    obtain ⟨p', od', fs, rfl, g1', g3'⟩ := hy
    refine ⟨p, p', es, fs, _, rfl, rfl, .inr ⟨od, w.b _ _ g1⟩, .inr ⟨od', w.b _ _ g1'⟩, entM_hit d hm w.b g3' g3, q _ ?_⟩
    show V.bl _ = V.bl _
    rw [paired_len g3, paired_len g3']
    rfl
/-! walking the keys -/
theorem ei_dic {kvs : List (Int × α)} (h : EV K M te σ B L (rDic r) kvs L') : EI K M (iKeys te) σ B L rInt (kvs.map (·.1)) L' := fun B1 H e w R q => h B1 H e w _ fun v B2 H2 e2 w2 hv => by
  obtain ⟨p, od, es, rfl, g1, g3⟩ := hv
  refine ⟨p, od, rfl, .inl ⟨es, w2.b _ _ g1, q _ B2 H2 e2 w2 ⟨fun i a B' L' H' e' w' hi => ?_, fun B' L' H' e' w' => ⟨w'.b _ _ (e' _ _ g1), by rw [paired_len g3, List.length_map]; exact Nat.le_refl _⟩⟩⟩⟩
  rw [List.getElem?_map] at hi
  cases hk : kvs[i]? with
  | none => rw [hk] at hi; cases hi
  | some kq =>
    rw [hk] at hi
    obtain rfl : kq.1 = a := Option.some.inj hi
    obtain ⟨x, hx, hr⟩ := L3.paired_get g3 hk
    refine ⟨⟨w'.b _ _ (e' _ _ g1), (List.getElem?_eq_some_iff.mp hx).1⟩, fun y H3 hy => ?_⟩
    obtain ⟨rfl, k, v, hk2, rfl⟩ := hy
    rw [hx] at hk2
    cases hk2
    refine ⟨B', Ex.refl _, w', ?_⟩
    rw [show k = Sum.inl kq.1 from hr.1]
    rfl
/-! sorted(d), min(xs) -/
def sortZ (l : List Int) : List Int := l.mergeSort fun a b => decide (a ≤ b)
theorem sortZ_eq {ys l : List Int} (hp : ys.Perm l) (hs : ys.Pairwise (· ≤ ·)) : ys = sortZ l := by
  refine List.Perm.eq_of_pairwise (le := (· ≤ ·)) (fun a b _ _ h1 h2 => Int.le_antisymm h1 h2) hs ?_ (hp.trans (List.mergeSort_perm l _).symm)
  refine (List.pairwise_mergeSort (le := fun a b => decide (a ≤ b)) (fun a b c h1 h2 => ?_) (fun a b => ?_) l).imp fun {a b} h => of_decide_eq_true h
  · exact decide_eq_true (Int.le_trans (of_decide_eq_true h1) (of_decide_eq_true h2))
  · rcases Int.le_total a b with h | h
    · rw [decide_eq_true h]; rfl
    · rw [decide_eq_true h, Bool.or_true]
def few (n : Nat) : Option Unit := if n < 64 then some () else none
theorem few_some {n : Nat} {u : Unit} (h : few n = some u) : n < 64 := by
  unfold few at h
  split at h
  · assumption
  · cases h
def rSortD : List V → Hp → VK → Prop := fun xs H Q => ∃ (a : Addr) (kvs : List (Key × V)) (ks : List Int), xs = [.ref a] ∧ Rd H a (.dK kvs) ∧ kvs.map (·.1) = ks.map Sum.inl ∧ ks.length < 64 ∧
    ∀ (ys : List Int) (p : Addr), ys.Perm ks → ys.Pairwise (· ≤ ·) → H p = none → Q (.ref p) (upd H p (.lst (ys.map V.int)))
theorem ints_paired : ∀ (l : List Int), Paired (rInt.is K B) (l.map V.int) l
  | [] => .nil
  | _ :: l => .cons rfl (ints_paired l)
theorem entM_keys : ∀ {es : List (Key × V)} {kvs : List (Int × α)}, Paired (EntM r K B) es kvs → es.map (·.1) = (kvs.map (·.1)).map Sum.inl
  | _, _, .nil => rfl
  | _, _, .cons h t => by rw [List.map_cons, List.map_cons, List.map_cons, entM_keys t, h.1]
theorem el_sortD {kvs : List (Int × α)} (h : EV K M te σ B L (rDic r) kvs L') (hf : few kvs.length = some ()) : EVL K M (tCB rSortD (tCons te tNil)) σ B L rInt (sortZ (kvs.map (·.1))) L' := fun B1 H e w Q q =>
  h B1 H e w _ fun v B2 H2 e2 w2 hv => by
    obtain ⟨p, od, es, rfl, g1, g3⟩ := hv
    refine ⟨p, es, kvs.map (·.1), rfl, .inr ⟨od, w2.b _ _ g1⟩, entM_keys g3, by rw [List.length_map]; exact few_some hf, fun ys l hp hs hl => ?_⟩
    rw [sortZ_eq hp hs]
    exact q l B2 _ e2 (w2.new hl ⟨_, rfl, ints_paired _⟩)
def minZ : List Int → Option Int
  | [] => none
  | x :: l => some (l.foldl min x)
theorem foldl_min (l : List Int) : ∀ x : Int, (l.foldl min x ∈ x :: l) ∧ ∀ y ∈ x :: l, l.foldl min x ≤ y := by
  induction l with
  | nil => intro x; exact ⟨List.mem_cons_self, fun y hy => by rw [List.mem_singleton.mp hy]; exact Int.le_refl _⟩
  | cons a l ih =>
    intro x
    obtain ⟨h1, h2⟩ := ih (min x a)
    rw [List.foldl_cons]
    refine ⟨?_, fun y hy => ?_⟩
    · rcases List.mem_cons.mp h1 with e | e
      · rw [e]
        rcases Int.le_total x a with z | z
        · rw [Int.min_eq_left z]; exact List.mem_cons_self
        · rw [Int.min_eq_right z]; exact List.mem_cons_of_mem _ List.mem_cons_self
      · exact List.mem_cons_of_mem _ (List.mem_cons_of_mem _ e)
    · have hm := h2 (min x a) List.mem_cons_self
      rcases List.mem_cons.mp hy with e | hy
      · rw [e]; exact Int.le_trans hm (Int.min_le_left _ _)
      · rcases List.mem_cons.mp hy with e | hy
        · rw [e]; exact Int.le_trans hm (Int.min_le_right _ _)
        · exact h2 y (List.mem_cons_of_mem _ hy)
theorem minZ_is {l : List Int} {m m' : Int} (h : minZ l = some m) (hm : m' ∈ l) (hl : ∀ y ∈ l, m' ≤ y) : m' = m := by
  cases l with
  | nil => cases h
  | cons x l =>
    obtain rfl := Option.some.inj h
    obtain ⟨h1, h2⟩ := foldl_min l x
    exact Int.le_antisymm (hl _ h1) (h2 _ hm)
theorem ev_minL {xs : List Int} {m : Int} (h : EV K M te σ B L (rLst rInt) xs L') (hm : minZ xs = some m) : EV K M (tCB (rMin K) (tCons te tNil)) σ B L rInt m L' := fun B1 H e w Q q =>
  h B1 H e w _ fun v B2 H2 e2 w2 hv => by
    obtain ⟨p, vs, rfl, hs, hp⟩ := rl_sc hv
    refine ⟨p, xs, rfl, by rw [← ints_of hp]; exact ex_l w2.b hs, ?_, fun m' h1 h2 => q _ B2 H2 e2 w2 (by rw [minZ_is hm h1 h2]; rfl)⟩
    cases xs with
    | nil => cases hm
    | cons x l => simp
/-- l += a list -/
def room2 (n m : Nat) : Option Unit := if n + m ≤ 100000 then some () else none
theorem room2_some {n m : Nat} {u : Unit} (h : room2 n m = some u) : n + m ≤ 100000 := by
  unfold room2 at h
  split at h
  · assumption
  · cases h
end
end L3

/-! sorted(set(xs)) of a list of ints; two fors in a comprehension; dict comprehensions of any data; l += a list -/
namespace L3G
open PySem PySem.Spec PyProof.Rows L2
section
variable {P : Program} {w : World} {A : Around} {E : Value → Shared → Prop} {s : Shared}
abbrev newS (w : World) : Obj := { cls := .type "set", dict := none, data := .set #[] 0 (.fresh 0 0 (!w.params.followText "set-order")) }
set_option maxRecDepth 100000 in
set_option maxHeartbeats 3200000 in
theorem set_of_list {a : Addr} {its : Array Value} (ks : List Int) {Q : Value → Shared → Prop} (h0 : A.handled = none) (ha : s.heap.IsList a its) (hk : IntsAre its.toList ks) (hb : ks.length + 1 < scanBound)
    (q : ∀ (h2 : Heap) (t2 n : Nat), SetR w h2 s.heap.objs.size (fun j => decide (j ∈ ks)) n → (∀ b o, s.heap.get? b = some o → h2.get? b = some o) → Q (.ref s.heap.objs.size) { s with heap := h2, toks := t2 }) :
    wpAny (model P w) A (call (.type "set") [.ref a]) Q E s := by
  have hsz : its.size = ks.length := by have z := IntsAre.length hk; rw [Array.length_toList] at z; exact z
  obtain ⟨c, tl, hmro⟩ := F.called_set.mro; have hmade := F.called_set.made; have hsub := F.called_set.sub
  refine wpAny_call (codeAny_of_tree ?_); show wpAny _ _ (callAny (.type "set") _) _ _ _
  refine wpAny_pure ⟨Code.quiet_builtin _ (by decide +kernel), codeAny_builtin F.entry_type_call ?_⟩; rw [Around.under_plain (weight_type_call_type "set" [.ref a] []) rfl]
  have h1 := F.called_set.notType; have h2 := F.called_set.canCreate; have hct := F.typeCall_set_1 (.ref a)
  repeat (any_goals (first | assumption | wp_step))
  refine codeAny_mono (code_set_led1 (.ref a) (E := E) (Q₁ := fun obj u => obj = .ref s.heap.objs.size ∧ u = { s with heap := s.heap.push (newS w) }) ⟨rfl, rfl⟩) fun r u hr => ?_
  cases r with
  | error e => exact hr
  | ok fl =>
    cases fl with
    | ret obj =>
      obtain ⟨rfl, rfl⟩ := hr
      have hS : (s.heap.push (newS w)).get? s.heap.objs.size = some (newS w) := Heap.get?_push_size _ rfl
      have hT : Shared.TypeIs { s with heap := s.heap.push (newS w) } (.ref s.heap.objs.size) "set" := ⟨_, hS, rfl⟩
      have hli := F.called_set.init.lookup; have hbi := F.called_set.init.bind (.ref s.heap.objs.size)
      repeat (any_goals (first | assumption | wp_step))
      refine codeAny_mono (codeAny_call_builtin (R := wants (fun r s2 => r = .none ∧ ∃ h2 tk n, s2 = { s with heap := h2, toks := tk } ∧ SetR w h2 s.heap.objs.size (fun j => decide (j ∈ ks)) n ∧
          (∀ b o, s.heap.get? b = some o → h2.get? b = some o)) E) F.called_set.init.plain F.entry_set_init (check_set_init_1 hT ?_)) fun r2 s2 hr2 => ?_
      · obtain ⟨⟨ocls, odict, odata, oslots⟩, hol, hcl, nl, hdl⟩ := ha
        simp only at hcl hdl
        subst hcl; subst hdl
        have hol' : (s.heap.push (newS w)).get? a = some { cls := .type "list", dict := odict, data := .seq its nl, slots := oslots } := Heap.get?_push_of_some _ hol
        have hsls := F.sub_list_set; have hslf := F.sub_list_frozenset; have hne : (Value.type "list" == Value.type "dict") = false := by decide
        have hl1 : (s.heap.push (newS w)).IsList a its := ⟨_, hol', rfl, nl, rfl⟩
        unfold Builtin.«set.__init__» noKeywords Builtin.Frozenset.updateFrom
        generalize hPI : pyIter = PI; wp_walk; subst hPI
        refine wpAny_pyIter_list hl1 ?_; refine wpAny_bind (wpAny_runValue ?_)
        have hlS : a < s.heap.objs.size := Heap.lt_size hol
        have hh3 : A.in1.in1.in1.handled = none := by simp [h0]
        have hneI : a ≠ (s.heap.push (newS w)).objs.size := by rw [Heap.size_push]; exact Nat.ne_of_lt (Nat.lt_succ_of_lt hlS)
        have hSf : s.heap.objs.size ∉ [(s.heap.push (newS w)).objs.size, a] := by
          rw [Heap.size_push]; simp only [List.mem_cons, List.mem_singleton, List.not_mem_nil, or_false, not_or]; exact ⟨Nat.ne_of_lt (Nat.lt_succ_self _), Nat.ne_of_gt hlS⟩
        have hval : ∀ (i : Nat) (v : Value), its[i]? = some v → ∃ k t, ks[i]? = some k ∧ v = .int k t := fun i v hv => by
          have hi : i < ks.length := by rw [← hsz]; exact (Array.getElem?_eq_some_iff.mp hv).1
          obtain ⟨t, e⟩ := PyProof.Rows.IntsAre.int_at hk i v (by rw [Array.getElem?_toList]; exact hv)
          exact ⟨ks[i], t, List.getElem?_eq_getElem hi, by rw [e, List.getD_eq_getElem?_getD, List.getElem?_eq_getElem hi] <;> rfl⟩
        refine set_update_ints ((Walks.list hh3 _ a hneI its).toS) s.heap.objs.size hSf ks hsz hb hval (its.size - 0) 0 _ (by omega) (Nat.zero_le _)
          ⟨⟨_, Heap.get?_push_size _ rfl, rfl, rfl⟩, (hl1.push _)⟩ ?hS0 ?hR
        case hS0 => exact ⟨0, Nat.le_refl 0, setR_new_at (Heap.get?_push_of_some _ hS)⟩
        case hR =>
          intro s' c' hm hc' hS'
          obtain ⟨h', g2, d', tk', os'⟩ := s'
          have eg : g2 = s.gens := hm.gens
          have ed : d' = s.drawn := hm.drawn
          have eo : os' = s.os := hm.os
          subst eg; subst ed; subst eo
          show wpAny _ _ _ _ _ _; refine wpAny_pure ?_; show wpAny _ _ (ret Value.none) _ _ _
          refine wpAny_pure ⟨rfl, h', tk', c', rfl, hS', fun b o e => ?_⟩
          have hb0 : b < s.heap.objs.size := Heap.lt_size e
          have hb2 : b ≠ (s.heap.push (newS w)).objs.size := by rw [Heap.size_push]; exact Nat.ne_of_lt (Nat.lt_succ_of_lt hb0)
          exact hm.heap b o (by simp only [List.mem_cons, List.mem_singleton, List.not_mem_nil, or_false, not_or]; exact ⟨Nat.ne_of_lt hb0, hb2⟩) (Heap.get?_push_of_some _ (Heap.get?_push_of_some _ e))
      · cases r2 with
        | error e => exact hr2
        | ok fl2 =>
          cases fl2 with
          | ret r =>
            obtain ⟨rfl, h', tk, c', rfl, hS', hk'⟩ := hr2
            repeat (any_goals (first | assumption | wp_step))
            exact q _ _ _ hS' hk'
          | _ => exact hr2.elim
    | _ => exact hr.elim
end
section
variable {X : Cx}
/-- sorted(set(e)) -/
def tSortSet (K : PySem.W.Frag) (ta : TE) : TE := fun σ H Q => ta σ H fun x H1 => ∃ (a : Addr) (ks : List Int), x = .ref a ∧ SqL K H1 a (ks.map V.int) ∧ ks.length ≤ 4000 ∧ (∀ l : List Int, l.Nodup → (∀ k ∈ l, k ∈ ks) → l.length < 64) ∧
  ∀ (ys : List Int) (p : Addr), ys.Pairwise (· < ·) → (∀ k : Int, k ∈ ys ↔ k ∈ ks) → H1 p = none → Q (.ref p) (upd H1 p (.lst (ys.map V.int)))
theorem intsAre_of : ∀ {ks : List Int} {us : List Value}, Vals (ks.map V.int) us → IntsAre us ks
  | [], _, .nil => .nil
  | _ :: _, _, .cons r t => by obtain ⟨k, rfl⟩ := r; exact .cons _ k (intsAre_of t)
theorem pe_sortSet {e : Expr} {te : TE} {p p2 q pos : Pos} (hc : X.calm = true) (hg : Gl X "sorted") (hm : X.mg "sorted" = none) (hv : bootBuiltins "sorted" = some (.builtin "sorted")) (hg2 : Gl X "set") (hm2 : X.mg "set" = none) (he : PE X e te)
    (hs : starEach [.Call (.Name "set" p2) [e] [] q] X.env = (false, eval (.Call (.Name "set" p2) [e] [] q) X.env) :: starEach [] X.env := by rfl) (na : starEach [e] X.env = (false, eval e X.env) :: starEach [] X.env := by rfl) :
    PE X (.Call (.Name "sorted" p) [.Call (.Name "set" p2) [e] [] q] [] pos) (tSortSet X.K te) := by
  refine ⟨fun pins s σ H Q I h => ?_⟩
  refine wpAny_Call_Name_kw (ld_blt I hg hm hv ?_); refine PyProof.Rows.callWith_builtin1 (PyProof.Rows.args_cons ?_ rfl) hs (by rfl)
  refine wpAny_Call_Name_kw (ld_blt I hg2 hm2 PyProof.Rows.boot_set ?_)
  refine PyProof.Rows.callWith_type1 (PyProof.Rows.args_cons (thn (he.run pins s σ H _ I h) fun v s1 ⟨x, H1, I1, r1, q1⟩ => PyProof.Rows.args_nil ?_) na) na rfl
  obtain ⟨a, ks, rfl, hq, hl, hfew, q1⟩ := q1
  cases r1
  obtain ⟨its, r, pl, hz⟩ := I1.list hq
  refine set_of_list (P := X.prog) (w := X.w) ks (I1.ok.hd hc) pl.isList (by simpa using intsAre_of r) (by unfold scanBound; omega) fun h2 t2 n R k => ?_
  refine PyProof.Rows.args_nil ?_
  have I2 : Inv X pins σ H1 { s1 with heap := h2, toks := t2 } := I1.kept fun b o e => k b o e
  have h64 : n < 64 := by
    obtain ⟨o, es, ep, t, ho, hex, hd, g, nd, hm3, hb, hf, hn, hr, hl3⟩ := R
    rw [← hn, ← Array.length_toList, ← List.length_map (f := keyOf)]
    exact hfew _ nd fun j hj => of_decide_eq_true ((hm3 j).mpr hj)
  refine sorted_set R (I2.ok.hd hc) h64 fun s3 l out c ys kk g o hp hgt hi hs3 hm3 hl3 => ?_
  have hlen : (ys.map V.int).length ≤ sizeLine := by rw [List.length_map, hl3, sizeLine_eq]; omega
  have hn : H1 l = none := I2.hok.fresh hp
  have J : Inv X pins σ (upd H1 l (.lst (ys.map V.int))) { heap := s3.heap, gens := s3.gens, drawn := s3.drawn, toks := s3.toks, os := s1.os } :=
    Inv.call (s := { s1 with heap := h2, toks := t2 }) (ch := []) I2 (Un.laid kk hp hn) (I2.hok.laid kk hp ⟨hlen, out.toList, c, vals_of_ints hi, hgt⟩) (by rw [g]; exact I2.bare) (fun _ z => nomatch z)
  have e : s3 = { heap := s3.heap, gens := s3.gens, drawn := s3.drawn, toks := s3.toks, os := s1.os } := by
    cases s3
    cases o
    rfl
  rw [e]
  exact ⟨.ref l, _, J, rfl, q1 ys l hs3 (fun j => (hm3 j).trans ⟨fun z => of_decide_eq_true z, fun z => decide_eq_true z⟩) hn⟩
theorem ip_ext : PIp X .Add rExt2 := iop_ext
end
end L3G
namespace L3
open PySem L2
open Evl (Ex ex_rd ex_l ex_t sq_of st_of fresh_back)
/-- the ints, each once, ascending -/
def insZ (x : Int) : List Int → List Int
  | [] => [x]
  | y :: l => if x < y then x :: y :: l else if x = y then y :: l else y :: insZ x l
def setZ : List Int → List Int
  | [] => []
  | x :: l => insZ x (setZ l)
def lc2M {α β : Type} (f : α → Option (List β)) : List α → Option (List β)
  | [] => some []
  | x :: xs => match f x with
    | some ys => (match lc2M f xs with
      | some zs => some (ys ++ zs)
      | none => none)
    | none => none
def fmO {α β : Type} (f : α → Option (Option β)) : List α → Option (List β)
  | [] => some []
  | x :: xs => match f x with
    | some o => (match fmO f xs with
      | some zs => some (o.toList ++ zs)
      | none => none)
    | none => none
def dcMM {α β : Type} (f : α → Option (Int × β)) : List (Int × β) → List α → Option (List (Int × β))
  | kvs, [] => some kvs
  | kvs, x :: xs => match f x with
    | some q => dcMM f (putM kvs q.1 q.2) xs
    | none => none
theorem insZ_mem {x k : Int} : ∀ {l : List Int}, k ∈ insZ x l ↔ k = x ∨ k ∈ l
  | [] => by simp [insZ]
  | y :: l => by
    unfold insZ
    split
    · simp
    · split
      · rename_i e
        rw [e]; simp
      · rw [List.mem_cons, insZ_mem, List.mem_cons]
        exact ⟨fun h => h.elim (fun e => .inr (.inl e)) fun h => h.elim .inl fun h => .inr (.inr h), fun h => h.elim (fun e => .inr (.inl e)) fun h => h.elim .inl fun h => .inr (.inr h)⟩
theorem setZ_mem {k : Int} : ∀ {l : List Int}, k ∈ setZ l ↔ k ∈ l
  | [] => Iff.rfl
  | x :: l => by
    show k ∈ insZ x (setZ l) ↔ _
    rw [insZ_mem, setZ_mem, List.mem_cons]
theorem insZ_lt {x : Int} : ∀ {l : List Int}, l.Pairwise (· < ·) → (insZ x l).Pairwise (· < ·)
  | [], _ => by simp [insZ]
  | y :: l, h => by
    rw [List.pairwise_cons] at h
    unfold insZ
    split
    · rename_i e
      exact List.pairwise_cons.mpr ⟨fun z hz => (List.mem_cons.mp hz).elim (fun q => by rw [q]; exact e) fun q => Int.lt_trans e (h.1 z q), List.pairwise_cons.mpr h⟩
    · split
      · exact List.pairwise_cons.mpr h
      · refine List.pairwise_cons.mpr ⟨fun z hz => ?_, insZ_lt h.2⟩
        rcases insZ_mem.mp hz with q | q
        · omega
        · exact h.1 z q
theorem setZ_lt : ∀ l : List Int, (setZ l).Pairwise (· < ·)
  | [] => .nil
  | _ :: l => insZ_lt (setZ_lt l)
theorem nodup_sub_le : ∀ {l m : List Int}, l.Nodup → (∀ k ∈ l, k ∈ m) → l.length ≤ m.length
  | [], _, _, _ => Nat.zero_le _
  | x :: l, m, h, hs => by
    rw [List.nodup_cons] at h
    have hx := hs x List.mem_cons_self
    have ih := nodup_sub_le (m := m.erase x) h.2 fun k hk => (List.mem_erase_of_ne (fun e => h.1 (by rw [← e]; exact hk))).mpr (hs k (List.mem_cons_of_mem _ hk))
    rw [List.length_erase_of_mem hx] at ih
    have : 0 < m.length := List.length_pos_of_mem hx
    rw [List.length_cons]
    omega
theorem lt_unique : ∀ {l m : List Int}, l.Pairwise (· < ·) → m.Pairwise (· < ·) → (∀ k, k ∈ l ↔ k ∈ m) → l = m := fun {l m} h1 h2 h => by
  have p : l.Perm m := (List.perm_ext_iff_of_nodup (h1.imp fun {a b} h => Int.ne_of_lt h) (h2.imp fun {a b} h => Int.ne_of_lt h)).mpr h
  exact List.Perm.eq_of_pairwise (le := (· ≤ ·)) (fun a b _ _ x y => Int.le_antisymm x y) (h1.imp fun {a b} h => Int.le_of_lt h) (h2.imp fun {a b} h => Int.le_of_lt h) p
section
variable {K : Fg} {M : Fr} {σ : St} {B B' H H' : Hp} {L L1 L2 L3 L' : List Cell} {α β γ δ : Type} {r : Rep α} {s : Rep β} {t : Rep γ} {ta tb tc te tk tv : TE} {tt tt1 tu : TT} {tA : TA} {i j k : Int} {D : Ends} {tz : TS} {wi wi1 : TI} {g g1 : TG}
theorem el_sortSet {xs : List Int} (h : EV K M te σ B L (rLst rInt) xs L') (hl : room2 xs.length 96000 = some ()) (hf : few (setZ xs).length = some ()) : EVL K M (L3G.tSortSet K te) σ B L rInt (setZ xs) L' := fun B1 H e w Q q =>
  h B1 H e w _ fun v B2 H2 e2 w2 hv => by
    obtain ⟨p, vs, rfl, hs, hp⟩ := rl_sc hv
    refine ⟨p, xs, rfl, by rw [← ints_of hp]; exact ex_l w2.b hs, by have := room2_some hl; omega, fun l hn hm => ?_, fun ys l h1 h2 hl => ?_⟩
    · refine Nat.lt_of_le_of_lt ?_ (few_some hf)
      exact nodup_sub_le hn fun k hk => setZ_mem.mpr (hm k hk)
    · rw [lt_unique h1 (setZ_lt xs) fun k => (h2 k).trans setZ_mem.symm]
      exact q l B2 _ e2 (w2.new hl ⟨_, rfl, ints_paired _⟩)
/-- l += a list -/
theorem q_augL {n m : Nat} {p : Addr} {as bs : List α} (w : Own K B M L H) (hs : σ[m]? = some (some (.ref p))) (h : EV K M te σ B L (rLst r) bs L') (hc : L'[n]? = some ⟨p, cLst r, as⟩) (hr : room2 as.length bs.length = some ())
    (q : ∀ B' H', Ex B B' → Own K B' M (L'.set n ⟨p, cLst r, as ++ bs⟩) H' → tz D (σ.set m (some (.ref p))) H') : tSeq (tAug m te rExt2) tz D σ H :=
  ⟨_, hs, h B H (Ex.refl _) w _ fun v B' H' e w' hv => by
    obtain ⟨b, zs, rfl, hb, hp⟩ := hv
    obtain ⟨⟨o', g1, xs, g2, g3⟩, _⟩ := w'.at hc
    have g1 : H' p = some o' := g1
    refine ⟨p, b, xs, zs, rfl, rfl, by rw [g1, g2], w'.b _ _ hb, ?_, q B' _ e (w'.set hc ⟨_, rfl, paired_app g3 hp⟩)⟩
    rw [paired_len g3, paired_len hp]
    exact Evl.sz_of (room2_some hr)⟩
/-- {k: v for ..} -/
theorem ec_dcM {vs : List Nat} {σ' : St} {xs : List α} {kvs : List (Int × β)} (s : Rep β) (hi : EI K M wi σ B L r xs L1) (f : α → Option (Int × β)) (hm : dcMM f [] xs = some kvs) (hr : room xs.length = some ()) (hw : wipe σ vs = σ')
    (hs : ∀ x o v D acc B' H', f x = some o → Ex B B' → Own K B' M (⟨D, cMap s, acc⟩ :: L1) H' → r.is K B' v x → ∀ (PY : V → V → Hp → Prop) (PN : Hp → Prop),
      (∀ y z B2 H2, Ex B' B2 → Own K B2 M (⟨D, cMap s, acc⟩ :: L1) H2 → y = .int o.1 → s.is K B2 z o.2 → PY y z H2) →
      g v σ' H' fun σ2 H2 => wipe σ2 vs = σ' ∧ tYes σ2 H2 fun b H3 => if b = true then tk σ2 H3 fun y H4 => tv σ2 H4 fun z H5 => PY y z H5 else PN H3) :
    ENC K M (tDc wi g tYes tk tv vs) σ B L (cMap s) kvs L1 := fun B1 H e w Q q => by
  refine hi B1 H e w _ fun J B2 H2 e2 w2 wk => ?_
  intro D hD
  subst hw
  have w3 : Own K B2 M (⟨D, cMap s, []⟩ :: L1) (upd H2 D (.dK [])) := w2.new (c := cMap s) hD ⟨[], rfl, .nil⟩
  refine ⟨fun i m H' => m = xs.length - i ∧ i ≤ xs.length ∧ ∃ acc B', Ex B2 B' ∧ Own K B' M (⟨D, cMap s, acc⟩ :: L1) H' ∧ acc.length ≤ i ∧ dcMM f acc (xs.drop i) = some kvs,
    ⟨_, rfl, Nat.zero_le _, [], B2, Ex.refl _, w3, Nat.zero_le _, hm⟩, ?_⟩
  rintro i m H' ⟨rfl, hil, acc, B', eb, w', hacc, hz⟩
  by_cases hl : i = xs.length
  · subst hl
    rw [List.drop_length] at hz
    obtain rfl := Option.some.inj hz
    exact .inl ⟨wk.stop B' _ H' eb w', q D B' H' (e2.trans eb) w'⟩
  · have hlt : i < xs.length := by omega
    rw [List.drop_eq_getElem_cons hlt] at hz
    have hx : xs[i]? = some xs[i] := List.getElem?_eq_getElem hlt
    obtain ⟨g1, g2⟩ := wk.go i xs[i] B' _ H' eb w' hx
    unfold dcMM at hz
    cases hf : f xs[i] with
    | none => rw [hf] at hz; cases hz
    | some o =>
      rw [hf] at hz
      dsimp only at hz
      refine .inr ⟨g1, fun H5 => i + 1 ≤ xs.length ∧ ∃ acc B', Ex B2 B' ∧ Own K B' M (⟨D, cMap s, acc⟩ :: L1) H5 ∧ acc.length ≤ i + 1 ∧ dcMM f acc (xs.drop (i + 1)) = some kvs, fun H5 h5 => ⟨xs.length - (i + 1), by omega, rfl, h5⟩, fun x H4 hy => ?_⟩
      obtain ⟨B4, e4, w4, hrx⟩ := g2 x H4 hy
      have hb := (e.trans e2).trans (eb.trans e4)
      refine hs xs[i] o x D acc B4 H4 hf hb w4 hrx (fun y z H6 => ∃ kvs' k', y = kV k' ∧ H6 D = some (.dK kvs') ∧ kvs'.length < sizeLine ∧ (fun H5 => i + 1 ≤ xs.length ∧ ∃ acc B', Ex B2 B' ∧ Own K B' M (⟨D, cMap s, acc⟩ :: L1) H5 ∧ acc.length ≤ i + 1 ∧ dcMM f acc (xs.drop (i + 1)) = some kvs) (upd H6 D (.dK (putK kvs' k' z)))) _ fun y z B5 H5 e5 w5 hy hz' => ?_
      subst hy
      obtain ⟨⟨o', a1, es, a2, a3⟩, _⟩ := w5.at (i := 0) rfl
      have a1 : H5 D = some o' := a1
      refine ⟨es, Sum.inl o.1, rfl, by rw [a1, a2], ?_, hlt, putM acc o.1 o.2, B5, (eb.trans e4).trans e5, w5.set (i := 0) rfl (c' := cMap s) ⟨_, rfl, entM_put o.1 hz' a3⟩, ?_, hz⟩
      · have hq := room_some hr
        have : es.length = acc.length := paired_len a3
        omega
      · have := putM_len acc o.1 o.2
        omega
/-! two fors in a comprehension -/
theorem lc2_in {vs1 : List Nat} {σ2 σ3 : St} {Dd : Addr} {acc : List β} {ys : List γ} {out : List β} (s : Rep β) {Nx : Hp → Prop} (hi1 : EI K M wi1 σ2 B (⟨Dd, cLst s, acc⟩ :: L1) t ys (⟨Dd, cLst s, acc⟩ :: L1)) (w : Own K B M (⟨Dd, cLst s, acc⟩ :: L1) H)
    (f : γ → Option (Option β)) (hm : fmO f ys = some out) (ha : acc.length + out.length < sizeLine) (hw : wipe σ2 vs1 = σ3)
    (hs : ∀ y o v acc' B' H', f y = some o → Ex B B' → Own K B' M (⟨Dd, cLst s, acc'⟩ :: L1) H' → t.is K B' v y → ∀ (PY : VK) (PN : Hp → Prop),
      (∀ z B2 H2 b, o = some b → Ex B' B2 → Own K B2 M (⟨Dd, cLst s, acc'⟩ :: L1) H2 → s.is K B2 z b → PY z H2) → (∀ B2 H2, o = none → Ex B' B2 → Own K B2 M (⟨Dd, cLst s, acc'⟩ :: L1) H2 → PN H2) →
      g1 v σ3 H' fun σ4 H5 => wipe σ4 vs1 = σ3 ∧ tt1 σ4 H5 fun b H6 => if b = true then te σ4 H6 PY else PN H6)
    (q : ∀ B2 H2, Ex B B2 → Own K B2 M (⟨Dd, cLst s, acc ++ out⟩ :: L1) H2 → Nx H2) :
    wi1 σ2 H fun J1 H4 => ∃ W1 : Nat → Nat → Hp → Prop, (∃ m, W1 0 m H4) ∧ ∀ j k H, W1 j k H →
      (J1.stop j H ∧ Nx H) ∨ (J1.go j H ∧ ∃ Nx1 : Hp → Prop, (∀ H', Nx1 H' → ∃ k', k' < k ∧ W1 (j + 1) k' H') ∧ ∀ x H', J1.yld j H x H' → g1 x (wipe σ2 vs1) H' fun σ3 H5 => wipe σ3 vs1 = wipe σ2 vs1 ∧ tt1 σ3 H5 fun b H6 =>
        if b = true then te σ3 H6 fun y H7 => ∃ acc, H7 Dd = some (.lst acc) ∧ acc.length < sizeLine ∧ Nx1 (upd H7 Dd (.lst (acc ++ [y]))) else Nx1 H6) := by
  refine hi1 B H (Ex.refl _) w _ fun J B2 H2 e2 w2 wk => ?_
  subst hw
  refine ⟨fun i m H' => m = ys.length - i ∧ i ≤ ys.length ∧ ∃ a1 B', Ex B2 B' ∧ Own K B' M (⟨Dd, cLst s, a1⟩ :: L1) H' ∧ ∃ zs, fmO f (ys.drop i) = some zs ∧ a1 ++ zs = acc ++ out,
    ⟨_, rfl, Nat.zero_le _, acc, B2, Ex.refl _, w2, out, hm, rfl⟩, ?_⟩
  rintro i m H' ⟨rfl, hil, a1, B', eb, w', zs, hz, hzs⟩
  by_cases hl : i = ys.length
  · subst hl
    rw [List.drop_length] at hz
    obtain rfl := Option.some.inj hz
    rw [List.append_nil] at hzs
    subst hzs
    exact .inl ⟨wk.stop B' _ H' eb w', q B' H' (e2.trans eb) w'⟩
  · have hlt : i < ys.length := by omega
    rw [List.drop_eq_getElem_cons hlt] at hz
    have hx : ys[i]? = some ys[i] := List.getElem?_eq_getElem hlt
    obtain ⟨g2, g3⟩ := wk.go i ys[i] B' _ H' eb w' hx
    unfold fmO at hz
    cases hf : f ys[i] with
    | none => rw [hf] at hz; cases hz
    | some o =>
      rw [hf] at hz
      dsimp only at hz
      cases hc : fmO f (ys.drop (i + 1)) with
      | none => rw [hc] at hz; cases hz
      | some zs' =>
        rw [hc] at hz
        obtain rfl := Option.some.inj hz
        refine .inr ⟨g2, fun H5 => i + 1 ≤ ys.length ∧ ∃ a1 B', Ex B2 B' ∧ Own K B' M (⟨Dd, cLst s, a1⟩ :: L1) H5 ∧ ∃ zs, fmO f (ys.drop (i + 1)) = some zs ∧ a1 ++ zs = acc ++ out, fun H5 h5 => ⟨ys.length - (i + 1), by omega, rfl, h5⟩, fun x H4 hy => ?_⟩
        obtain ⟨B4, e4, w4, hrx⟩ := g3 x H4 hy
        refine hs ys[i] o x a1 B4 H4 hf (e2.trans (eb.trans e4)) w4 hrx (fun y H6 => ∃ acc', H6 Dd = some (.lst acc') ∧ acc'.length < sizeLine ∧ (fun H5 => i + 1 ≤ ys.length ∧ ∃ a1 B', Ex B2 B' ∧ Own K B' M (⟨Dd, cLst s, a1⟩ :: L1) H5 ∧ ∃ zs, fmO f (ys.drop (i + 1)) = some zs ∧ a1 ++ zs = acc ++ out) (upd H6 Dd (.lst (acc' ++ [y])))) _ (fun y B5 H5 b' ho e5 w5 hyb => ?_) (fun B5 H5 ho e5 w5 => ?_)
        · subst ho
          obtain ⟨⟨o', b1, vs', b2, b3⟩, _⟩ := w5.at (i := 0) rfl
          have b1 : H5 Dd = some o' := b1
          have hle : vs'.length = a1.length := paired_len b3
          have hle2 := congrArg List.length hzs
          simp only [List.length_append, Option.toList_some, List.length_singleton] at hle2
          refine ⟨vs', by rw [b1, b2], ?_, hlt, a1 ++ [b'], B5, (eb.trans e4).trans e5, w5.set (i := 0) rfl (c' := cLst s) ⟨_, rfl, paired_app b3 (.cons hyb .nil)⟩, zs', hc, by simpa using hzs⟩
          omega
        · subst ho
          exact ⟨hlt, a1, B5, (eb.trans e4).trans e5, w5, zs', hc, by simpa using hzs⟩
theorem el_lc2 {vs vs1 : List Nat} {σ' : St} {xs : List α} {zs : List β} (s : Rep β) (hi : EI K M wi σ B L r xs L1) (f : α → Option (List β)) (hm : lc2M f xs = some zs) (hr : room zs.length = some ()) (hw : wipe σ vs = σ')
    (hs : ∀ x ys v Dd acc B' H', f x = some ys → acc.length + ys.length < sizeLine → Ex B B' → Own K B' M (⟨Dd, cLst s, acc⟩ :: L1) H' → r.is K B' v x → ∀ (Nx : Hp → Prop),
      (∀ B2 H2, Ex B' B2 → Own K B2 M (⟨Dd, cLst s, acc ++ ys⟩ :: L1) H2 → Nx H2) →
      g v σ' H' fun σ2 H2 => wipe σ2 vs = σ' ∧ tt σ2 H2 fun b H3 => if b = true then wi1 σ2 H3 fun J1 H4 => ∃ W1 : Nat → Nat → Hp → Prop, (∃ m, W1 0 m H4) ∧ ∀ j k H, W1 j k H →
      (J1.stop j H ∧ Nx H) ∨ (J1.go j H ∧ ∃ Nx1 : Hp → Prop, (∀ H', Nx1 H' → ∃ k', k' < k ∧ W1 (j + 1) k' H') ∧ ∀ x H', J1.yld j H x H' → g1 x (wipe σ2 vs1) H' fun σ3 H5 => wipe σ3 vs1 = wipe σ2 vs1 ∧ tt1 σ3 H5 fun b H6 =>
        if b = true then te σ3 H6 fun y H7 => ∃ acc, H7 Dd = some (.lst acc) ∧ acc.length < sizeLine ∧ Nx1 (upd H7 Dd (.lst (acc ++ [y]))) else Nx1 H6) else Nx H3) :
    EVL K M (tLc2 wi g tt wi1 g1 tt1 te vs vs1) σ B L s zs L1 := fun B1 H e w Q q => by
  refine hi B1 H e w _ fun J B2 H2 e2 w2 wk => ?_
  intro Dd hD
  subst hw
  have w3 : Own K B2 M (⟨Dd, cLst s, []⟩ :: L1) (upd H2 Dd (.lst [])) := w2.new hD ⟨[], rfl, .nil⟩
  refine ⟨fun i m H' => m = xs.length - i ∧ i ≤ xs.length ∧ ∃ acc B', Ex B2 B' ∧ Own K B' M (⟨Dd, cLst s, acc⟩ :: L1) H' ∧ ∃ ws, lc2M f (xs.drop i) = some ws ∧ acc ++ ws = zs,
    ⟨_, rfl, Nat.zero_le _, [], B2, Ex.refl _, w3, zs, hm, rfl⟩, ?_⟩
  rintro i m H' ⟨rfl, hil, acc, B', eb, w', ws, hz, hzs⟩
  by_cases hl : i = xs.length
  · subst hl
    rw [List.drop_length] at hz
    obtain rfl := Option.some.inj hz
    rw [List.append_nil] at hzs
    subst hzs
    exact .inl ⟨wk.stop B' _ H' eb w', q Dd B' H' (e2.trans eb) w'⟩
  · have hlt : i < xs.length := by omega
    rw [List.drop_eq_getElem_cons hlt] at hz
    have hx : xs[i]? = some xs[i] := List.getElem?_eq_getElem hlt
    obtain ⟨g2, g3⟩ := wk.go i xs[i] B' _ H' eb w' hx
    unfold lc2M at hz
    cases hf : f xs[i] with
    | none => rw [hf] at hz; cases hz
    | some ys =>
      rw [hf] at hz
      dsimp only at hz
      cases hc : lc2M f (xs.drop (i + 1)) with
      | none => rw [hc] at hz; cases hz
      | some ws' =>
        rw [hc] at hz
        obtain rfl := Option.some.inj hz
        refine .inr ⟨g2, fun H5 => i + 1 ≤ xs.length ∧ ∃ acc B', Ex B2 B' ∧ Own K B' M (⟨Dd, cLst s, acc⟩ :: L1) H5 ∧ ∃ ws, lc2M f (xs.drop (i + 1)) = some ws ∧ acc ++ ws = zs, fun H5 h5 => ⟨xs.length - (i + 1), by omega, rfl, h5⟩, fun x H4 hy => ?_⟩
        obtain ⟨B4, e4, w4, hrx⟩ := g3 x H4 hy
        have hle := congrArg List.length hzs
        simp only [List.length_append] at hle
        have hq := room_some hr
        refine hs xs[i] ys x Dd acc B4 H4 hf ?_ ((e.trans e2).trans (eb.trans e4)) w4 hrx _ fun B5 H5 e5 w5 => ⟨hlt, acc ++ ys, B5, (eb.trans e4).trans e5, w5, ws', hc, by simpa using hzs⟩
        omega
theorem lc2_go {G N : Hp → Prop} (h : G H) : tYes σ H fun b H3 => if b = true then G H3 else N H3 := by
  show if true = true then G H else N H
  rw [if_pos rfl]; exact h
theorem nt_map : NT (cMap r) := ⟨fun h => by
  obtain ⟨es, h, _⟩ := h
  subst h; trivial⟩
end
end L3

/-! sorted(xs), xs a list of data of one kind, nested -/
namespace L3G
open PySem PySem.Spec PyProof.Rows L2
/-- the values of vs as their data ds stand sorted -/
def sortVD (vs : List V) (ds : List PyData) : List V := ((vs.zip ds).mergeSort fun p q => !PySem.W.dataLt q.2 p.2).map (·.1)
def rSortDat (K : PySem.W.Frag) : List V → Hp → VK → Prop := fun xs H Q => ∃ (a : Addr) (vs : List V) (ds : List PyData), xs = [.ref a] ∧ SqL K H a vs ∧ DpAll K H vs ds ∧ PySem.W.AllAlike ds ∧ PySem.W.Sortable ds ∧ (∀ d ∈ ds, d.depth ≤ 60) ∧
  ∀ p, H p = none → Q (.ref p) (upd H p (.lst (sortVD vs ds)))
theorem vals_each {P : V → Value → Prop} (hP : ∀ v u, P v u → RelV v u) : ∀ {us : List Value} {ps : List (V × PyData)}, PySem.W.EachIs (fun u (p : V × PyData) => RelV p.1 u) us ps → Vals (ps.map (·.1)) us
  | _, _, .nil => .nil
  | _, _, .cons h t => .cons h (vals_each hP t)
theorem each_zip {K : PySem.W.Frag} {H : Hp} : ∀ {vs : List V} {us : List Value} {ds : List PyData}, Vals vs us → DpAll K H vs ds → PySem.W.EachIs (fun u (p : V × PyData) => RelV p.1 u) us (vs.zip ds)
  | [], _, _, .nil, .nil => .nil
  | _ :: _, _, _, .cons r t, .cons _ h => .cons r (each_zip t h)
theorem each_key {α : Type} {P : Value → α → Prop} {K : PySem.W.Frag} {H : Hp} (f : PyData → α) {ms : List PyData} (hf : ∀ u v d, RelV v u → Dp K H v d → d ∈ ms → P u (f d)) : ∀ {vs : List V} {us : List Value} {ds : List PyData}, (∀ d ∈ ds, d ∈ ms) → Vals vs us → DpAll K H vs ds → PySem.W.EachIs (fun u (p : V × PyData) => P u (f p.2)) us (vs.zip ds)
  | [], _, _, _, .nil, .nil => .nil
  | _ :: _, _, _, hm, .cons r t, .cons d h => .cons (hf _ _ _ r d (hm _ List.mem_cons_self)) (each_key f hf (fun d hd => hm d (List.mem_cons_of_mem _ hd)) t h)
theorem each_dat {K : PySem.W.Frag} {H : Hp} {R : Value → PyData → Prop} (hf : ∀ u v d, RelV v u → Dp K H v d → R u d) : ∀ {vs : List V} {us : List Value} {ds : List PyData}, Vals vs us → DpAll K H vs ds → PySem.W.EachIs R us ds
  | [], _, _, .nil, .nil => .nil
  | _ :: _, _, _, .cons r t, .cons d h => .cons (hf _ _ _ r d) (each_dat hf t h)
theorem dpAll_len' {K : PySem.W.Frag} {H : Hp} : ∀ {vs : List V} {ds : List PyData}, DpAll K H vs ds → vs.length = ds.length
  | _, _, .nil => rfl
  | _, _, .cons _ t => congrArg (· + 1) (dpAll_len' t)
mutual
theorem reads_keeps {h h' : Heap} (k : ∀ b o, h.get? b = some o → h'.get? b = some o) : ∀ {v : Value} {d : PyData} {as : List Addr}, Reads h v d as → Reads h' v d as
  | _, _, _, .none => .none
  | _, _, _, .bool b => .bool b
  | _, _, _, .int i t => .int i t
  | _, _, _, .str x t => .str x t
  | _, _, _, .list a b c d => .list (k _ _ a) b c (readsAll_keeps k d)
  | _, _, _, .tuple a b c d => .tuple (k _ _ a) b c (readsAll_keeps k d)
  | _, _, _, .dict a b c d e => .dict (k _ _ a) b c (readsAll_keeps k d) (readsAll_keeps k e)
theorem readsAll_keeps {h h' : Heap} (k : ∀ b o, h.get? b = some o → h'.get? b = some o) : ∀ {vs : List Value} {ds : List PyData} {as : List Addr}, ReadsAll h vs ds as → ReadsAll h' vs ds as
  | _, _, _, .nil => .nil
  | _, _, _, .cons a b => .cons (reads_keeps k a) (readsAll_keeps k b)
end
section
variable {X : Cx}
theorem cr_sortDat (hu : X.A.units + 64 < cLine) : CallR X (.builtin "sorted") (rSortDat X.K) := by
  intro pins s σ H xs us Q I r h
  obtain ⟨a, vs, ds, rfl, hs, hd, hal, hso, hdep, q⟩ := h
  obtain ⟨u, rfl, ru⟩ := vals1 r
  obtain rfl : u = Value.ref a := ru
  obtain ⟨its, rv, hl, hz⟩ := I.list hs
  have hlen : its.length ≤ sizeLine := by rw [← rv.length]; exact hz
  have rd0 : PySem.W.EachIs (fun v d => ∃ as, Reads s.heap v d as) its ds := each_dat (fun u v d r h => Dp.reads I d v u h r) rv hd
  have kp : ∀ b o, s.heap.get? b = some o → (PySem.W.sortingHeap (PySem.W.copyHeap s.heap its) (s.heap.objs.size + 1) its).get? b = some o := fun b o e => PySem.W.sorting_copy_old e
  refine PySem.W.sorted_vals (κ := PySem.W.dataKind (PySem.W.sortingHeap (PySem.W.copyHeap s.heap its) (s.heap.objs.size + 1) its) ds) hl.isList (PySem.W.SortsAt.data (s := { s with heap := PySem.W.sortingHeap (PySem.W.copyHeap s.heap its) (s.heap.objs.size + 1) its }) (rd0.mono fun v d ⟨as, e⟩ => ⟨as, reads_keeps kp e⟩) hal hso fun d hd => ?_) hlen ?_
  · have := hdep d hd
    have e1 : X.A.in1.in1.units = X.A.units + 2 := rfl
    omega
  · have out := PySem.W.sortVals_each (κ := PySem.W.dataKind (PySem.W.sortingHeap (PySem.W.copyHeap s.heap its) (s.heap.objs.size + 1) its) ds) (R := fun u (p : V × PyData) => RelV p.1 u) (rev := false) (ks := its) (vs := its) (bs := vs.zip ds) (fun p => PySem.W.keyToks p.2) (each_zip rv hd)
      (each_key (P := fun u k => (PySem.W.dataKind (PySem.W.sortingHeap (PySem.W.copyHeap s.heap its) (s.heap.objs.size + 1) its) ds).keyOf u = some k) PySem.W.keyToks (ms := ds) (fun u v d r h hm => by
        obtain ⟨as, e⟩ := Dp.reads I d v u h r
        exact PySem.W.dataKind_some hal hm (reads_keeps kp e)) (fun _ h => h) rv hd)
    have out := vals_each (P := RelV) (fun _ _ h => h) out
    obtain ⟨n, hn⟩ := sortedAll_at s.heap its (PySem.W.sortVals (PySem.W.dataKind (PySem.W.sortingHeap (PySem.W.copyHeap s.heap its) (s.heap.objs.size + 1) its) ds) false its its).toArray
    have hp : s.heap.objs.size ≤ s.heap.objs.size + 1 := Nat.le_succ _
    refine ⟨.ref (s.heap.objs.size + 1), upd H (s.heap.objs.size + 1) (.lst (sortVD vs ds)), I.laid (t' := s.toks) (fun b o e => sortedAll_old e) hp ⟨?_, _, n, out, hn⟩, rfl, q _ (I.hok.fresh hp)⟩
    show (sortVD vs ds).length ≤ sizeLine
    unfold sortVD
    rw [List.length_map, (List.mergeSort_perm _ _).length_eq, List.length_zip, dpAll_len' hd, Nat.min_self, ← dpAll_len' hd]
    exact hz
end
end L3G
namespace L3
open PySem L2
open Evl (Ex ex_rd ex_l ex_t sq_of st_of fresh_back)
/-- data of one kind are alike, place by place -/
structure DA {α : Type} (f : α → PyData) : Prop where
  al : ∀ a b, PySem.W.alike (f a) (f b) = true
theorem da_int : DA PyData.int := ⟨fun _ _ => rfl⟩
theorem da_str : DA PyData.str := ⟨fun _ _ => rfl⟩
section
variable {α β γ : Type} {f : α → PyData} {g : β → PyData} {h : γ → PyData}
theorem alikeAll_map (d : DA f) : ∀ l m : List α, PySem.W.alikeAll (l.map f) (m.map f) = true
  | [], _ => by simp [PySem.W.alikeAll]
  | _ :: _, [] => by simp [PySem.W.alikeAll]
  | a :: l, b :: m => by
    rw [List.map_cons, List.map_cons]
    simp only [PySem.W.alikeAll, d.al a b, alikeAll_map d l m, Bool.and_self]
theorem da_tup (d : DA f) : DA (dTup f) := ⟨fun a b => by simpa [dTup, PySem.W.alike] using alikeAll_map d a b⟩
theorem da_lst (d : DA f) : DA (dLst f) := ⟨fun a b => by simpa [dLst, PySem.W.alike] using alikeAll_map d a b⟩
theorem da_T2 (d : DA f) (e : DA g) : DA (dT2 f g) := ⟨fun a b => by simp [dT2, PySem.W.alike, PySem.W.alikeAll, d.al, e.al]⟩
theorem da_T3 (d : DA f) (e : DA g) (c : DA h) : DA (dT3 f g h) := ⟨fun a b => by simp [dT3, PySem.W.alike, PySem.W.alikeAll, d.al, e.al, c.al]⟩
end
/-- such data may be sorted by Python -/
structure DSo {α : Type} (f : α → PyData) : Prop where
  so : ∀ l : List α, PySem.W.Sortable (l.map f)
section
variable {α β γ : Type} {f : α → PyData} {g : β → PyData} {h : γ → PyData}
theorem so_lst : DSo (dLst f) := ⟨fun l => .inr fun d hd => by
  obtain ⟨a, _, rfl⟩ := List.mem_map.mp hd
  exact ⟨(fun e => by unfold dLst at e; cases e), (fun xs e => by unfold dLst at e; cases e)⟩⟩
theorem so_T2 : DSo (dT2 f g) := ⟨fun l => .inl fun d hd => by
  obtain ⟨a, _, rfl⟩ := List.mem_map.mp hd
  exact ⟨_, _, rfl⟩⟩
theorem so_T3 : DSo (dT3 f g h) := ⟨fun l => .inl fun d hd => by
  obtain ⟨a, _, rfl⟩ := List.mem_map.mp hd
  exact ⟨_, _, rfl⟩⟩
end
/-- sorted(xs) of data -/
def sortBy {α : Type} (f : α → PyData) (l : List α) : List α := l.mergeSort fun a b => !PySem.W.dataLt (f b) (f a)
section
variable {K : Fg} {M : Fr} {σ : St} {B : Hp} {L L' : List Cell} {α : Type} {r : Rep α} {te : TE} {f : α → PyData} {n : Nat}
theorem paired_zip : ∀ {vs : List V} {as : List α}, Paired (r.is K B) vs as → (∀ p ∈ vs.zip as, r.is K B p.1 p.2) ∧ (vs.zip as).map (·.1) = vs ∧ (vs.zip as).map (·.2) = as
  | _, _, .nil => ⟨fun _ h => absurd h (by simp), rfl, rfl⟩
  | _, _, .cons h t => by
    obtain ⟨h1, h2, h3⟩ := paired_zip t
    refine ⟨fun p hp => ?_, ?_, ?_⟩
    · rw [List.zip_cons_cons] at hp
      rcases List.mem_cons.mp hp with e | hp
      · rw [e]; exact h
      · exact h1 p hp
    · rw [List.zip_cons_cons, List.map_cons, h2]
    · rw [List.zip_cons_cons, List.map_cons, h3]
theorem paired_of_all : ∀ (l : List (V × α)), (∀ p ∈ l, r.is K B p.1 p.2) → Paired (r.is K B) (l.map (·.1)) (l.map (·.2))
  | [], _ => .nil
  | p :: l, h => .cons (h p List.mem_cons_self) (paired_of_all l fun q hq => h q (List.mem_cons_of_mem _ hq))
theorem sortVD_is {vs : List V} {as : List α} (hp : Paired (r.is K B) vs as) : Paired (r.is K B) (L3G.sortVD vs (as.map f)) (sortBy f as) := by
  obtain ⟨h1, h2, h3⟩ := paired_zip hp
  have e1 : L3G.sortVD vs (as.map f) = ((vs.zip as).mergeSort fun p q => !PySem.W.dataLt (f q.2) (f p.2)).map (·.1) := by
    unfold L3G.sortVD
    rw [List.zip_map_right, ← PySem.W.sort_maps (r := fun (p q : V × α) => !PySem.W.dataLt (f q.2) (f p.2)) (Prod.map id f) fun a _ b _ => rfl, List.map_map]
    rfl
  have e2 : sortBy f as = ((vs.zip as).mergeSort fun p q => !PySem.W.dataLt (f q.2) (f p.2)).map (·.2) := by
    unfold sortBy
    rw [PySem.W.sort_maps (s := fun (a b : α) => !PySem.W.dataLt (f b) (f a)) (fun p : V × α => p.2) fun a _ b _ => rfl, h3]
  rw [e1, e2]
  exact paired_of_all _ fun p hp => h1 p ((List.mergeSort_perm _ _).mem_iff.mp hp)
theorem el_sortDat {xs : List α} (D : DR r f n) (hn : n ≤ 60) (A : DA f) (S : DSo f) (h : EV K M te σ B L (rLst r) xs L') : EVL K M (tCB (L3G.rSortDat K) (tCons te tNil)) σ B L r (sortBy f xs) L' := fun B1 H e w Q q =>
  h B1 H e w _ fun v B2 H2 e2 w2 hv => by
    obtain ⟨p, vs, rfl, hs, hp⟩ := rl_sc hv
    refine ⟨p, vs, xs.map f, rfl, ex_l w2.b hs, dpAll_mono w2.b (dpAll_of (D.dp K B2) hp), fun d hd d' hd' => ?_, S.so xs, fun d hd => ?_, fun l hl => q l B2 _ e2 (w2.new hl ⟨_, rfl, sortVD_is hp⟩)⟩
    · obtain ⟨a, _, rfl⟩ := List.mem_map.mp hd
      obtain ⟨b, _, rfl⟩ := List.mem_map.mp hd'
      exact A.al a b
    · obtain ⟨a, _, rfl⟩ := List.mem_map.mp hd
      exact Nat.le_trans (D.dep a) hn
end
end L3

/-! a list of own lists: its rows may change, each by a name of its own -/
namespace L3
open PySem L2
open Evl (Ex ex_rd ex_l ex_t sq_of st_of fresh_back)
def cAdr (m : Nat) : CRep (List Addr) := ⟨fun _ _ o ps => o = .lst (ps.map V.ref) ∧ ps.length = m, fun _ h => h⟩
section
variable {α : Type}
def rowsL (r : Rep α) (ps : List Addr) (rs : List (List α)) : List Cell := (ps.zip rs).map fun q => ⟨q.1, cLst r, q.2⟩
def rowsC (p : Addr) (ps : List Addr) (r : Rep α) (rs : List (List α)) : List Cell := ⟨p, cAdr rs.length, ps⟩ :: rowsL r ps rs
theorem rowsL_at {r : Rep α} {ps : List Addr} {rs : List (List α)} {j : Nat} {q : Addr} {x : List α} (h1 : ps[j]? = some q) (h2 : rs[j]? = some x) : (rowsL r ps rs)[j]? = some ⟨q, cLst r, x⟩ := by
  unfold rowsL
  rw [List.getElem?_map, (List.getElem?_zip_eq_some (z := (q, x))).mpr ⟨h1, h2⟩]
  rfl
theorem rowsL_set {r : Rep α} : ∀ {ps : List Addr} {rs : List (List α)} {j : Nat} {q : Addr} {x : List α}, ps[j]? = some q → (rowsL r ps rs).set j ⟨q, cLst r, x⟩ = rowsL r ps (rs.set j x)
  | [], _, _, _, _, h => by simp at h
  | p :: ps, [], j, q, x, h => by cases j <;> rfl
  | p :: ps, y :: rs, 0, q, x, h => by
    obtain rfl : p = q := by simpa using h
    rfl
  | p :: ps, y :: rs, j + 1, q, x, h => by
    show _ :: (rowsL r ps rs).set j _ = _ :: rowsL r ps (rs.set j x)
    rw [rowsL_set (by simpa using h)]
theorem rowsL_keys {r : Rep α} : ∀ {ps : List Addr} {rs : List (List α)}, ps.length = rs.length → (rowsL r ps rs).map (·.p) = ps
  | [], [], _ => rfl
  | [], _ :: _, h => by simp at h
  | _ :: _, [], h => by simp at h
  | p :: ps, x :: rs, h => by
    show p :: (rowsL r ps rs).map (·.p) = _
    rw [rowsL_keys (by simpa using h)]
theorem head_at (A : List Cell) {r : Rep α} {p : Addr} {ps : List Addr} {rs : List (List α)} : (A ++ rowsC p ps r rs)[A.length]? = some ⟨p, cAdr rs.length, ps⟩ := by
  rw [List.getElem?_append_right (Nat.le_refl _), Nat.sub_self]
  rfl
theorem row_at (A : List Cell) {r : Rep α} {p : Addr} {ps : List Addr} {rs : List (List α)} {j : Nat} {q : Addr} {x : List α} (h1 : ps[j]? = some q) (h2 : rs[j]? = some x) : (A ++ rowsC p ps r rs)[A.length + (j + 1)]? = some ⟨q, cLst r, x⟩ := by
  rw [List.getElem?_append_right (Nat.le_add_right _ _), Nat.add_sub_cancel_left]
  exact rowsL_at h1 h2
theorem row_set (A : List Cell) {r : Rep α} {p : Addr} {ps : List Addr} {rs : List (List α)} {j : Nat} {q : Addr} {x : List α} (h1 : ps[j]? = some q) : (A ++ rowsC p ps r rs).set (A.length + (j + 1)) ⟨q, cLst r, x⟩ = A ++ rowsC p ps r (rs.set j x) := by
  rw [List.set_append_right _ _ (Nat.le_add_right _ _), Nat.add_sub_cancel_left]
  show A ++ (_ :: (rowsL r ps rs).set j _) = A ++ (⟨p, cAdr (rs.set j x).length, ps⟩ :: _)
  rw [rowsL_set h1, List.length_set]
end
section
variable {K : Fg} {M : Fr} {σ : St} {B B' H H' : Hp} {A L L1 L2 L' : List Cell} {α β γ δ : Type} {r : Rep α} {s : Rep β} {t : Rep γ} {ta tb tc te tk : TE} {tt tu : TT} {tA : TA} {i j k : Int} {D : Ends} {tz : TS} {wi : TI} {g : TG} {p : Addr} {ps : List Addr} {rs : List (List α)}
/-- what stands at the rows -/
theorem Own.rows (w : Own K B M (A ++ rowsC p ps r rs) H) : H p = some (.lst (ps.map V.ref)) ∧ ps.length = rs.length := by
  obtain ⟨⟨o, h1, h2, h3⟩, _⟩ := w.at (head_at A)
  exact ⟨by rw [← h2]; exact h1, h3⟩
theorem Own.row (w : Own K B M (A ++ rowsC p ps r rs) H) {j : Nat} {q : Addr} (hq : ps[j]? = some q) : (A ++ rowsC p ps r rs)[A.length + (j + 1)]? = some ⟨q, cLst r, rs.getD j []⟩ := by
  have hl := w.rows.2
  have hj : j < rs.length := by have := (List.getElem?_eq_some_iff.mp hq).1; omega
  have e : rs[j]? = some (rs.getD j []) := by
    rw [List.getD_eq_getElem?_getD, List.getElem?_eq_getElem hj]; rfl
  exact row_at A hq e
/-- row = rows[i] -/
theorem q_asgRow {n m : Nat} {jj : Nat} (w : Own K B M (A ++ rowsC p ps r rs) H) (hs : σ[m]? = some (some (.ref p))) (hb : EV K M tb σ B (A ++ rowsC p ps r rs) rInt i (A ++ rowsC p ps r rs)) (hi : ixO rs.length i = some jj)
    (q : ∀ q B' H', ps[jj]? = some q → Ex B B' → Own K B' M (A ++ rowsC p ps r rs) H' → tz D (σ.set n (some (.ref q))) H') : tSeq (tAsg (tOp (rIx K) (tVar m) tb) (gName n)) tz D σ H :=
  ⟨_, hs, hb B H (Ex.refl _) w _ fun y B2 H2 e2 w2 hy => by
    obtain ⟨h1, h2⟩ := w2.rows
    have hi2 : ixN rs.length i = some jj := hi
    have hj : jj < ps.length := by rw [h2]; exact (ixN_seq hi2).2.1
    refine .inl ⟨p, ps.map V.ref, i, .ref ps[jj], rfl, hy, sq_of h1, ?_, q ps[jj] B2 H2 (List.getElem?_eq_getElem hj) e2 w2⟩
    unfold atI
    rw [List.length_map, h2, hi2]
    show (ps.map V.ref)[jj]? = _
    rw [List.getElem?_map, List.getElem?_eq_getElem hj]
    rfl⟩
/-- row[k], row a name of a row -/
theorem ev_rowGet {n : Nat} {jj : Nat} {q : Addr} {a : α} (hs : σ[n]? = some (some (.ref q))) (hq : ps[jj]? = some q) (hb : EV K M tb σ B (A ++ rowsC p ps r rs) rInt k (A ++ rowsC p ps r rs)) (hx : ixL (rs.getD jj []) k = some a) : EV K M (tOp (rIx K) (tVar n) tb) σ B (A ++ rowsC p ps r rs) r a (A ++ rowsC p ps r rs) := fun B1 H e w Q qq =>
  ev_ixC (r := r) (n := A.length + (jj + 1)) (ev_varR hs) hb (w.row hq) hx B1 H e w Q qq
/-- row[i] = v -/
theorem q_setRow {n : Nat} {jj l : Nat} {q : Addr} {a : α} (w : Own K B M L H) (h : EV K M te σ B L r a L1) (hs : σ[n]? = some (some (.ref q))) (hq : ps[jj]? = some q) (hb : EV K M tb σ B L1 rInt i (A ++ rowsC p ps r rs)) (hi : ixO (rs.getD jj []).length i = some l)
    (qq : ∀ B' H', Ex B B' → Own K B' M (A ++ rowsC p ps r (rs.set jj ((rs.getD jj []).set l a))) H' → tz D σ H') : tSeq (tAsg te (gSub (tVar n) tb rSetL)) tz D σ H :=
  h B H (Ex.refl _) w _ fun v B1 H1 e1 w1 hv => ⟨_, hs, hb B1 H1 e1 w1 _ fun y B2 H2 e2 w2 hy => by
    have hc := w2.row hq
    obtain ⟨⟨o', g1, xs, g2, g3⟩, _⟩ := w2.at hc
    have g1 : H2 q = some o' := g1
    have w3 := w2.set hc (c' := cLst r) (o := .lst (xs.set l v)) ⟨_, rfl, paired_set (r.mono e2 hv) l g3⟩
    rw [row_set A hq] at w3
    exact ⟨q, xs, i, l, rfl, hy, by rw [g1, g2], by rw [paired_len g3]; exact hi, qq B2 _ (e1.trans e2) w3⟩⟩
/-- rows[i][k] -/
theorem ev_rowsGet {m : Nat} {x : List α} {a : α} (hs : σ[m]? = some (some (.ref p))) (hi : EV K M ta σ B (A ++ rowsC p ps r rs) rInt i (A ++ rowsC p ps r rs)) (hx : ixL rs i = some x) (hb : EV K M tb σ B (A ++ rowsC p ps r rs) rInt k (A ++ rowsC p ps r rs)) (ha : ixL x k = some a) :
    EV K M (tOp (rIx K) (tOp (rIx K) (tVar m) ta) tb) σ B (A ++ rowsC p ps r rs) r a (A ++ rowsC p ps r rs) := fun B1 H e w Q qq =>
  ⟨_, hs, hi B1 H e w _ fun y B2 H2 e2 w2 hy => by
    obtain ⟨h1, h2⟩ := w2.rows
    unfold ixL atI at hx
    cases hn : ixN rs.length i with
    | none => rw [hn] at hx; cases hx
    | some jj =>
      rw [hn] at hx
      have hx : rs[jj]? = some x := hx
      have hj : jj < ps.length := by rw [h2]; exact (List.getElem?_eq_some_iff.mp hx).1
      refine .inl ⟨p, ps.map V.ref, i, .ref ps[jj], rfl, hy, sq_of h1, ?_, ?_⟩
      · unfold atI
        rw [List.length_map, h2, hn]
        show (ps.map V.ref)[jj]? = _
        rw [List.getElem?_map, List.getElem?_eq_getElem hj]
        rfl
      · have hq : ps[jj]? = some ps[jj] := List.getElem?_eq_getElem hj
        refine hb B2 H2 (e.trans e2) w2 _ fun z B3 H3 e3 w3 hz => ?_
        obtain ⟨⟨o', g1, xs, g2, g3⟩, _⟩ := w3.at (w3.row hq)
        have g1 : H3 ps[jj] = some o' := g1
        have eg : rs.getD jj [] = x := by rw [List.getD_eq_getElem?_getD, hx]; rfl
        rw [eg] at g3
        obtain ⟨u, e9, hu⟩ := atI_paired g3 ha
        exact .inl ⟨ps[jj], xs, k, u, rfl, hz, sq_of (by rw [g1, g2]), e9, qq u B3 H3 (e2.trans e3) w3 hu⟩⟩
/-- rows[i][k] = v -/
theorem q_setRow2 {m : Nat} {jj l : Nat} {a : α} (w : Own K B M L H) (h : EV K M te σ B L r a (A ++ rowsC p ps r rs)) (hs : σ[m]? = some (some (.ref p))) (hi : EV K M ta σ B (A ++ rowsC p ps r rs) rInt i (A ++ rowsC p ps r rs)) (hj : ixO rs.length i = some jj) (hb : EV K M tb σ B (A ++ rowsC p ps r rs) rInt k (A ++ rowsC p ps r rs)) (hk : ixO (rs.getD jj []).length k = some l)
    (qq : ∀ B' H', Ex B B' → Own K B' M (A ++ rowsC p ps r (rs.set jj ((rs.getD jj []).set l a))) H' → tz D σ H') : tSeq (tAsg te (gSub (tOp (rIx K) (tVar m) ta) tb rSetL)) tz D σ H :=
  h B H (Ex.refl _) w _ fun v B1 H1 e1 w1 hv => ⟨_, hs, hi B1 H1 e1 w1 _ fun y B2 H2 e2 w2 hy => by
    obtain ⟨h1, h2⟩ := w2.rows
    have hn : ixN rs.length i = some jj := hj
    have hjl : jj < ps.length := by rw [h2]; exact (ixN_seq hn).2.1
    have hq : ps[jj]? = some ps[jj] := List.getElem?_eq_getElem hjl
    refine .inl ⟨p, ps.map V.ref, i, .ref ps[jj], rfl, hy, sq_of h1, ?_, ?_⟩
    · unfold atI
      rw [List.length_map, h2, hn]
      show (ps.map V.ref)[jj]? = _
      rw [List.getElem?_map, hq]
      rfl
    · refine hb B2 H2 (e1.trans e2) w2 _ fun z B3 H3 e3 w3 hz => ?_
      have hc := w3.row hq
      obtain ⟨⟨o', g1, xs, g2, g3⟩, _⟩ := w3.at hc
      have g1 : H3 ps[jj] = some o' := g1
      have w4 := w3.set hc (c' := cLst r) (o := .lst (xs.set l v)) ⟨_, rfl, paired_set (r.mono (e2.trans e3) hv) l g3⟩
      rw [row_set A hq] at w4
      exact ⟨ps[jj], xs, k, l, rfl, hz, by rw [g1, g2], by rw [paired_len g3]; exact hk, qq B3 _ ((e1.trans e2).trans e3) w4⟩⟩
theorem rowsL_mem {q' : Addr} {x' : List α} : ∀ {ps : List Addr} {rs : List (List α)} {jj : Nat} {y : Cell}, y ∈ rowsL r (ps.set jj q') (rs.set jj x') → y = ⟨q', cLst r, x'⟩ ∨ y ∈ rowsL r ps rs
  | [], _, _, _, h => by unfold rowsL at h; simp at h
  | _ :: _, [], jj, _, h => by cases jj <;> (unfold rowsL at h; simp at h)
  | p :: ps, x :: rs, 0, y, h => by
    have h : y ∈ (⟨q', cLst r, x'⟩ : Cell) :: rowsL r ps rs := h
    rcases List.mem_cons.mp h with e | h
    · exact .inl e
    · exact .inr (List.mem_cons_of_mem _ h)
  | p :: ps, x :: rs, jj + 1, y, h => by
    have h : y ∈ (⟨p, cLst r, x⟩ : Cell) :: rowsL r (ps.set jj q') (rs.set jj x') := h
    rcases List.mem_cons.mp h with e | h
    · exact .inr (by rw [e]; exact List.mem_cons_self)
    · exact (rowsL_mem h).imp id fun z => List.mem_cons_of_mem _ z
theorem mem_set_of {q' z : Addr} : ∀ {ps : List Addr} {jj : Nat}, z ∈ ps.set jj q' → z = q' ∨ z ∈ ps
  | [], _, h => by cases h
  | p :: ps, 0, h => (List.mem_cons.mp h).imp id fun z => List.mem_cons_of_mem _ z
  | p :: ps, jj + 1, h => (List.mem_cons.mp h).elim (fun e => .inr (by rw [e]; exact List.mem_cons_self)) fun h => (mem_set_of h).imp id fun z => List.mem_cons_of_mem _ z
theorem nodup_set {q' : Addr} : ∀ {ps : List Addr} {jj : Nat}, ps.Nodup → q' ∉ ps → (ps.set jj q').Nodup
  | [], _, _, _ => .nil
  | p :: ps, 0, h, hn => List.nodup_cons.mpr ⟨fun z => hn (List.mem_cons_of_mem _ z), (List.nodup_cons.mp h).2⟩
  | p :: ps, jj + 1, h, hn => by
    obtain ⟨h1, h2⟩ := List.nodup_cons.mp h
    refine List.nodup_cons.mpr ⟨fun z => ?_, nodup_set h2 fun z => hn (List.mem_cons_of_mem _ z)⟩
    rcases mem_set_of z with e | e
    · exact hn (by rw [e]; exact List.mem_cons_self)
    · exact h1 e
theorem keysC (h : ps.length = rs.length) : (A ++ rowsC p ps r rs).map (·.p) = A.map (·.p) ++ p :: ps := by
  rw [List.map_append]
  show _ ++ p :: (rowsL r ps rs).map (·.p) = _
  rw [rowsL_keys h]
/-- rows[i] = a new list -/
theorem q_setRowN {m : Nat} {jj : Nat} {as : List α} (w : Own K B M L H) (h : EVL K M te σ B L r as (A ++ rowsC p ps r rs)) (hs : σ[m]? = some (some (.ref p))) (hb : ∀ p' : Addr, EV K M tb σ B (⟨p', cLst r, as⟩ :: (A ++ rowsC p ps r rs)) rInt i (⟨p', cLst r, as⟩ :: (A ++ rowsC p ps r rs))) (hj : ixO rs.length i = some jj)
    (qq : ∀ ps' B' H', Ex B B' → Own K B' M (A ++ rowsC p ps' r (rs.set jj as)) H' → tz D σ H') : tSeq (tAsg te (gSub (tVar m) tb rSetL)) tz D σ H :=
  h B H (Ex.refl _) w _ fun p' B1 H1 e1 w1 => ⟨_, hs, hb p' B1 H1 e1 w1 _ fun y B2 H2 e2 w2 hy => by
    have w2 : Own K B2 M ((⟨p', cLst r, as⟩ :: A) ++ rowsC p ps r rs) H2 := w2
    obtain ⟨h1, h2⟩ := w2.rows
    have hn : ixN rs.length i = some jj := hj
    have e3 : (ps.map V.ref).set jj (V.ref p') = (ps.set jj p').map V.ref := by rw [List.map_set]
    have w3 := w2.set (head_at (⟨p', cLst r, as⟩ :: A)) (c' := cAdr (rs.set jj as).length) (a' := ps.set jj p') (o := .lst ((ps.map V.ref).set jj (V.ref p'))) ⟨by rw [e3], by rw [List.length_set, List.length_set]; exact h2⟩
    have nd := w2.nd
    rw [keysC h2, List.map_cons, List.cons_append, List.nodup_cons] at nd
    obtain ⟨n1, n2⟩ := nd
    obtain ⟨n3, n4, n5⟩ := List.nodup_append.mp n2
    obtain ⟨n6, n7⟩ := List.nodup_cons.mp n4
    refine ⟨p, ps.map V.ref, i, jj, rfl, hy, h1, by rw [List.length_map, h2]; exact hn, qq (ps.set jj p') B2 _ (e1.trans e2) (w3.perm (fun x hx => ?_) ?_)⟩
    · rw [List.set_append_right _ _ (Nat.le_refl _), Nat.sub_self]
      show x ∈ (⟨p', cLst r, as⟩ : Cell) :: (A ++ (⟨p, cAdr (rs.set jj as).length, ps.set jj p'⟩ :: rowsL r ps rs))
      rcases List.mem_append.mp hx with hx | hx
      · exact List.mem_cons_of_mem _ (List.mem_append_left _ hx)
      · rcases List.mem_cons.mp hx with hx | hx
        · rw [hx]
          exact List.mem_cons_of_mem _ (List.mem_append_right _ List.mem_cons_self)
        · rcases rowsL_mem hx with e | e
          · rw [e]; exact List.mem_cons_self
          · exact List.mem_cons_of_mem _ (List.mem_append_right _ (List.mem_cons_of_mem _ e))
    · rw [keysC (by rw [List.length_set, List.length_set]; exact h2)]
      have hp' : p' ∉ ps := fun z => n1 (List.mem_append_right _ (List.mem_cons_of_mem _ z))
      refine List.nodup_append.mpr ⟨n3, List.nodup_cons.mpr ⟨fun z => ?_, nodup_set n7 hp'⟩, fun a ha b hb e => ?_⟩
      · rcases mem_set_of z with e | e
        · exact n1 (List.mem_append_right _ (by rw [← e]; exact List.mem_cons_self))
        · exact n6 e
      · subst e
        rcases List.mem_cons.mp hb with e | hb
        · exact n5 a ha p List.mem_cons_self e
        · rcases mem_set_of hb with e | e
          · exact n1 (List.mem_append_left _ (by rw [← e]; exact ha))
          · exact n5 a ha a (List.mem_cons_of_mem _ e) rfl⟩
theorem erase_mid (A : List Cell) (x y : Cell) (R : List Cell) : (A ++ x :: y :: R).eraseIdx (A.length + 1) = A ++ x :: R := by
  rw [List.eraseIdx_append_of_length_le (Nat.le_add_right _ _), Nat.add_sub_cancel_left]
  rfl
theorem frz_tail {x : Cell} : ∀ {ps : List Addr} {rs : List (List α)} {B : Hp}, ps.length = rs.length → Own K B M (A ++ x :: rowsL r ps rs) H → ∃ B', Ex B B' ∧ Own K B' M (A ++ [x]) H ∧ Paired ((rLst r).is K B') (ps.map V.ref) rs
  | [], [], B, _, w => ⟨B, Ex.refl _, w, .nil⟩
  | [], _ :: _, _, h, _ => by simp at h
  | _ :: _, [], _, h, _ => by simp at h
  | q :: ps, y :: rs, B, h, w => by
    have hc : (A ++ x :: rowsL r (q :: ps) (y :: rs))[A.length + 1]? = some ⟨q, cLst r, y⟩ := by
      rw [List.getElem?_append_right (Nat.le_add_right _ _), Nat.add_sub_cancel_left]
      rfl
    obtain ⟨B1, e1, w1, h1⟩ := frz_step w hc
    have ee : (A ++ x :: rowsL r (q :: ps) (y :: rs)).eraseIdx (A.length + 1) = A ++ x :: rowsL r ps rs := erase_mid A x _ _
    rw [ee] at w1
    obtain ⟨B2, e2, w2, h2⟩ := frz_tail (by simpa using h) w1
    exact ⟨B2, e1.trans e2, w2, .cons ((rLst r).mono e2 h1) h2⟩
/-- the rows and their list stay from here on -/
theorem frz_rows (w : Own K B M (A ++ rowsC p ps r rs) H) : ∃ B', Ex B B' ∧ Own K B' M A H ∧ (rLst (rLst r)).is K B' (.ref p) rs := by
  obtain ⟨h1, h2⟩ := w.rows
  obtain ⟨B1, e1, w1, h3⟩ := frz_tail h2 w
  obtain ⟨o, g1, ⟨g2, _⟩, g3, w2⟩ := w1.freeze (i := A.length) (x := ⟨p, cAdr rs.length, ps⟩) (by rw [List.getElem?_append_right (Nat.le_refl _), Nat.sub_self]; rfl)
  have g3 : B1 p = none := g3
  rw [List.eraseIdx_append_of_length_le (Nat.le_refl _), Nat.sub_self] at w2
  have w2 : Own K (upd B1 p o) M (A ++ []) H := w2
  rw [List.append_nil] at w2
  refine ⟨_, e1.trans (Ex.new g3), w2, p, ps.map V.ref, rfl, ?_, paired_mono (Ex.new g3) h3⟩
  rw [upd_same, g2]
/-- rows = [[..] for ..] -/
theorem q_asgR {n : Nat} {vs : List Nat} {σ' : St} {xs : List α} {out : List (List β)} (s : Rep β) (w : Own K B M L H) (hi : EI K M wi σ B L r xs L1) (f : α → Option (List β)) (hm : mapO f xs = some out) (hr : room xs.length = some ()) (hw : wipe σ vs = σ')
    (hs : ∀ x o v Dd ps acc B' H', f x = some o → Ex B B' → Own K B' M (L1 ++ rowsC Dd ps s acc) H' → r.is K B' v x → ∀ (PY : VK) (PN : Hp → Prop),
      (∀ q B2 H2, Ex B' B2 → Own K B2 M (⟨q, cLst s, o⟩ :: (L1 ++ rowsC Dd ps s acc)) H2 → PY (.ref q) H2) →
      g v σ' H' fun σ2 H2 => wipe σ2 vs = σ' ∧ tYes σ2 H2 fun b H3 => if b = true then te σ2 H3 PY else PN H3)
    (qq : ∀ p ps B' H', Ex B B' → Own K B' M (L1 ++ rowsC p ps s out) H' → tz D (σ.set n (some (.ref p))) H') : tSeq (tAsg (tLc wi g tYes te vs) (gName n)) tz D σ H := by
  refine hi B H (Ex.refl _) w _ fun J B2 H2 e2 w2 wk => ?_
  intro Dd hD
  subst hw
  have swap : ∀ {B' H'} {X : List Cell}, Own K B' M (X ++ L1) H' → Own K B' M (L1 ++ X) H' := fun {B' H' X} w => w.perm (fun x hx => List.mem_append.mpr (List.mem_append.mp hx).symm) (by
    have nd := w.nd
    rw [List.map_append] at nd ⊢
    obtain ⟨a, b, c⟩ := List.nodup_append.mp nd
    exact List.nodup_append.mpr ⟨b, a, fun x hx y hy e => c y hy x hx e.symm⟩)
  have w3 : Own K B2 M (L1 ++ rowsC Dd [] s []) (upd H2 Dd (.lst [])) := swap (X := rowsC Dd [] s []) (w2.new (c := cAdr 0) (a := []) hD ⟨rfl, rfl⟩)
  refine ⟨fun i m H' => m = xs.length - i ∧ i ≤ xs.length ∧ ∃ ps acc B', Ex B2 B' ∧ Own K B' M (L1 ++ rowsC Dd ps s acc) H' ∧ acc.length ≤ i ∧ ∃ zs, mapO f (xs.drop i) = some zs ∧ acc ++ zs = out,
    ⟨_, rfl, Nat.zero_le _, [], [], B2, Ex.refl _, w3, Nat.zero_le _, out, hm, rfl⟩, ?_⟩
  rintro i m H' ⟨rfl, hil, ps, acc, B', eb, w', hacc, zs, hz, hzs⟩
  by_cases hl : i = xs.length
  · subst hl
    rw [List.drop_length] at hz
    obtain rfl := Option.some.inj hz
    rw [List.append_nil] at hzs
    subst hzs
    exact .inl ⟨wk.stop B' _ H' eb w', qq Dd ps B' H' (e2.trans eb) w'⟩
  · have hlt : i < xs.length := by omega
    rw [List.drop_eq_getElem_cons hlt] at hz
    have hx : xs[i]? = some xs[i] := List.getElem?_eq_getElem hlt
    obtain ⟨g1, g2⟩ := wk.go i xs[i] B' _ H' eb w' hx
    unfold mapO at hz
    cases hf : f xs[i] with
    | none => rw [hf] at hz; cases hz
    | some o =>
      rw [hf] at hz
      cases hc : mapO f (xs.drop (i + 1)) with
      | none => rw [hc] at hz; cases hz
      | some zs' =>
        rw [hc] at hz
        obtain rfl := Option.some.inj hz
        refine .inr ⟨g1, fun H5 => i + 1 ≤ xs.length ∧ ∃ ps acc B', Ex B2 B' ∧ Own K B' M (L1 ++ rowsC Dd ps s acc) H5 ∧ acc.length ≤ i + 1 ∧ ∃ zs, mapO f (xs.drop (i + 1)) = some zs ∧ acc ++ zs = out, fun H5 h5 => ⟨xs.length - (i + 1), by omega, rfl, h5⟩, fun x H4 hy => ?_⟩
        obtain ⟨B4, e4, w4, hrx⟩ := g2 x H4 hy
        refine hs xs[i] o x Dd ps acc B4 H4 hf (e2.trans (eb.trans e4)) w4 hrx (fun y H6 => ∃ acc', H6 Dd = some (.lst acc') ∧ acc'.length < sizeLine ∧ (fun H5 => i + 1 ≤ xs.length ∧ ∃ ps acc B', Ex B2 B' ∧ Own K B' M (L1 ++ rowsC Dd ps s acc) H5 ∧ acc.length ≤ i + 1 ∧ ∃ zs, mapO f (xs.drop (i + 1)) = some zs ∧ acc ++ zs = out) (upd H6 Dd (.lst (acc' ++ [y])))) _ fun q B5 H5 e5 w5 => ?_
        have w5 : Own K B5 M ((⟨q, cLst s, o⟩ :: L1) ++ rowsC Dd ps s acc) H5 := w5
        obtain ⟨r1, r2⟩ := w5.rows
        have hq := room_some hr
        have e3 : ps.map V.ref ++ [V.ref q] = (ps ++ [q]).map V.ref := by rw [List.map_append]; rfl
        have w6 := w5.set (head_at (⟨q, cLst s, o⟩ :: L1)) (c' := cAdr (acc ++ [o]).length) (a' := ps ++ [q]) (o := .lst (ps.map V.ref ++ [V.ref q])) ⟨by rw [e3], by simp [r2]⟩
        refine ⟨ps.map V.ref, r1, by rw [List.length_map, r2]; omega, hlt, ps ++ [q], acc ++ [o], B5, (eb.trans e4).trans e5, w6.perm (fun x hx => ?_) ?_, by simp; omega, zs', hc, by simpa using hzs⟩
        · rw [List.set_append_right _ _ (Nat.le_refl _), Nat.sub_self]
          show x ∈ (⟨q, cLst s, o⟩ : Cell) :: (L1 ++ (⟨Dd, cAdr (acc ++ [o]).length, ps ++ [q]⟩ :: rowsL s ps acc))
          rcases List.mem_append.mp hx with hx | hx
          · exact List.mem_cons_of_mem _ (List.mem_append_left _ hx)
          · rcases List.mem_cons.mp hx with hx | hx
            · rw [hx]
              exact List.mem_cons_of_mem _ (List.mem_append_right _ List.mem_cons_self)
            · have e9 : rowsL s (ps ++ [q]) (acc ++ [o]) = rowsL s ps acc ++ [⟨q, cLst s, o⟩] := by
                unfold rowsL
                rw [List.zip_append r2, List.map_append]
                rfl
              rw [e9] at hx
              rcases List.mem_append.mp hx with hx | hx
              · exact List.mem_cons_of_mem _ (List.mem_append_right _ (List.mem_cons_of_mem _ hx))
              · rw [List.mem_singleton.mp hx]; exact List.mem_cons_self
        · rw [keysC (by simp [r2])]
          have nd := w5.nd
          rw [keysC r2, List.map_cons, List.cons_append, List.nodup_cons] at nd
          obtain ⟨n1, n2⟩ := nd
          obtain ⟨n3, n4, n5⟩ := List.nodup_append.mp n2
          obtain ⟨n6, n7⟩ := List.nodup_cons.mp n4
          refine List.nodup_append.mpr ⟨n3, List.nodup_cons.mpr ⟨fun z => ?_, List.nodup_append.mpr ⟨n7, by simp, fun a ha b hb e => ?_⟩⟩, fun a ha b hb e => ?_⟩
          · rcases List.mem_append.mp z with z | z
            · exact n6 z
            · exact n1 (List.mem_append_right _ (by rw [← List.mem_singleton.mp z]; exact List.mem_cons_self))
          · rw [List.mem_singleton.mp hb] at e
            exact n1 (List.mem_append_right _ (by rw [← e]; exact List.mem_cons_of_mem _ ha))
          · subst e
            rcases List.mem_cons.mp hb with e | hb
            · exact n5 a ha Dd List.mem_cons_self e
            · rcases List.mem_append.mp hb with e | e
              · exact n5 a ha a (List.mem_cons_of_mem _ e) rfl
              · exact n1 (List.mem_append_left _ (by rw [← List.mem_singleton.mp e]; exact ha))
end
end L3

/-! list.index of data of any kind -/
namespace L3
open PySem L2
open Evl (Ex ex_rd ex_l ex_t sq_of st_of fresh_back)
theorem room_65 {A : Around} {k : Nat} (hr : Room k A) : A.units + 65 < cLine := by have := hr.un; omega
def idxT {α : Type} [DecidableEq α] : List α → α → Option Int
  | [], _ => none
  | x :: l, k => if x = k then some 0 else (idxT l k).map (· + 1)
theorem idxT_at {α : Type} [DecidableEq α] {k : α} : ∀ {xs : List α} {v : Int}, idxT xs k = some v → ∃ n : Nat, v = (n : Int) ∧ xs[n]? = some k ∧ ∀ (m : Nat) (z : α), m < n → xs[m]? = some z → z ≠ k
  | [], _, h => by cases h
  | x :: l, v, h => by
    unfold idxT at h
    split at h
    · rename_i e
      obtain rfl := Option.some.inj h
      exact ⟨0, rfl, by rw [← e]; rfl, fun m z hm => absurd hm (by omega)⟩
    · rename_i e
      cases e2 : idxT l k with
      | none => rw [e2] at h; cases h
      | some u =>
        rw [e2] at h
        obtain rfl := Option.some.inj h
        obtain ⟨n, rfl, h1, h2⟩ := idxT_at e2
        refine ⟨n + 1, by simp, by simpa using h1, fun m z hm hz => ?_⟩
        cases m with
        | zero => obtain rfl : x = z := Option.some.inj hz; exact e
        | succ m => exact h2 m z (by omega) (by simpa using hz)
section
variable {K : Fg} {M : Fr} {σ : St} {B : Hp} {L L1 L2 : List Cell} {α : Type} {r : Rep α} {ta tb : TE}
theorem ev_indexT [DecidableEq α] {f : α → PyData} {n : Nat} {xs : List α} {k : α} {v : Int} (D : DR r f n) (hn : n + 1 ≤ 64) (h : EV K M ta σ B L (rLst r) xs L1) (h' : EV K M tb σ B L1 r k L2) (e : idxT xs k = some v) : EV K M (tBM K "list" (rIndexD K) ta (tCons tb tNil)) σ B L rInt v L2 := fun B1 H e1 w Q q =>
  h B1 H e1 w _ fun x B2 H2 e2 w2 hx => by
    have hd := (dr_lst D).dp _ _ _ _ hx
    obtain ⟨p, ys, rfl, hs, hp⟩ := rl_sc hx
    refine ⟨.inl ⟨rfl, ys, ex_l w2.b hs⟩, h' B2 H2 (e1.trans e2) w2 _ fun u B3 H3 e3 w3 hu => ?_⟩
    obtain ⟨n, rfl, h1, h2⟩ := idxT_at e
    refine ⟨p, u, f k, xs.map f, n, f k, rfl, rfl, dp_mono w3.b (dp_mono e3 hd), dp_mono w3.b (D.dp _ _ _ _ hu), (dr_lst D).sh hn xs, D.sh (by omega) k, by rw [List.getElem?_map, h1]; rfl, (D.eqv k k).mpr rfl, fun m z hm hz => ?_, q _ B3 H3 (e2.trans e3) w3 rfl⟩
    rw [List.getElem?_map] at hz
    cases hx : xs[m]? with
    | none => rw [hx] at hz; cases hz
    | some z2 =>
      rw [hx] at hz
      obtain rfl : f z2 = z := Option.some.inj hz
      refine Bool.eq_false_iff.mpr fun z => h2 m z2 hm hx ((D.eqv _ _).mp z)
end
end L3

/-! l.pop(i) of a list of ours, within an expression -/
namespace L3
open PySem L2
open Evl (Ex ex_rd ex_l ex_t sq_of st_of fresh_back)
def popL {α : Type} (xs : List α) (i : Int) : Option (α × List α) := if 0 ≤ i ∧ i < 1000000 then (xs[i.toNat]?).map fun y => (y, xs.eraseIdx i.toNat) else none
theorem paired_getP {α : Type} {P : V → α → Prop} : ∀ {vs : List V} {as : List α} {k : Nat} {y : α}, Paired P vs as → as[k]? = some y → ∃ v, vs[k]? = some v ∧ P v y
  | _, _, k, y, .nil, h => by simp at h
  | v :: vs, a :: as, 0, y, .cons h _, e => by
    obtain rfl : a = y := by simpa using e
    exact ⟨v, rfl, h⟩
  | v :: vs, a :: as, k + 1, y, .cons _ t, e => by
    obtain ⟨u, h1, h2⟩ := paired_getP t (by simpa using e)
    exact ⟨u, by simpa using h1, h2⟩
theorem paired_erase {α : Type} {P : V → α → Prop} : ∀ {vs : List V} {as : List α} {k : Nat}, Paired P vs as → Paired P (vs.eraseIdx k) (as.eraseIdx k)
  | _, _, k, .nil => by simpa using Paired.nil
  | v :: vs, a :: as, 0, .cons h t => by simpa using t
  | v :: vs, a :: as, k + 1, .cons h t => by simpa using Paired.cons h (paired_erase t)
section
variable {K : Fg} {M : Fr} {σ : St} {B : Hp} {L L' : List Cell} {α : Type} {r : Rep α} {te : TE}
theorem ev_pop {n m : Nat} {p : Addr} {xs : List α} {i : Int} {t : α × List α} (hs : σ[m]? = some (some (.ref p))) (h : EV K M te σ B L rInt i L') (hc : L'[n]? = some ⟨p, cLst r, xs⟩) (hc0 : ∃ n0 : Nat, ∃ a0 : List α, L[n0]? = some ⟨p, cLst r, a0⟩) (hi : popL xs i = some t) :
    EV K M (tBM K "list" rPopAt (tVar m) (tCons te tNil)) σ B L r t.1 (L'.set n ⟨p, cLst r, t.2⟩) := fun B1 H e1 w Q q => by
  obtain ⟨n0, a0, hc0⟩ := hc0
  obtain ⟨⟨o, h1, ys, h2, h3⟩, _⟩ := w.at hc0
  have h1 : H p = some o := h1
  refine ⟨_, hs, .inl ⟨rfl, _, sq_of (xs := ys) (by rw [h1, h2])⟩, h B1 H e1 w _ fun v B' H' e w' hv => ?_⟩
  obtain ⟨⟨o', g1, zs, g2, g3⟩, _⟩ := w'.at hc
  have g1 : H' p = some o' := g1
  have hv : v = .int i := hv
  subst hv
  unfold popL at hi
  split at hi
  · rename_i c
    obtain ⟨c0, c1⟩ := c
    obtain ⟨k, rfl⟩ := Int.eq_ofNat_of_zero_le c0
    cases hx : xs[k]? with
    | none => rw [Int.toNat_natCast, hx] at hi; cases hi
    | some y =>
      rw [Int.toNat_natCast, hx] at hi
      obtain rfl := Option.some.inj hi
      obtain ⟨u, u1, u2⟩ := paired_getP g3 hx
      have kl : k < zs.length := (List.getElem?_eq_some_iff.mp u1).1
      refine ⟨p, zs, (k : Int), k, u, rfl, rfl, by rw [g1, g2], by omega, by omega, ?_, u1, q u B' _ e (w'.set hc ⟨_, rfl, paired_erase g3⟩) u2⟩
      unfold seqIndex?
      simp
      omega
  · cases hi
end
/-- values that are all there, as values that may be None -/
theorem paired_some {α : Type} {r : Rep α} {K : Fg} {B : Hp} : ∀ {vs : List V} {as : List α}, Paired (r.is K B) vs as → Paired ((rOpt r).is K B) vs (as.map some)
  | _, _, .nil => .nil
  | _, _, .cons h t => .cons h (paired_some t)
theorem rLst_sm {α : Type} {r : Rep α} {K : Fg} {B : Hp} {v : V} {as : List α} (h : (rLst r).is K B v as) : (rLst (rOpt r)).is K B v (as.map some) := by
  obtain ⟨p, xs, h1, h2, h3⟩ := h
  exact ⟨p, xs, h1, h2, paired_some h3⟩
section
variable {K : Fg} {M : Fr} {σ : St} {B : Hp} {L L' : List Cell} {te : TE}
def maxZ : List Int → Option Int
  | [] => none
  | x :: l => some (l.foldl max x)
theorem foldl_max (l : List Int) : ∀ x : Int, (l.foldl max x ∈ x :: l) ∧ ∀ y ∈ x :: l, y ≤ l.foldl max x := by
  induction l with
  | nil => intro x; exact ⟨List.mem_cons_self, fun y hy => by rw [List.mem_singleton.mp hy]; exact Int.le_refl _⟩
  | cons a l ih =>
    intro x
    obtain ⟨h1, h2⟩ := ih (max x a)
    rw [List.foldl_cons]
    refine ⟨?_, fun y hy => ?_⟩
    · rcases List.mem_cons.mp h1 with e | e
      · rw [e]
        rcases Int.le_total x a with z | z
        · rw [Int.max_eq_right z]; exact List.mem_cons_of_mem _ List.mem_cons_self
        · rw [Int.max_eq_left z]; exact List.mem_cons_self
      · exact List.mem_cons_of_mem _ (List.mem_cons_of_mem _ e)
    · have hm := h2 (max x a) List.mem_cons_self
      rcases List.mem_cons.mp hy with e | hy
      · rw [e]; exact Int.le_trans (Int.le_max_left _ _) hm
      · rcases List.mem_cons.mp hy with e | hy
        · rw [e]; exact Int.le_trans (Int.le_max_right _ _) hm
        · exact h2 y (List.mem_cons_of_mem _ hy)
theorem maxZ_is {l : List Int} {m m' : Int} (h : maxZ l = some m) (hm : m' ∈ l) (hl : ∀ y ∈ l, y ≤ m') : m' = m := by
  cases l with
  | nil => cases h
  | cons x l =>
    obtain rfl := Option.some.inj h
    obtain ⟨h1, h2⟩ := foldl_max l x
    exact Int.le_antisymm (h2 _ hm) (hl _ h1)
theorem ev_maxL {xs : List Int} {m : Int} (h : EV K M te σ B L (rLst rInt) xs L') (hm : maxZ xs = some m) : EV K M (tCB (rMax K) (tCons te tNil)) σ B L rInt m L' := fun B1 H e w Q q =>
  h B1 H e w _ fun v B2 H2 e2 w2 hv => by
    obtain ⟨p, vs, rfl, hs, hp⟩ := rl_sc hv
    refine ⟨p, xs, rfl, by rw [← ints_of hp]; exact ex_l w2.b hs, ?_, fun m' h1 h2 => q _ B2 H2 e2 w2 (by rw [maxZ_is hm h1 h2]; rfl)⟩
    cases xs with
    | nil => cases hm
    | cons x l => simp
end
end L3

/-! dicts whose keys are nested tuples of ints -/
namespace L3G
open PySem PySem.Spec PyProof.Rows L2
mutual
def nkNum : NestedKey → Bool
  | .none => true
  | .num _ => true
  | .text _ => false
  | .tup ks => nkNums ks
def nkNums : List NestedKey → Bool
  | [] => true
  | k :: ks => nkNum k && nkNums ks
end
mutual
theorem nk_hash (w w' : World) : ∀ k : NestedKey, nkNum k = true → k.hash w = k.hash w'
  | .none, _ => rfl
  | .num _, _ => rfl
  | .text _, h => by simp [nkNum] at h
  | .tup ks, h => by
    simp only [nkNum] at h
    simp only [NestedKey.hash, nk_hashes w w' ks h]
theorem nk_hashes (w w' : World) : ∀ ks : List NestedKey, nkNums ks = true → NestedKey.hashes w ks = NestedKey.hashes w' ks
  | [], _ => rfl
  | k :: ks, h => by
    simp only [nkNums, Bool.and_eq_true] at h
    simp only [NestedKey.hashes, nk_hash w w' k h.1, nk_hashes w w' ks h.2]
end
mutual
theorem nk_reads {h : Heap} : ∀ (k : NestedKey) {v : Value} {as : List Addr}, Reads h v k.data as → NestedIs h k v
  | .none, _, _, r => by simp only [NestedKey.data] at r; cases r; exact .none
  | .num i, _, _, r => by simp only [NestedKey.data] at r; cases r; exact .int _ _
  | .text x, _, _, r => by simp only [NestedKey.data] at r; cases r; exact .text _ _
  | .tup ks, _, _, r => by
    simp only [NestedKey.data] at r
    cases r with
    | tuple h1 h2 h3 h4 => exact .tup h1 h2 h3 (nk_readsAll ks h4)
theorem nk_readsAll {h : Heap} : ∀ (ks : List NestedKey) {vs : List Value} {as : List Addr}, ReadsAll h vs (NestedKey.datas ks) as → NestedAll h ks vs
  | [], _, _, r => by simp only [NestedKey.datas] at r; cases r; exact .nil
  | k :: ks, _, _, r => by
    simp only [NestedKey.datas] at r
    cases r with
    | cons h1 h2 => exact .cons (nk_reads k h1) (nk_readsAll ks h2)
end
abbrev NX := NestedKey × Addr × V
abbrev NY := NestedKey × Addr × Value
def ndR (x : NX) (y : NY) : Prop := x.1 = y.1 ∧ x.2.1 = y.2.1 ∧ RelV x.2.2 y.2.2
def ndAt (p : Addr) (xs : List NX) (h : Heap) : Prop := (p == sysModules) = false ∧ ∃ ys : List NY, Paired ndR xs ys ∧
  ∃ o es ep, h.get? p = some o ∧ o.ExactDict ∧ o.data = .dict es ep ∧ ∀ (P : Program) (w : World), es.toList = ys.map (entryOfKey (nestedKind P w))
/-- at p: the dict with the entries xs -/
def ndO (p : Addr) (xs : List NX) : HO := .ext (ndAt p xs)
theorem nd_ok {P : Program} {w : World} {H : Hp} {h : Heap} {p : Addr} {xs : List NX} (x : ndAt p xs h) : ObjOk P w H h p (ndO p xs) := by
  obtain ⟨a, ys, r, o, es, ep, e, c⟩ := x
  exact ⟨⟨a, ys, r, o, es, ep, e, c⟩, ⟨o, e⟩, fun h1 h2 ⟨a, ys, r, o, es, ep, e, c⟩ k => ⟨a, ys, r, o, es, ep, k _ e, c⟩⟩
theorem nd_at {P : Program} {w : World} {H : Hp} {h : Heap} {a p : Addr} {xs : List NX} (hok : HOk P w H h) (e : H a = some (ndO p xs)) : p = a ∧ ndAt p xs h := by
  obtain ⟨x, ⟨o, ho⟩, st⟩ := (show ObjOk P w H h a (.ext (ndAt p xs)) from hok a _ e)
  refine ⟨?_, x⟩
  rcases Decidable.em (p = a) with e | ne
  · exact e
  · obtain ⟨G, g1, g2⟩ := restrict h fun b => decide (b ≠ p)
    obtain ⟨_, _, _, o', _, _, e', _⟩ := st h G x fun o q => (g1 a (decide_eq_true (Ne.symm ne))).trans q
    rw [g2 p (by simp)] at e'
    cases e'
/-- the tuple at b is the key k -/
def NdK (K : PySem.W.Frag) (H : Hp) (k : NestedKey) (b : Addr) : Prop := Dp K H (.ref b) k.data ∧ nkNum k = true ∧ k.depth ≤ 8
def NdOk (K : PySem.W.Frag) (H : Hp) (xs : List NX) : Prop := (∀ x ∈ xs, NdK K H x.1 x.2.1) ∧ (xs.map (·.1)).Nodup ∧ xs.length ≤ sizeLine
def findN (xs : List NX) (k : NestedKey) : Option V := (xs.find? fun x => decide (x.1 = k)).map (·.2.2)
def putN (xs : List NX) (k : NestedKey) (b : Addr) (v : V) : List NX :=
  if (xs.any fun x => decide (x.1 = k)) = true then xs.map fun x => if x.1 = k then (x.1, x.2.1, v) else x else xs ++ [(k, b, v)]
theorem nd_keys : ∀ {xs : List NX} {ys : List NY}, Paired ndR xs ys → ys.map (·.1) = xs.map (·.1)
  | _, _, .nil => rfl
  | _, _, .cons h t => by rw [List.map_cons, List.map_cons, nd_keys t, h.1]
theorem nd_adr : ∀ {xs : List NX} {ys : List NY}, Paired ndR xs ys → ys.map (fun y => Value.ref y.2.1) = xs.map fun x => Value.ref x.2.1
  | _, _, .nil => rfl
  | _, _, .cons h t => by rw [List.map_cons, List.map_cons, nd_adr t, h.2.1]
theorem nd_mem : ∀ {xs : List NX} {ys : List NY}, Paired ndR xs ys → ∀ y ∈ ys, ∃ x ∈ xs, x.1 = y.1 ∧ x.2.1 = y.2.1
  | _, _, .nil, _, h => absurd h (by simp)
  | x :: _, _, .cons h t, y, hy => by
    rcases List.mem_cons.mp hy with e | hy
    · subst e; exact ⟨x, List.mem_cons_self, h.1, h.2.1⟩
    · obtain ⟨z, h1, h2⟩ := nd_mem t y hy
      exact ⟨z, List.mem_cons_of_mem _ h1, h2⟩
theorem nd_find (k : NestedKey) : ∀ {xs : List NX} {ys : List NY}, Paired ndR xs ys → (findN xs k).isSome = (atKey ys k).isSome ∧ ∀ v, findN xs k = some v → ∃ q, atKey ys k = some q ∧ RelV v q.2
  | _, _, .nil => ⟨rfl, fun v h => by cases h⟩
  | x :: xs, _, @Paired.cons _ _ _ _ y _ ys h t => by
    by_cases e : x.1 = k
    · have e' : y.1 = k := h.1.symm.trans e
      have a1 : findN (x :: xs) k = some x.2.2 := by simp [findN, List.find?_cons, e]
      have b1 : atKey (y :: ys) k = some y.2 := by simp [atKey, List.find?_cons, e']
      rw [a1, b1]
      exact ⟨rfl, fun v hv => ⟨_, rfl, by rw [← Option.some.inj hv]; exact h.2.2⟩⟩
    · have e' : ¬ y.1 = k := fun z => e (h.1.trans z)
      have a1 : findN (x :: xs) k = findN xs k := by simp [findN, List.find?_cons, e]
      have b1 : atKey (y :: ys) k = atKey ys k := by simp [atKey, List.find?_cons, e']
      rw [a1, b1]
      exact nd_find k t
theorem nd_any (xs : List NX) (k : NestedKey) : (xs.any fun x => decide (x.1 = k)) = (findN xs k).isSome := by
  induction xs with
  | nil => rfl
  | cons x xs ih =>
    by_cases e : x.1 = k
    · simp [findN, List.find?_cons, e]
    · simpa [findN, List.find?_cons, e] using ih
theorem nd_repl (k : NestedKey) {v : V} {u : Value} (rv : RelV v u) : ∀ {xs : List NX} {ys : List NY}, Paired ndR xs ys → Paired ndR (xs.map fun x => if x.1 = k then (x.1, x.2.1, v) else x) (ys.map (putAt k u))
  | _, _, .nil => .nil
  | x :: xs, _, @Paired.cons _ _ _ _ y _ ys h t => by
    rw [List.map_cons, List.map_cons]
    refine .cons ?_ (nd_repl k rv t)
    unfold putAt
    by_cases e : x.1 = k
    · rw [if_pos e, if_pos (h.1.symm.trans e)]; exact ⟨h.1, h.2.1, rv⟩
    · rw [if_neg e, if_neg (fun z => e (h.1.trans z))]; exact h
theorem nd_put (k : NestedKey) (b : Addr) {v : V} {u : Value} (rv : RelV v u) {xs : List NX} {ys : List NY} (r : Paired ndR xs ys) : Paired ndR (putN xs k b v) (storedH ys k b u) := by
  unfold putN storedH
  rw [nd_any, (nd_find k r).1]
  by_cases q : (atKey ys k).isSome = true
  · rw [if_pos q, if_pos q]; exact nd_repl k rv r
  · rw [if_neg q, if_neg q]; exact Paired.snoc r ⟨rfl, rfl, rv⟩
theorem ent_any {ys : List NY} (h : ∀ y ∈ ys, nkNum y.1 = true) (P P' : Program) (w w' : World) : ys.map (entryOfKey (nestedKind P w)) = ys.map (entryOfKey (nestedKind P' w')) :=
  List.map_congr_left fun y hy => by
    show DictEntry.mk _ _ _ = DictEntry.mk _ _ _
    rw [show (nestedKind P w).hash y.1 = (nestedKind P' w').hash y.1 from nk_hash w w' y.1 (h y hy)]
section
variable {X : Cx} {pins : List (Addr × Obj)} {σ : L2.St} {H : Hp} {s : Shared} {a p b : Addr} {xs : List NX} {k : NestedKey} {v : V}
theorem ndk_is (I : Inv X pins σ H s) (h : NdK X.K H k b) : (nestedKind X.prog X.w).is s.heap k b := by
  obtain ⟨as, r⟩ := Dp.reads I _ _ (Value.ref b) h.1 rfl
  exact ⟨nk_reads _ r, h.2.2⟩
theorem nd_dict (I : Inv X pins σ H s) (e : H a = some (ndO p xs)) (ok : NdOk X.K H xs) : p = a ∧ (a == sysModules) = false ∧ ∃ ys, Paired ndR xs ys ∧ s.heap.DictOfH (nestedKind X.prog X.w) a ys := by
  obtain ⟨rfl, h0, ys, r, o, es, ep, h1, h2, h3, h4⟩ := nd_at I.hok e
  refine ⟨rfl, h0, ys, r, o, es, ep, h1, h2, h3, h4 _ _, fun y hy => ?_, by rw [nd_keys r]; exact ok.2.1⟩
  obtain ⟨x, hx, e1, e2⟩ := nd_mem r y hy
  rw [← e1, ← e2]
  exact ndk_is I (ok.1 x hx)
theorem nd_room {A : Around} (hu : A.units + 65 < cLine) : (nestedKind X.prog X.w).room A.in1 := by
  show A.in1.units + 8 < cLine
  have : A.in1.units = A.units + 1 := rfl
  omega
theorem put_keys {v : V} (ok : NdOk X.K H xs) (hk : NdK X.K H k b) : ∀ x ∈ putN xs k b v, NdK X.K H x.1 x.2.1 := fun x hx => by
  unfold putN at hx
  split at hx
  · obtain ⟨y, hy, rfl⟩ := List.mem_map.mp hx
    split
    · exact ok.1 y hy
    · exact ok.1 y hy
  · rcases List.mem_append.mp hx with hx | hx
    · exact ok.1 x hx
    · rw [List.mem_singleton.mp hx]; exact hk
/-- d[k] = v -/
def rSetN (K : PySem.W.Frag) : TSet := fun o i v H Q => ∃ (a p : Addr) (xs : List NX) (b : Addr) (k : NestedKey), o = .ref a ∧ i = .ref b ∧ H a = some (ndO p xs) ∧ NdOk K H xs ∧ NdK K H k b ∧ Q (upd H a (ndO a (putN xs k b v)))
theorem set_nd (hu : X.A.units + 65 < cLine) : PSet X (rSetN X.K) := by
  intro pins s σ H o i v ov iv u Q I ro ri rv h
  obtain ⟨a, p, xs, b, k, rfl, rfl, e, ok, hk, q⟩ := h
  cases (show ov = Value.ref a from ro)
  cases (show iv = Value.ref b from ri)
  obtain ⟨rfl, h0, ys, r, d⟩ := nd_dict I e ok
  have hl : ys.length ≤ sizeLine := by
    rw [← Paired.length r]
    exact ok.2.2
  refine wpAny_setItem_heap (knd := nestedKind X.prog X.w) (hsz := hl) (nd_room hu) (ndk_is I hk) d fun h' d' hs => ?_
  obtain ⟨o, es, ep, g1, g2, g3, g4, g5, g6⟩ := d'
  have rp := nd_put k b rv r
  have hn : ∀ y ∈ storedH ys k b u, nkNum y.1 = true := fun y hy => by
    obtain ⟨x, hx, e1, _⟩ := nd_mem rp y hy
    rw [← e1]
    exact (put_keys ok hk x hx).2.1
  exact ⟨_, d_write I (by rw [e]; trivial) hs ⟨o, g1⟩ (nd_ok ⟨h0, _, rp, o, es, ep, g1, g2, g3, fun P w => g4.trans (ent_any hn _ _ _ _)⟩), q⟩
/-- {} -/
def tDNewN : TE := fun _ H Q => ∀ p, H p = none → Q (.ref p) (upd H p (ndO p []))
theorem pe_dnewN {pos : Pos} : PE X (.Dict [] [] pos) tDNewN := ⟨fun pins s σ H Q I h =>
  wpAny_Dict_empty ⟨.ref s.heap.objs.size, _, I.laid (a := s.heap.objs.size) (o := ndO s.heap.objs.size []) (t' := s.toks) (fun _ _ q => Heap.get?_push_of_some _ q) (Nat.le_refl _)
    (nd_ok ⟨beq_eq_false_iff_ne.mpr (Ne.symm (Nat.ne_of_lt I.big)), [], .nil, _, #[], 0, Heap.get?_push_size _ rfl, ⟨rfl, rfl, rfl⟩, rfl, fun _ _ => rfl⟩), rfl, h _ (I.hok.fresh (Nat.le_refl _))⟩⟩
/-- d[k] -/
def tNGet (K : PySem.W.Frag) (td ty : TE) : TE := fun σ H Q => td σ H fun x H1 => ty σ H1 fun y H2 => ∃ (a p : Addr) (xs : List NX) (b : Addr) (k : NestedKey) (v : V), x = .ref a ∧ y = .ref b ∧ H2 a = some (ndO p xs) ∧ NdOk K H2 xs ∧ NdK K H2 k b ∧ findN xs k = some v ∧ Q v H2
theorem pe_nget {o i : Expr} {td ty : TE} {pos : Pos} (hu : X.A.units + 65 < cLine) (ho : PE X o td) (hi : PE X i ty) (hs : NoSl i) : PE X (.Subscript o i pos) (tNGet X.K td ty) := by
  refine ⟨fun pins s σ H Q I h => ?_⟩
  refine subD_of PySem.F.slot_dict_getitem.lookup hs (thn (ho.run pins s σ H _ I h) fun u s1 ⟨x, H1, I1, rx, q1⟩ => thn (hi.run pins s1 σ H1 _ I1 q1) fun iv s2 ⟨y, H2, I2, ry, a, p, xs, b, k, v, ex, ey, e, ok, hk, hv, q2⟩ => ?_)
  subst ex ey
  obtain rfl : u = Value.ref a := rx
  obtain rfl : iv = Value.ref b := ry
  obtain ⟨rfl, h0, ys, r, d⟩ := nd_dict I2 e ok
  obtain ⟨q, hq, rq⟩ := (nd_find k r).2 v hv
  exact ⟨d.typeIs, wpAny_getItem_heap (nd_room hu) (ndk_is I2 hk) d hq ⟨v, H2, I2.tok _, rq, q2⟩⟩
def rNIn (K : PySem.W.Frag) : R2 := fun x y H Q => ∃ (a p : Addr) (xs : List NX) (b : Addr) (k : NestedKey), y = .ref a ∧ x = .ref b ∧ H a = some (ndO p xs) ∧ NdOk K H xs ∧ NdK K H k b ∧ Q (.bl (findN xs k).isSome) H
def rNNi (K : PySem.W.Frag) : R2 := fun x y H Q => ∃ (a p : Addr) (xs : List NX) (b : Addr) (k : NestedKey), y = .ref a ∧ x = .ref b ∧ H a = some (ndO p xs) ∧ NdOk K H xs ∧ NdK K H k b ∧ Q (.bl (!(findN xs k).isSome)) H
theorem op_nin (hu : X.A.units + 65 < cLine) : OpR X (compareOp .In) (rNIn X.K) := by
  intro pins s σ H x y v u Q I rx ry h
  obtain ⟨a, p, xs, b, k, rfl, rfl, e, ok, hk, q⟩ := h
  cases rx
  cases ry
  obtain ⟨rfl, h0, ys, r, d⟩ := nd_dict I e ok
  refine wpAny_in_heap (nd_room hu) (ndk_is I hk) h0 d ⟨.bl _, H, I.tok _, rfl, ?_⟩
  rw [← (nd_find k r).1]
  exact q
theorem op_nni (hu : X.A.units + 65 < cLine) : OpR X (compareOp .NotIn) (rNNi X.K) := by
  intro pins s σ H x y v u Q I rx ry h
  obtain ⟨a, p, xs, b, k, rfl, rfl, e, ok, hk, q⟩ := h
  cases rx
  cases ry
  obtain ⟨rfl, h0, ys, r, d⟩ := nd_dict I e ok
  refine wpAny_notIn_heap (nd_room hu) (ndk_is I hk) h0 d ⟨.bl _, H, I.tok _, rfl, ?_⟩
  rw [← (nd_find k r).1]
  exact q
/-- len(d) -/
def rNLen (K : PySem.W.Frag) : List V → Hp → VK → Prop := fun vs H Q => ∃ (a p : Addr) (xs : List NX), vs = [.ref a] ∧ H a = some (ndO p xs) ∧ NdOk K H xs ∧ Q (.int ((xs.length : Nat) : Int)) H
theorem cr_nlen : CallR X (.builtin "len") (rNLen X.K) := by
  intro pins s σ H vs us Q I r h
  obtain ⟨a, p, xs, rfl, e, ok, q⟩ := h
  obtain ⟨u, rfl, ru⟩ := vals1 r
  obtain rfl : u = .ref a := ru
  obtain ⟨rfl, h0, ys, r, d⟩ := nd_dict I e ok
  have hl := Paired.length r
  refine call_len_dictH h0 d (by rw [← hl]; have := ok.2.2; rw [sizeLine_eq] at this; omega) ⟨.int _, H, I.tok _, ⟨_, rfl⟩, ?_⟩
  rw [← hl]
  exact q
/-- sorted(d) -/
def rNSort (K : PySem.W.Frag) : List V → Hp → VK → Prop := fun vs H Q => ∃ (a p : Addr) (xs : List NX), vs = [.ref a] ∧ H a = some (ndO p xs) ∧ NdOk K H xs ∧ PySem.W.AllAlike (xs.map fun x => x.1.data) ∧ PySem.W.Sortable (xs.map fun x => x.1.data) ∧
  (∀ d ∈ xs.map (fun x => x.1.data), d.depth ≤ 60) ∧ ∀ p', H p' = none → Q (.ref p') (upd H p' (.lst (sortVD (xs.map fun x => V.ref x.2.1) (xs.map fun x => x.1.data))))
theorem vals_refs : ∀ l : List Addr, Vals (l.map V.ref) (l.map Value.ref)
  | [] => .nil
  | _ :: l => .cons rfl (vals_refs l)
theorem nd_dpAll {K : PySem.W.Frag} : ∀ {xs : List NX}, (∀ x ∈ xs, NdK K H x.1 x.2.1) → DpAll K H (xs.map fun x => V.ref x.2.1) (xs.map fun x => x.1.data)
  | [], _ => .nil
  | x :: xs, h => .cons (h x List.mem_cons_self).1 (nd_dpAll fun y hy => h y (List.mem_cons_of_mem _ hy))
theorem cr_sortN (hc : X.calm = true) (hu : X.A.units + 64 < cLine) : CallR X (.builtin "sorted") (rNSort X.K) := by
  intro pins s σ H vs us Q I r h
  obtain ⟨a, p, xs, rfl, e, ok, hal, hso, hdep, q⟩ := h
  obtain ⟨u, rfl, ru⟩ := vals1 r
  obtain rfl : u = .ref a := ru
  obtain ⟨rfl, h0, ys, r, o, es, ep, g1, g2, g3, g4, g5, g6⟩ := nd_dict I e ok
  have hraw : s.heap.DictRaw p es ep := ⟨o, g1, g2, g3⟩
  have hes : es.size = xs.length := by
    have z := congrArg List.length g4
    rw [Array.length_toList, List.length_map, ← Paired.length r] at z
    exact z
  have hl16 : es.size ≤ sizeLine := by
    rw [hes]
    exact ok.2.2
  refine Calls.call_function_entry PyProof.Rows.kind_sorted PyProof.Rows.plain_sorted PyProof.Rows.entry_sorted (PyProof.Rows.args_sorted1 _) ?_
  unfold Builtin.«sorted»
  refine wpAny_bind (m := checkCount "sorted" 1 1 _) (wpAny_pure ?_)
  refine wpAny_bind (PySem.W.kdu_collect (A := X.A.in1) (KdlSrc.rawDict (es := es) (ep := ep) h0) (I.ok.hd hc) hraw hl16 fun h' tk acc hk hacc => ?_)
  have hkeys : es.toList.map (·.key) = xs.map fun x => Value.ref x.2.1 := by
    rw [g4, List.map_map, ← nd_adr r]
    exact List.map_congr_left fun y _ => rfl
  have hits : acc.toList = xs.map fun x => Value.ref x.2.1 := by
    rw [← hkeys]
    refine List.ext_getElem? fun j => ?_
    by_cases hj : j < es.size
    · have hj' : j < acc.toList.length := by rw [Array.length_toList, hacc.1]; exact hj
      obtain ⟨hi, e1⟩ := hacc.2 j acc.toList[j] (by rw [← Array.getElem?_toList]; exact List.getElem?_eq_getElem hj')
      rw [List.getElem?_eq_getElem hj', e1, List.getElem?_map, Array.getElem?_toList, Array.getElem?_eq_getElem hi]
      rfl
    · rw [List.getElem?_eq_none (by rw [Array.length_toList, hacc.1]; omega), List.getElem?_eq_none (by rw [List.length_map, Array.length_toList]; omega)]
  have I1 : Inv X pins σ H { s with heap := h', toks := tk } := I.kept hk
  generalize hA : acc.toList = its at hits ⊢
  have hlen : its.length ≤ sizeLine := by
    rw [hits, List.length_map, ← hes]
    exact hl16
  refine wpAny_bind (wpAny_newList ?_ hlen)
  have hoL : (h'.push (seqObj "list" its.toArray 0)).get? h'.objs.size = some (seqObj "list" its.toArray 0) := Heap.get?_push_size _ rfl
  show wpAny _ _ _ _ _ { s with heap := h'.push (seqObj "list" its.toArray 0), toks := tk }
  have rv : Vals (xs.map fun x => V.ref x.2.1) its := by
    rw [hits]
    have z := vals_refs (xs.map fun x => x.2.1)
    rw [List.map_map, List.map_map] at z
    exact z
  have hd := nd_dpAll (K := X.K) (H := H) ok.1
  generalize hD : (xs.map fun x => x.1.data) = ds at hal hso hdep q hd
  generalize hV : (xs.map fun x => V.ref x.2.1) = vs at q hd rv
  have rd0 : PySem.W.EachIs (fun v d => ∃ as, Reads h' v d as) its ds := each_dat (fun u v d r h => Dp.reads I1 d v u h r) rv hd
  have kp0 : ∀ b o, h'.get? b = some o → (h'.push (seqObj "list" its.toArray 0)).get? b = some o := fun b o e => Heap.get?_push_of_some _ e
  have kp : ∀ b o, h'.get? b = some o → (PySem.W.sortingHeap (h'.push (seqObj "list" its.toArray 0)) h'.objs.size its).get? b = some o := fun b o e =>
    PySem.W.sortingHeap_old (Nat.ne_of_lt (Heap.lt_size e)) (kp0 b o e)
  refine wpAny_bind (wpAny_holding (wpAny_call_entry PyProof.Rows.slot_list_sort ⟨_, hoL, rfl⟩ PyProof.Rows.entry_list_sort
    (PySem.W.list_sort_vals (κ := PySem.W.dataKind (PySem.W.sortingHeap (h'.push (seqObj "list" its.toArray 0)) h'.objs.size its) ds) (s := { s with heap := h'.push (seqObj "list" its.toArray 0), toks := tk }) hoL
      (PySem.W.SortsAt.data (s := { s with heap := PySem.W.sortingHeap (h'.push (seqObj "list" its.toArray 0)) h'.objs.size its, toks := tk }) (rd0.mono fun v d ⟨as, e⟩ => ⟨as, reads_keeps kp e⟩) hal hso fun d hd' => ?_) hlen ⟨_, rfl, ?_⟩)
    (PyProof.Rows.args_list_sort _)))
  · have := hdep d hd'
    have e1 : X.A.in1.in1.units = X.A.units + 2 := rfl
    omega
  · have out := PySem.W.sortVals_each (κ := PySem.W.dataKind (PySem.W.sortingHeap (h'.push (seqObj "list" its.toArray 0)) h'.objs.size its) ds) (R := fun u (p : V × PyData) => RelV p.1 u) (rev := false) (ks := its) (vs := its) (bs := vs.zip ds) (fun p => PySem.W.keyToks p.2) (each_zip rv hd)
      (each_key (P := fun u k => (PySem.W.dataKind (PySem.W.sortingHeap (h'.push (seqObj "list" its.toArray 0)) h'.objs.size its) ds).keyOf u = some k) PySem.W.keyToks (ms := ds) (fun u v d r h hm => by
        obtain ⟨as, e⟩ := Dp.reads I1 d v u h r
        exact PySem.W.dataKind_some hal hm (reads_keeps kp e)) (fun _ h => h) rv hd)
    have out := vals_each (P := RelV) (fun _ _ h => h) out
    obtain ⟨n, hn⟩ := PyProof.Rows.sortedHeap_at (vs := its) (out := (PySem.W.sortVals (PySem.W.dataKind (PySem.W.sortingHeap (h'.push (seqObj "list" its.toArray 0)) h'.objs.size its) ds) false its its).toArray) hoL
    refine wpAny_pure ⟨_, rfl, .ref h'.objs.size, upd H h'.objs.size (.lst (sortVD vs ds)), I1.laid (t' := tk) (fun b u e => ?_) (Nat.le_refl _) ⟨?_, _, n, out, hn⟩, rfl, q _ (I1.hok.fresh (Nat.le_refl _))⟩
    · have hb : b < h'.objs.size := Heap.lt_size e
      rw [PyProof.Rows.sortedHeap_old (Nat.ne_of_lt hb) (by rw [size_push']; exact Nat.lt_succ_of_lt hb)]
      exact Heap.get?_push_of_some _ e
    · show (sortVD vs ds).length ≤ sizeLine
      unfold sortVD
      rw [List.length_map, (List.mergeSort_perm _ _).length_eq, List.length_zip, dpAll_len' hd, Nat.min_self, ← dpAll_len' hd, rv.length]
      exact hlen
end
end L3G
namespace L3
open PySem L2
open Evl (Ex ex_rd ex_l ex_t sq_of st_of fresh_back)
instance decSeen : DecidableEq (Int × List (Int × Int × Int)) := inferInstance
/-- data that may be a key of a dict of nested tuples -/
structure NK {κ : Type} (f : κ → PyData) (g : κ → NestedKey) (n : Nat) : Prop where
  dat : ∀ a, (g a).data = f a
  num : ∀ a, L3G.nkNum (g a) = true
  dep : ∀ a, (g a).depth ≤ n
  inj : ∀ a b, g a = g b → a = b
def kTup {κ : Type} (g : κ → NestedKey) (l : List κ) : NestedKey := .tup (l.map g)
def kT2 {κ μ : Type} (g : κ → NestedKey) (h : μ → NestedKey) (p : κ × μ) : NestedKey := .tup [g p.1, h p.2]
section
variable {κ μ : Type} {f : κ → PyData} {g : κ → NestedKey} {f' : μ → PyData} {g' : μ → NestedKey} {n m : Nat}
theorem nk_int : NK PyData.int NestedKey.num 0 := ⟨fun _ => by simp [NestedKey.data], fun _ => by simp [L3G.nkNum], fun _ => by simp [NestedKey.depth], fun _ _ h => by injection h⟩
theorem nk_dats (N : NK f g n) : ∀ l : List κ, NestedKey.datas (l.map g) = l.map f
  | [] => by simp [NestedKey.datas]
  | a :: l => by simp only [List.map_cons, NestedKey.datas, N.dat a, nk_dats N l]
theorem nk_nums (N : NK f g n) : ∀ l : List κ, L3G.nkNums (l.map g) = true
  | [] => by simp [L3G.nkNums]
  | a :: l => by simp only [List.map_cons, L3G.nkNums, N.num a, nk_nums N l, Bool.and_self]
theorem nk_deps (N : NK f g n) : ∀ l : List κ, NestedKey.depthAll (l.map g) ≤ n
  | [] => by simp [NestedKey.depthAll]
  | a :: l => by
    simp only [List.map_cons, NestedKey.depthAll]
    have := N.dep a
    have := nk_deps N l
    omega
theorem nk_injs (N : NK f g n) : ∀ l l' : List κ, l.map g = l'.map g → l = l'
  | [], [], _ => rfl
  | [], _ :: _, h => by simp at h
  | _ :: _, [], h => by simp at h
  | a :: l, b :: l', h => by
    rw [List.map_cons, List.map_cons] at h
    injection h with h1 h2
    rw [N.inj _ _ h1, nk_injs N l l' h2]
theorem nk_tup (N : NK f g n) : NK (dTup f) (kTup g) (n + 1) := ⟨fun l => by simp only [kTup, dTup, NestedKey.data, nk_dats N l], fun l => by simp only [kTup, L3G.nkNum, nk_nums N l],
  fun l => by simp only [kTup, NestedKey.depth]; have := nk_deps N l; omega, fun l l' h => by unfold kTup at h; injection h with h; exact nk_injs N _ _ h⟩
theorem nk_T2 (N : NK f g n) (N' : NK f' g' m) : NK (dT2 f f') (kT2 g g') (max n m + 1) := ⟨fun p => by simp only [kT2, dT2, NestedKey.data, NestedKey.datas, N.dat, N'.dat],
  fun p => by simp only [kT2, L3G.nkNum, L3G.nkNums, N.num, N'.num, Bool.and_self], fun p => by simp only [kT2, NestedKey.depth, NestedKey.depthAll]; have := N.dep p.1; have := N'.dep p.2; omega,
  fun p q h => by
    unfold kT2 at h
    injection h with h
    injection h with h1 h
    injection h with h2 _
    exact Prod.ext (N.inj _ _ h1) (N'.inj _ _ h2)⟩
end
def getA {κ α : Type} [DecidableEq κ] (kvs : List (κ × α)) (k : κ) : Option α := (kvs.find? fun q => decide (q.1 = k)).map (·.2)
def putA {κ α : Type} [DecidableEq κ] (kvs : List (κ × α)) (k : κ) (a : α) : List (κ × α) :=
  if (kvs.any fun q => decide (q.1 = k)) = true then kvs.map fun q => if q.1 = k then (q.1, a) else q else kvs ++ [(k, a)]
def EntN {κ α : Type} (rk : Rep κ) (g : κ → NestedKey) (r : Rep α) (K : Fg) (B : Hp) (x : L3G.NX) (q : κ × α) : Prop := x.1 = g q.1 ∧ rk.is K B (.ref x.2.1) q.1 ∧ r.is K B x.2.2 q.2
theorem entN_mono {κ α : Type} {rk : Rep κ} {g : κ → NestedKey} {r : Rep α} {K : Fg} {B B' : Hp} (e : Ex B B') : ∀ {xs : List L3G.NX} {as : List (κ × α)}, Paired (EntN rk g r K B) xs as → Paired (EntN rk g r K B') xs as
  | _, _, .nil => .nil
  | _, _, .cons h t => .cons ⟨h.1, rk.mono e h.2.1, r.mono e h.2.2⟩ (entN_mono e t)
def cN {κ α : Type} (rk : Rep κ) (g : κ → NestedKey) (r : Rep α) : CRep (List (κ × α)) :=
  ⟨fun K B o kvs => ∃ p xs, o = L3G.ndO p xs ∧ Paired (EntN rk g r K B) xs kvs ∧ (kvs.map fun q : κ × α => q.1).Nodup ∧ kvs.length ≤ sizeLine, fun e ⟨p, xs, h1, h2, h3⟩ => ⟨p, xs, h1, entN_mono e h2, h3⟩⟩
section
variable {K : Fg} {M : Fr} {σ : St} {B B' H H' : Hp} {L L1 L2 L3 L' : List Cell} {κ α : Type} [DecidableEq κ] {rk : Rep κ} {f : κ → PyData} {g : κ → NestedKey} {n m : Nat} {r : Rep α} {ta tb te : TE} {D : Ends} {tz : TS}
theorem entN_any (N : NK f g m) (k : κ) : ∀ {xs : List L3G.NX} {kvs : List (κ × α)}, Paired (EntN rk g r K B) xs kvs → (xs.any fun x => decide (x.1 = g k)) = kvs.any fun q => decide (q.1 = k)
  | _, _, .nil => rfl
  | _, _, @Paired.cons _ _ _ x q xs kvs h t => by
    rw [List.any_cons, List.any_cons, entN_any N k t, h.1]
    congr 1
    exact decide_eq_decide.mpr ⟨N.inj _ _, fun e => by rw [e]⟩
theorem entN_find (N : NK f g m) (k : κ) : ∀ {xs : List L3G.NX} {kvs : List (κ × α)}, Paired (EntN rk g r K B) xs kvs → match getA kvs k with
    | none => L3G.findN xs (g k) = none
    | some a => ∃ v, L3G.findN xs (g k) = some v ∧ r.is K B v a
  | _, _, .nil => rfl
  | _, _, @Paired.cons _ _ _ x q xs kvs h t => by
    have ih := entN_find N k t
    by_cases hk : q.1 = k
    · have e1 : getA (q :: kvs) k = some q.2 := by simp [getA, List.find?_cons, hk]
      have e2 : L3G.findN (x :: xs) (g k) = some x.2.2 := by simp [L3G.findN, List.find?_cons, h.1, hk]
      rw [e1]
      exact ⟨_, e2, h.2.2⟩
    · have hk' : ¬ x.1 = g k := fun z => hk (N.inj _ _ (h.1.symm.trans z))
      have e1 : getA (q :: kvs) k = getA kvs k := by simp [getA, List.find?_cons, hk]
      have e2 : L3G.findN (x :: xs) (g k) = L3G.findN xs (g k) := by simp [L3G.findN, List.find?_cons, hk']
      rw [e1, e2]
      exact ih
theorem entN_some (N : NK f g m) (k : κ) {xs : List L3G.NX} {kvs : List (κ × α)} (h : Paired (EntN rk g r K B) xs kvs) : (L3G.findN xs (g k)).isSome = (getA kvs k).isSome := by
  have z := entN_find N k h
  cases e : getA kvs k with
  | none => rw [e] at z; rw [z]; rfl
  | some a => rw [e] at z; obtain ⟨v, z, _⟩ := z; rw [z]; rfl
theorem entN_repl (N : NK f g m) (k : κ) {v : V} {a : α} (hv : r.is K B v a) : ∀ {xs : List L3G.NX} {kvs : List (κ × α)}, Paired (EntN rk g r K B) xs kvs → Paired (EntN rk g r K B) (xs.map fun x => if x.1 = g k then (x.1, x.2.1, v) else x) (kvs.map fun q => if q.1 = k then (q.1, a) else q)
  | _, _, .nil => .nil
  | _, _, @Paired.cons _ _ _ x q xs kvs h t => by
    rw [List.map_cons, List.map_cons]
    refine .cons ?_ (entN_repl N k hv t)
    by_cases hk : q.1 = k
    · rw [if_pos hk, if_pos (by rw [h.1, hk])]; exact ⟨h.1, h.2.1, hv⟩
    · rw [if_neg hk, if_neg (fun z => hk (N.inj _ _ (h.1.symm.trans z)))]; exact h
theorem entN_put (N : NK f g m) {k : κ} {b : Addr} (hb : rk.is K B (.ref b) k) {v : V} {a : α} (hv : r.is K B v a) {xs : List L3G.NX} {kvs : List (κ × α)} (h : Paired (EntN rk g r K B) xs kvs) : Paired (EntN rk g r K B) (L3G.putN xs (g k) b v) (putA kvs k a) := by
  unfold L3G.putN putA
  rw [entN_any N k h]
  by_cases hc : (kvs.any fun q => decide (q.1 = k)) = true
  · rw [if_pos hc, if_pos hc]; exact entN_repl N k hv h
  · rw [if_neg hc, if_neg hc]; exact paired_app h (.cons ⟨rfl, hb, hv⟩ .nil)
theorem putA_len (kvs : List (κ × α)) (k : κ) (a : α) : (putA kvs k a).length ≤ kvs.length + 1 := by
  unfold putA
  split
  · rw [List.length_map]; omega
  · rw [List.length_append]; simp
theorem putA_keys (kvs : List (κ × α)) (k : κ) (a : α) : (putA kvs k a).map (·.1) = if k ∈ kvs.map (·.1) then kvs.map (·.1) else kvs.map (·.1) ++ [k] := by
  unfold putA
  by_cases hk : k ∈ kvs.map (·.1)
  · rw [if_pos hk, if_pos (by
      obtain ⟨q, hq, e⟩ := List.mem_map.mp hk
      exact List.any_eq_true.mpr ⟨q, hq, decide_eq_true e⟩), List.map_map]
    refine List.map_congr_left fun q _ => ?_
    show (if q.1 = k then (q.1, a) else q).1 = q.1
    split <;> rfl
  · rw [if_neg hk, if_neg (fun z => by
      obtain ⟨q, hq, e⟩ := List.any_eq_true.mp z
      exact hk (List.mem_map.mpr ⟨q, hq, of_decide_eq_true e⟩)), List.map_append]
    rfl
theorem putA_nodup {kvs : List (κ × α)} (k : κ) (a : α) (h : (kvs.map (·.1)).Nodup) : ((putA kvs k a).map (·.1)).Nodup := by
  rw [putA_keys]
  split
  · exact h
  · rename_i hk
    refine List.nodup_append.mpr ⟨h, by simp, fun x hx y hy => ?_⟩
    rw [List.mem_singleton.mp hy]
    exact fun e => hk (e ▸ hx)
theorem entN_ok (Dk : DR rk f n) (N : NK f g m) (hm : m ≤ 8) (e : Ex B H) : ∀ {xs : List L3G.NX} {kvs : List (κ × α)}, Paired (EntN rk g r K B) xs kvs → ∀ x ∈ xs, L3G.NdK K H x.1 x.2.1
  | _, _, .nil, _, h => absurd h (by simp)
  | _, _, @Paired.cons _ _ _ y q xs kvs h t, x, hx => by
    rcases List.mem_cons.mp hx with z | hx
    · subst z
      refine ⟨?_, ?_, ?_⟩
      · rw [h.1, N.dat]; exact Dk.dp K H _ _ (rk.mono e h.2.1)
      · rw [h.1]; exact N.num _
      · rw [h.1]; exact Nat.le_trans (N.dep _) hm
    · exact entN_ok Dk N hm e t x hx
theorem entN_keys : ∀ {xs : List L3G.NX} {kvs : List (κ × α)}, Paired (EntN rk g r K B) xs kvs → xs.map (·.1) = (kvs.map (·.1)).map g
  | _, _, .nil => rfl
  | _, _, .cons h t => by rw [List.map_cons, List.map_cons, List.map_cons, entN_keys t, h.1]
theorem entN_all (Dk : DR rk f n) (N : NK f g m) (hm : m ≤ 8) (e : Ex B H) {xs : List L3G.NX} {kvs : List (κ × α)} (h : Paired (EntN rk g r K B) xs kvs) (hn : (kvs.map (·.1)).Nodup) (hl : kvs.length ≤ sizeLine) : L3G.NdOk K H xs := by
  refine ⟨entN_ok Dk N hm e h, ?_, by rw [paired_len h]; exact hl⟩
  rw [entN_keys h]
  exact List.Pairwise.map g (fun a b ne z => ne (N.inj _ _ z)) hn
theorem ndk_of (Dk : DR rk f n) (N : NK f g m) (hm : m ≤ 8) (e : Ex B H) {b : Addr} {k : κ} (h : rk.is K B (.ref b) k) : L3G.NdK K H (g k) b := ⟨by rw [N.dat]; exact Dk.dp K H _ _ (rk.mono e h), N.num _, Nat.le_trans (N.dep _) hm⟩
theorem dp_ref {K : Fg} {H : Hp} {v : V} {ds : List PyData} (h : Dp K H v (.tuple ds)) : ∃ b, v = .ref b := by
  cases h
  exact ⟨_, rfl⟩
theorem q_asgN {i : Nat} (w : Own K B M L H) (q : ∀ p H', Own K B M (⟨p, cN rk g r, []⟩ :: L) H' → tz D (σ.set i (some (.ref p))) H') : tSeq (tAsg L3G.tDNewN (gName i)) tz D σ H :=
  fun p hp => q p _ (w.new hp ⟨p, [], rfl, .nil, List.nodup_nil, Nat.zero_le _⟩)
theorem q_setN {i j : Nat} {p : Addr} {as : List (κ × α)} {a : α} {k : κ} (Dk : DR rk f n) (N : NK f g m) (hm : m ≤ 8) (T : ∀ k, ∃ ds, f k = .tuple ds) (w : Own K B M L H) (h : EV K M te σ B L r a L1) (hs : σ[j]? = some (some (.ref p))) (hb : EV K M tb σ B L1 rk k L2) (hc : L2[i]? = some ⟨p, cN rk g r, as⟩) (hr : room as.length = some ())
    (q : ∀ B' H', Ex B B' → Own K B' M (L2.set i ⟨p, cN rk g r, putA as k a⟩) H' → tz D σ H') : tSeq (tAsg te (gSub (tVar j) tb (L3G.rSetN K))) tz D σ H :=
  h B H (Ex.refl _) w _ fun v B1 H1 e1 w1 hv => ⟨_, hs, hb B1 H1 e1 w1 _ fun y B2 H2 e2 w2 hy => by
    obtain ⟨⟨o', g1, p', xs, g2, g3, g4, g5⟩, _⟩ := w2.at hc
    have g1 : H2 p = some o' := g1
    obtain ⟨ds, ek⟩ := T k
    obtain ⟨b, rfl⟩ := dp_ref (by rw [← ek]; exact Dk.dp K B2 _ _ hy)
    refine ⟨p, p', xs, b, g k, rfl, rfl, by rw [g1, g2], entN_all Dk N hm w2.b g3 g4 g5, ndk_of Dk N hm w2.b hy, q B2 _ (e1.trans e2) (w2.set hc ⟨p, _, rfl, entN_put N hy (r.mono e2 hv) g3, putA_nodup _ _ g4, ?_⟩)⟩
    have := putA_len as k a
    have := room_some hr
    omega⟩
theorem ev_nGet {i : Nat} {p : Addr} {kvs : List (κ × α)} {k : κ} {a : α} (Dk : DR rk f n) (N : NK f g m) (hm : m ≤ 8) (T : ∀ k, ∃ ds, f k = .tuple ds) (h : EV K M ta σ B L rRef p L1) (h' : EV K M tb σ B L1 rk k L2) (hc : L2[i]? = some ⟨p, cN rk g r, kvs⟩) (e : getA kvs k = some a) : EV K M (L3G.tNGet K ta tb) σ B L r a L2 := fun B1 H e1 w Q q =>
  h B1 H e1 w _ fun x B2 H2 e2 w2 hx => h' B2 H2 (e1.trans e2) w2 _ fun u B3 H3 e3 w3 hu => by
    obtain ⟨⟨o', g1, p', xs, g2, g3, g4, g5⟩, _⟩ := w3.at hc
    have g1 : H3 p = some o' := g1
    obtain ⟨ds, ek⟩ := T k
    obtain ⟨b, rfl⟩ := dp_ref (by rw [← ek]; exact Dk.dp K B3 _ _ hu)
    have z := entN_find N k g3
    rw [e] at z
    obtain ⟨v, zv, zr⟩ := z
    exact ⟨p, p', xs, b, g k, v, hx, rfl, by rw [g1, g2], entN_all Dk N hm w3.b g3 g4 g5, ndk_of Dk N hm w3.b hu, zv, q _ B3 H3 (e2.trans e3) w3 zr⟩
theorem ev_nIn {i : Nat} {p : Addr} {kvs : List (κ × α)} {k : κ} (Dk : DR rk f n) (N : NK f g m) (hm : m ≤ 8) (T : ∀ k, ∃ ds, f k = .tuple ds) (h' : EV K M tb σ B L rk k L1) (h : EV K M ta σ B L1 rRef p L2) (hc : L2[i]? = some ⟨p, cN rk g r, kvs⟩) : EV K M (tOp (L3G.rNIn K) tb ta) σ B L rBool (getA kvs k).isSome L2 :=
  ev_op h' h fun B3 H3 u x Q w3 hu hx q => by
    obtain ⟨⟨o', g1, p', xs, g2, g3, g4, g5⟩, _⟩ := w3.at hc
    have g1 : H3 p = some o' := g1
    obtain ⟨ds, ek⟩ := T k
    obtain ⟨b, rfl⟩ := dp_ref (by rw [← ek]; exact Dk.dp K B3 _ _ hu)
    exact ⟨p, p', xs, b, g k, hx, rfl, by rw [g1, g2], entN_all Dk N hm w3.b g3 g4 g5, ndk_of Dk N hm w3.b hu, q _ (by rw [entN_some N k g3]; rfl)⟩
theorem ev_nNi {i : Nat} {p : Addr} {kvs : List (κ × α)} {k : κ} (Dk : DR rk f n) (N : NK f g m) (hm : m ≤ 8) (T : ∀ k, ∃ ds, f k = .tuple ds) (h' : EV K M tb σ B L rk k L1) (h : EV K M ta σ B L1 rRef p L2) (hc : L2[i]? = some ⟨p, cN rk g r, kvs⟩) : EV K M (tOp (L3G.rNNi K) tb ta) σ B L rBool (!(getA kvs k).isSome) L2 :=
  ev_op h' h fun B3 H3 u x Q w3 hu hx q => by
    obtain ⟨⟨o', g1, p', xs, g2, g3, g4, g5⟩, _⟩ := w3.at hc
    have g1 : H3 p = some o' := g1
    obtain ⟨ds, ek⟩ := T k
    obtain ⟨b, rfl⟩ := dp_ref (by rw [← ek]; exact Dk.dp K B3 _ _ hu)
    exact ⟨p, p', xs, b, g k, hx, rfl, by rw [g1, g2], entN_all Dk N hm w3.b g3 g4 g5, ndk_of Dk N hm w3.b hu, q _ (by rw [entN_some N k g3]; rfl)⟩
theorem ev_nLen {i : Nat} {p : Addr} {kvs : List (κ × α)} (Dk : DR rk f n) (N : NK f g m) (hm : m ≤ 8) (h : EV K M ta σ B L rRef p L1) (hc : L1[i]? = some ⟨p, cN rk g r, kvs⟩) : EV K M (tCB (L3G.rNLen K) (tCons ta tNil)) σ B L rInt ((kvs.length : Nat) : Int) L1 :=
  ev_cb1 h fun B3 H3 x Q w3 hx q => by
    obtain ⟨⟨o', g1, p', xs, g2, g3, g4, g5⟩, _⟩ := w3.at hc
    have g1 : H3 p = some o' := g1
    exact ⟨p, p', xs, congrArg (fun z => [z]) hx, by rw [g1, g2], entN_all Dk N hm w3.b g3 g4 g5, q _ (by rw [paired_len g3]; rfl)⟩
theorem entN_refs : ∀ {xs : List L3G.NX} {kvs : List (κ × α)}, Paired (EntN rk g r K B) xs kvs → Paired (rk.is K B) (xs.map fun x => V.ref x.2.1) (kvs.map (·.1))
  | _, _, .nil => .nil
  | _, _, .cons h t => .cons h.2.1 (entN_refs t)
theorem el_sortN {i : Nat} {p : Addr} {kvs : List (κ × α)} (Dk : DR rk f n) (hn : n ≤ 60) (N : NK f g m) (hm : m ≤ 8) (A : DA f) (S : DSo f) (h : EV K M ta σ B L rRef p L1) (hc : L1[i]? = some ⟨p, cN rk g r, kvs⟩) : EVL K M (tCB (L3G.rNSort K) (tCons ta tNil)) σ B L rk (sortBy f (kvs.map (·.1))) L1 := fun B1 H e w Q q =>
  h B1 H e w _ fun x B2 H2 e2 w2 hx => by
    obtain ⟨⟨o', g1, p', xs, g2, g3, g4, g5⟩, _⟩ := w2.at hc
    have g1 : H2 p = some o' := g1
    have hx : x = .ref p := hx
    subst hx
    have ed : (xs.map fun x => x.1.data) = (kvs.map (·.1)).map f := by
      have z := congrArg (List.map NestedKey.data) (entN_keys g3)
      rw [List.map_map, List.map_map] at z
      refine z.trans (List.map_congr_left fun k _ => N.dat k)
    refine ⟨p, p', xs, rfl, by rw [g1, g2], entN_all Dk N hm w2.b g3 g4 g5, ?_, ?_, ?_, fun l hl => ?_⟩
    · rw [ed]
      intro d hd d' hd'
      obtain ⟨a, _, rfl⟩ := List.mem_map.mp hd
      obtain ⟨b, _, rfl⟩ := List.mem_map.mp hd'
      exact A.al a b
    · rw [ed]; exact S.so _
    · rw [ed]
      intro d hd
      obtain ⟨a, _, rfl⟩ := List.mem_map.mp hd
      exact Nat.le_trans (Dk.dep a) hn
    · rw [ed]
      exact q l B2 _ e2 (w2.new hl ⟨_, rfl, sortVD_is (entN_refs g3)⟩)
/-- d.get(k, x), d ours -/
theorem ev_mGet2 {i : Nat} {p : Addr} {kvs : List (Int × α)} {k : Int} {a : α} {tc : TE} (h : EV K M ta σ B L rRef p L1) (h' : EV K M tb σ B L1 rInt k L2) (h'' : EV K M tc σ B L2 r a L3) (hc : L1[i]? = some ⟨p, cMap r, kvs⟩) (hc3 : L3[i]? = some ⟨p, cMap r, kvs⟩) : EV K M (tDGet2 ta tb tc) σ B L r ((getM kvs k).getD a) L3 := fun B1 H e1 w Q q =>
  h B1 H e1 w _ fun x B2 H2 e2 w2 hx => by
    obtain ⟨⟨o', g1, es, g2, g3⟩, _⟩ := w2.at hc
    have g1 : H2 p = some o' := g1
    refine ⟨p, hx, .inl ⟨es, .inl (by rw [g1, g2])⟩, h' B2 H2 (e1.trans e2) w2 _ fun u B3 H3 e3 w3 hu => h'' B3 H3 ((e1.trans e2).trans e3) w3 _ fun z B4 H4 e4 w4 hz => ?_⟩
    obtain ⟨⟨o', g1, es, g2, g3⟩, _⟩ := w4.at hc3
    have g1 : H4 p = some o' := g1
    have hu : u = .int k := hu
    subst hu
    refine ⟨_, .inl ⟨es, Sum.inl k, .inl (by rw [g1, g2]), rfl, rfl⟩, q _ B4 H4 ((e2.trans e3).trans e4) w4 ?_⟩
    have g := entM_get k g3
    cases e : getM kvs k with
    | none => rw [e] at g; rw [g]; exact hz
    | some a => rw [e] at g; obtain ⟨v, gv, gr⟩ := g; rw [gv]; exact gr
/-- rows[i].append(e) -/
theorem q_appRow {A : List Cell} {p : Addr} {ps : List Addr} {rs : List (List α)} {m jj : Nat} {a : α} {i : Int} (w : Own K B M (A ++ rowsC p ps r rs) H) (hs : σ[m]? = some (some (.ref p))) (hi : EV K M ta σ B (A ++ rowsC p ps r rs) rInt i (A ++ rowsC p ps r rs)) (hj : ixO rs.length i = some jj)
    (h : EV K M te σ B (A ++ rowsC p ps r rs) r a (A ++ rowsC p ps r rs)) (hr : room (rs.getD jj []).length = some ())
    (qq : ∀ B' H', Ex B B' → Own K B' M (A ++ rowsC p ps r (rs.set jj (rs.getD jj [] ++ [a]))) H' → tz D σ H') : tSeq (tDrop (tBM K "list" rAppend (tOp (rIx K) (tVar m) ta) (tCons te tNil))) tz D σ H :=
  ⟨_, hs, hi B H (Ex.refl _) w _ fun y B2 H2 e2 w2 hy => by
    obtain ⟨h1, h2⟩ := w2.rows
    have hn : ixN rs.length i = some jj := hj
    have hjl : jj < ps.length := by rw [h2]; exact (ixN_seq hn).2.1
    have hq : ps[jj]? = some ps[jj] := List.getElem?_eq_getElem hjl
    refine .inl ⟨p, ps.map V.ref, i, .ref ps[jj], rfl, hy, sq_of h1, ?_, ?_⟩
    · unfold atI
      rw [List.length_map, h2, hn]
      show (ps.map V.ref)[jj]? = _
      rw [List.getElem?_map, hq]
      rfl
    · obtain ⟨⟨o0, g0, ys, g9, _⟩, _⟩ := w2.at (w2.row hq)
      have g0 : H2 ps[jj] = some o0 := g0
      refine ⟨.inl ⟨rfl, _, sq_of (xs := ys) (by rw [g0, g9])⟩, h B2 H2 e2 w2 _ fun v B3 H3 e3 w3 hv => ?_⟩
      have hc := w3.row hq
      obtain ⟨⟨o', g1, xs, g2, g3⟩, _⟩ := w3.at hc
      have g1 : H3 ps[jj] = some o' := g1
      have w4 := w3.set hc (c' := cLst r) (o := .lst (xs ++ [v])) ⟨_, rfl, paired_app g3 (.cons hv .nil)⟩
      rw [row_set A hq] at w4
      exact ⟨ps[jj], xs, v, rfl, rfl, by rw [g1, g2], by rw [paired_len g3]; exact room_some hr, qq B3 _ (e2.trans e3) w4⟩⟩
/-- min(i, j) -/
def rMin2 : List V → Hp → VK → Prop := fun xs H Q => ∃ i j, xs = [.int i, .int j] ∧ Q (.int (if j < i then j else i)) H
def minII (i j : Int) : Int := if j < i then j else i
theorem ev_min2 {i j : Int} (ha : EV K M ta σ B L rInt i L1) (hb : EV K M tb σ B L1 rInt j L2) : EV K M (tCB rMin2 (tCons ta (tCons tb tNil))) σ B L rInt (minII i j) L2 :=
  ev_cb (ea_cons ha (ea_cons hb ea_nil)) fun B1 H1 vs Q w hv q => by
    match vs, hv with
    | [_, _], ⟨h1, h2, _⟩ => exact ⟨i, j, by rw [show _ = V.int i from h1, show _ = V.int j from h2], q _ rfl⟩
/-- x in l, l a list of ours of data -/
theorem any_eqv {f : α → PyData} {n : Nat} [DecidableEq α] (Dk : DR r f n) (k : α) : ∀ xs : List α, ((xs.map f).any fun z => PyData.eqv z (f k)) = decide (k ∈ xs)
  | [] => rfl
  | a :: l => by
    rw [List.map_cons, List.any_cons, any_eqv Dk k l]
    by_cases e : a = k
    · rw [(Dk.eqv a k).mpr e, e]; simp
    · have : PyData.eqv (f a) (f k) = false := Bool.eq_false_iff.mpr fun z => e ((Dk.eqv a k).mp z)
      rw [this, Bool.false_or]
      exact decide_eq_decide.mpr ⟨fun z => List.mem_cons_of_mem _ z, fun z => (List.mem_cons.mp z).resolve_left fun z => e z.symm⟩
/-- k in xs, as a test -/
def memT {α : Type} [DecidableEq α] (k : α) (xs : List α) : Bool := decide (k ∈ xs)
theorem lst_dp {f : α → PyData} {n i : Nat} {p : Addr} {xs : List α} (Dk : DR r f n) (w : Own K B M L H) (hc : L[i]? = some ⟨p, cLst r, xs⟩) : Dp K H (.ref p) (.list (xs.map f)) := by
  obtain ⟨⟨o, g1, vs, g2, g3⟩, _⟩ := w.at hc
  have g1 : H p = some o := g1
  exact .lst (sq_of (by rw [g1, g2])) (dpAll_mono w.b (dpAll_of (Dk.dp K B) g3))
theorem ev_inDC {f : α → PyData} {n i : Nat} {p : Addr} {xs : List α} {k : α} [DecidableEq α] (Dk : DR r f n) (hn : n + 1 ≤ 64) (h' : EV K M tb σ B L r k L1) (h : EV K M ta σ B L1 rRef p L2) (hc : L2[i]? = some ⟨p, cLst r, xs⟩) : EV K M (tOp (rInD K) tb ta) σ B L rBool (memT k xs) L2 :=
  ev_op h' h fun B3 H3 u x Q w hu hx q => by
    obtain rfl : x = .ref p := hx
    exact ⟨f k, xs.map f, dp_mono w.b (Dk.dp _ _ _ _ hu), lst_dp Dk w hc, Dk.sh (by omega) k, (dr_lst Dk).sh hn xs, q _ (by rw [any_eqv Dk]; rfl)⟩
theorem ev_niDC {f : α → PyData} {n i : Nat} {p : Addr} {xs : List α} {k : α} [DecidableEq α] (Dk : DR r f n) (hn : n + 1 ≤ 64) (h' : EV K M tb σ B L r k L1) (h : EV K M ta σ B L1 rRef p L2) (hc : L2[i]? = some ⟨p, cLst r, xs⟩) : EV K M (tOp (rNotInD K) tb ta) σ B L rBool (!memT k xs) L2 :=
  ev_op h' h fun B3 H3 u x Q w hu hx q => by
    obtain rfl : x = .ref p := hx
    exact ⟨f k, xs.map f, dp_mono w.b (Dk.dp _ _ _ _ hu), lst_dp Dk w hc, Dk.sh (by omega) k, (dr_lst Dk).sh hn xs, q _ (by rw [any_eqv Dk]; rfl)⟩
/-- len(d), d ours -/
def rMLen : List V → Hp → VK → Prop := fun xs H Q => ∃ a kvs, xs = [V.ref a] ∧ H a = some (.dK kvs) ∧ Q (.int kvs.length) H
theorem ev_mLen {i : Nat} {p : Addr} {kvs : List (Int × α)} (h : EV K M ta σ B L rRef p L1) (hc : L1[i]? = some ⟨p, cMap r, kvs⟩) : EV K M (tCB rMLen (tCons ta tNil)) σ B L rInt ((kvs.length : Nat) : Int) L1 :=
  ev_cb1 h fun B3 H3 x Q w hx q => by
    obtain ⟨⟨o', g1, es, g2, g3⟩, _⟩ := w.at hc
    have g1 : H3 p = some o' := g1
    exact ⟨p, es, congrArg (fun z => [z]) hx, by rw [g1, g2], q _ (by rw [paired_len g3]; rfl)⟩
end
end L3

/-! defs that raise one error of an own class; data taken apart -/
namespace L3
open PySem L2
open Evl (Ex ex_rd ex_l ex_t sq_of st_of fresh_back)
/-! ### own classes -/
def clsA (K : Fg) (x : Str) : Option Addr := match PySem.W.nsIn K mainGlobals x with
  | some (some (.ref a)) => some a
  | _ => none
/-- the class x may be raised -/
structure RaiseC (K : Fg) (mg : Str → Option Value) (x : Str) (C : Addr) : Prop where
  gl : mg x = some (.ref C)
  ow : PySem.W.excIn K C PySem.HandSPX.veTail "ValueError.__new__" = true
  kp : PySem.W.keepIn K (.ref C) = true
  ex : PySem.W.subIn K (.ref C) (.type "BaseException") = some true
  ty : PySem.W.typeIn K (.ref C) = some (.type "type")
def raiseB (K : Fg) (x : Str) : Bool := match clsA K x with
  | some C => PySem.W.excIn K C PySem.HandSPX.veTail "ValueError.__new__" && (PySem.W.keepIn K (.ref C) && (decide (PySem.W.subIn K (.ref C) (.type "BaseException") = some true) && decide (PySem.W.typeIn K (.ref C) = some (.type "type"))))
  | none => false
theorem clsA_gl {K : Fg} {h : Heap} {mg : Str → Option Value} {x : Str} {C : Addr} (X : K.In h) (G : h.Ns mainGlobals mg) (e : clsA K x = some C) : mg x = some (.ref C) := by
  unfold clsA at e
  split at e
  · rename_i a ha
    obtain rfl := Option.some.inj e
    exact PySem.W.mg_of X G ha
  · cases e
theorem raiseB_ok {K : Fg} {h : Heap} {mg : Str → Option Value} {x : Str} {C : Addr} (X : K.In h) (G : h.Ns mainGlobals mg) (eC : clsA K x = some C) (e : raiseB K x = true) : RaiseC K mg x C := by
  unfold raiseB at e
  rw [eC] at e
  obtain ⟨h1, e⟩ := Bool.and_eq_true_iff.mp e
  obtain ⟨h2, e⟩ := Bool.and_eq_true_iff.mp e
  obtain ⟨h3, h4⟩ := Bool.and_eq_true_iff.mp e
  exact ⟨clsA_gl X G eC, h1, h2, of_decide_eq_true h3, of_decide_eq_true h4⟩
def excCB (K : Fg) (D : Addr) : Bool :=
  decide (PySem.W.findIn K (.ref D) "__getattribute__" = some (some (.builtin "BaseException.__getattribute__"))) && (decide (PySem.W.findIn K (.ref D) "__getattr__" = some none) && (decide (PySem.W.subIn K (.ref D) (.type "BaseException") = some true) && (PySem.W.hasDictIn K D &&
    (decide (PySem.W.findIn K (.ref D) "__class__" = some (some (.builtin "object.__class__"))) && (decide (PySem.W.specialIn K (.builtin "object.__class__") "__get__" = some (some (.builtin "getset_descriptor.__get__"))) && (decide (PySem.W.takesIn K (.builtin "object.__class__") = some true) && decide (PySem.W.mroIn K D (.type "object") = some true)))))))
theorem excCB_ok {K : Fg} {D : Addr} (h : excCB K D = true) : ExcC K D := by
  obtain ⟨h1, h⟩ := Bool.and_eq_true_iff.mp h
  obtain ⟨h2, h⟩ := Bool.and_eq_true_iff.mp h
  obtain ⟨h3, h⟩ := Bool.and_eq_true_iff.mp h
  obtain ⟨h4, h⟩ := Bool.and_eq_true_iff.mp h
  obtain ⟨h5, h⟩ := Bool.and_eq_true_iff.mp h
  obtain ⟨h6, h⟩ := Bool.and_eq_true_iff.mp h
  obtain ⟨h7, h8⟩ := Bool.and_eq_true_iff.mp h
  exact ⟨of_decide_eq_true h1, of_decide_eq_true h2, of_decide_eq_true h3, h4, of_decide_eq_true h5, of_decide_eq_true h6, of_decide_eq_true h7, of_decide_eq_true h8⟩
/-! ### defs that may raise -/
def oArg {α : Type} (r : Rep α) : α ⊕ Unit → Arg ⊕ Unit
  | .inl v => .inl ⟨r, v⟩
  | .inr u => .inr u
/-- the promise: a value, or the error of the class at cx -/
def spVX (K : Fg) (T : List Addr) (cx : Addr) (C : List Arg → List Cell → Arg ⊕ Unit → List Cell → Prop) : Sp := fun vs H Q E => ∃ B M L as o L', M.T = T ∧ Own K B M L H ∧ ArgsIs K B vs as ∧ C as L o L' ∧
  (∀ r : Arg, o = .inl r → ∀ v B' H', Ex B B' → Own K B' M L' H' → r.is K B' v → Q v H') ∧ (o = .inr () → ∀ B' H', Ex B B' → Own K B' M L' H' → E (.ref cx) none H')
theorem FunC.okX {P : Program} {w : World} {K : Fg} {mg : Str → Option Value} {base : Heap} {x : Str} {st : Stmt} {f : Addr} {fd : FuncData} {c : Addr} {N ps : List Str} {k : Nat} {sp : Sp} (F : FunC K x st f fd c) (S : FnScope N ps (defScope st)) (len : ∀ vs H Q E, sp vs H Q E → vs.length = ps.length)
    (hbody : ∀ (A : Around) (outer : List Env) (s : Shared) (H : Hp) (vs : List V) (Q : VK) (E : XK), Room k (A.deeper (PyProof.Rows.envOfC x (defScope st) s.heap.objs.size f (.ref c))) → sp vs H Q E →
      ∃ t, PSs (cxOf (CX P w) P w K mg base N x (defScope st) f (.ref c) A outer s H E) (defBody st) t ∧ t { nx := fun _ H' => Q .non H', rt := Q } (start N vs) H) : FnOk P w K mg base (CX P w) (k + 1) f fd ps sp := by
  obtain ⟨oc, od, kV, doc, pm, an, ct, osl, rfl, lk, hcd⟩ := F.ex
  exact fn_of lk hcd S len hbody
section
variable {P : Program} {w : World} {K : Fg} {mg : Str → Option Value} {base : Heap} {N : List Str} {q : Str} {sc : Scope} {f : Addr} {cd : Value} {A : Around} {outer : List Env} {s : Shared} {H : Hp} {E : XK}
theorem tk_cx : Takes (cxOf (CX P w) P w K mg base N q sc f cd A outer s H E) (fun cls d _ H => E cls d H) := takes_of rfl rfl rfl rfl
theorem pass_cx : PassesOwn (model P w) (A.deeper (PyProof.Rows.envOfC q sc s.heap.objs.size f cd)) (PyProof.Rows.envOfC q sc s.heap.objs.size f cd) (cxOf (CX P w) P w K mg base N q sc f cd A outer s H E).xe := passes_of (X := cxOf (CX P w) P w K mg base N q sc f cd A outer s H E) rfl
end
/-- raise C(..) -/
def tRz (C : Addr) (t : TA) (W : WX) : TS := fun _ σ H => t σ H fun vs H1 => vs.length ≤ sizeLine ∧ W (.ref C) none σ H1
theorem ps_rz {X : Cx} {W : WX} {x : Str} {C : Addr} {e : Expr} {es : List Expr} {t : TA} {p pos pos' : Pos} (tk : Takes X W) (hc : X.calm = true) (R : RaiseC X.K X.mg x C) (hg : Gl X x) (ha : PA X (e :: es) t) (hdb : (x == ("__debug__" : Str)) = false := by decide)
    (he : starEach (e :: es) X.env = (false, eval e X.env) :: starEach es X.env := by rfl) (hpl : (backTo pos (starEach es X.env)).any (·.1) = false := by rfl) : PS X (.Raise (some (.Call (.Name x p) (e :: es) [] pos)) none pos') (tRz C t W) :=
  ps_raise hc tk (pmk_ownA PySem.F.excBase_ValueError R.ow R.gl R.kp (raises_own R.ex R.ty) hg ha hdb he hpl)
section
variable {K : Fg} {M : Fr} {σ : St} {B : Hp} {H : Hp} {L L1 L' : List Cell} {D : Ends} {tz : TS} {t : TA} {W : WX} {C : Addr}
theorem args_len' : ∀ {B : Hp} {vs : List V} {as : List Arg}, ArgsIs K B vs as → vs.length = as.length := fun h => args_len h
theorem q_rz {as : List Arg} (w : Own K B M L H) (h : EA K M t σ B L as L1) (hl : Nat.ble as.length 100 = true) (q : ∀ B' H', Ex B B' → Own K B' M L1 H' → W (.ref C) none σ H') : tSeq (tRz C t W) tz D σ H :=
  h B H (Ex.refl _) w _ fun vs B2 H2 e2 w2 hv => ⟨by
    rw [args_len hv]
    exact Nat.le_trans (Nat.le_of_ble_eq_true hl) (by decide), q B2 H2 e2 w2⟩
end
/-- a def that may raise, called by its name -/
structure ClX (P : Program) (w : World) (K : Fg) (mg : Str → Option Value) (base : Heap) (k : Nat) (x : Str) (sp : Sp) : Prop where
  ex : ∃ (f : Addr) (fd : FuncData) (ps : List Str), FnOk P w K mg base (CX P w) k f fd ps sp ∧ mg x = some (.ref f) ∧ PySem.W.keepIn K (.ref f) = true ∧ Binds K fd ps []
theorem pe_cx {X : Cx} {k j : Nat} {x : Str} {sp : Sp} {p pos : Pos} {e : Expr} {es : List Expr} {t : TA} {W : WX} (tk : Takes X W) (c : ClX X.prog X.w X.K X.mg X.base k x sp) (hr : Room j X.A) (hk : k ≤ j) (hg : Gl X x) (ha : PA X (e :: es) t)
    (hdb : (x == ("__debug__" : Str)) = false := by decide) (he : starEach (e :: es) X.env = (false, eval e X.env) :: starEach es X.env := by rfl) (hpl : (backTo pos (starEach es X.env)).any (·.1) = false := by rfl) :
    PE X (.Call (.Name x p) (e :: es) [] pos) (tCallS sp (WE W) t) := by
  obtain ⟨f, fd, ps, F, hm, kp, b⟩ := c.ex
  exact pe_callS F (hr.mono hk) hg hm kp b (fun σ => passAt tk σ) ha hdb he hpl
theorem pss_when {X : Cx} {ss : List Stmt} {p : Prop} {t : TS} (h : p → PSs X ss t) : PSs X ss (fun D σ H => p ∧ t D σ H) := ⟨fun pins s σ H D I q => (h q.1).run pins s σ H D I q.2⟩
theorem takes_no {X : Cx} : Takes X (fun _ _ _ _ => False) := fun _ _ ⟨_, _, _, _, _, _, _, _, _, _, _, _, _, _, _, _, w⟩ => w.elim
theorem q_retX {K : Fg} {M : Fr} {σ : St} {B H : Hp} {L L1 : List Cell} {D : Ends} {tz : TS} {tA : TA} {sp : Sp} {E : St → XK} {as : List Arg} (w : Own K B M L H) (h : EA K M tA σ B L as L1) (q : ∀ vs B2 H2, Ex B B2 → Own K B2 M L1 H2 → ArgsIs K B2 vs as → sp vs H2 D.rt (E σ)) : tSeq (tRet (tCallS sp E tA)) tz D σ H := h B H (Ex.refl _) w _ q
theorem q_tryRet {K : Fg} {M : Fr} {σ : St} {B H : Hp} {L L1 : List Cell} {D : Ends} {tz : TS} {tA : TA} {sp : Sp} {Wf : Ends → WX} {as : List Arg} (w : Own K B M L H) (h : EA K M tA σ B L as L1) (q : ∀ vs B2 H2, Ex B B2 → Own K B2 M L1 H2 → ArgsIs K B2 vs as → sp vs H2 D.rt (WE (Wf { D with nx := tz D }) σ)) :
    tSeq (fun D σ H => tSeq (tRet (tCallS sp (WE (Wf D)) tA)) tNext D σ H) tz D σ H := h B H (Ex.refl _) w _ q
/-! ### data taken apart -/
noncomputable def unD {α : Type} (f : α → PyData) (d : PyData) : Option α := open Classical in if h : ∃ a, f a = d then some (Classical.choose h) else none
theorem unD_of {α : Type} {f : α → PyData} (inj : ∀ a b, f a = f b → a = b) (a : α) : unD f (f a) = some a := by
  unfold unD
  have h : ∃ b, f b = f a := ⟨a, rfl⟩
  rw [dif_pos h]
  exact congrArg some (inj _ _ (Classical.choose_spec h))
theorem unD_some {α : Type} {f : α → PyData} {d : PyData} {a : α} (h : unD f d = some a) : f a = d := by
  unfold unD at h
  split at h
  · rename_i z
    obtain rfl := Option.some.inj h
    exact Classical.choose_spec z
  · cases h
/-- data of a kind stand as values of that kind -/
structure DI {α : Type} (r : Rep α) (f : α → PyData) : Prop where
  di : ∀ (K : Fg) (B : Hp) (v : V) (a : α), Dp K B v (f a) → r.is K B v a
section
variable {α β : Type} {r : Rep α} {s : Rep β} {f : α → PyData} {g : β → PyData}
theorem di_int : DI rInt PyData.int := ⟨fun K B v a h => by cases h; rfl⟩
theorem di_all (d : DI r f) {K : Fg} {B : Hp} : ∀ {vs : List V} {as : List α}, DpAll K B vs (as.map f) → Paired (r.is K B) vs as
  | _, [], h => by cases h; exact .nil
  | _, a :: as, h => by
    cases h with
    | cons h1 h2 => exact .cons (d.di _ _ _ _ h1) (di_all d h2)
theorem di_tup (d : DI r f) : DI (rTup r) (dTup f) := ⟨fun K B v a h => by
  unfold dTup at h
  cases h with
  | tup h1 h2 => exact ⟨_, _, rfl, h1, di_all d h2⟩⟩
theorem di_T2 (d : DI r f) (e : DI s g) : DI (rT2 r s) (dT2 f g) := ⟨fun K B v a h => by
  unfold dT2 at h
  cases h with
  | tup h1 h2 =>
    cases h2 with
    | cons a1 a2 =>
      cases a2 with
      | cons b1 b2 =>
        cases b2
        exact ⟨_, _, _, rfl, h1, d.di _ _ _ _ a1, e.di _ _ _ _ b1⟩⟩
theorem ev_unD {K : Fg} {M : Fr} {σ : St} {B : Hp} {L L1 : List Cell} {te : TE} {d : PyData} {a : α} (D : DI r f) (h : EV K M te σ B L rDat d L1) (e : unD f d = some a) : EV K M te σ B L r a L1 := fun B1 H e1 w Q q =>
  h B1 H e1 w Q fun v B2 H2 e2 w2 hv => q v B2 H2 e2 w2 (D.di _ _ _ _ (by rw [unD_some e]; exact hv))
theorem dat_lst {K : Fg} {B : Hp} {v : V} {ds : List PyData} (h : (rLst rDat).is K B v ds) : rDat.is K B v (.list ds) := by
  obtain ⟨p, vs, rfl, hs, hp⟩ := rl_sc h
  refine .lst hs ?_
  have go : ∀ {vs : List V} {ds : List PyData}, Paired (rDat.is K B) vs ds → DpAll K B vs ds := by
    intro vs ds h
    induction h with
    | nil => exact .nil
    | cons a _ ih => exact .cons a ih
  exact go hp
end
end L3

/-! texts -/
namespace L3G
open PySem PySem.Spec PyProof.Rows L2
theorem op_mul_str {X : Cx} : OpR X (binaryOp .Mult) (fun x y H Q => ∃ a n, x = .str a ∧ y = .int n ∧ MulOk a n ∧ Q (.str (Txt.mul a n)) H) := by
  intro pins s σ H x y v u Q I rx ry h
  obtain ⟨a, n, rfl, rfl, hok, q⟩ := h
  obtain ⟨t, rfl⟩ := rx
  obtain ⟨t', rfl⟩ := ry
  exact SB.mul hok (fun t' k => ⟨.str (Txt.mul a n), H, I.tok _, ⟨_, rfl⟩, q⟩)
end L3G
namespace L3
open PySem L2
open Evl (Ex ex_rd ex_l ex_t sq_of st_of fresh_back)
def catS (a b : Str) : Option Str := if a.length + b.length ≤ sizeLine then some (a ++ b) else none
def lenS (a : Str) : Option Int := if a.length ≤ sizeLine then some (a.length : Int) else none
def sgn (c : Nat) : Str := ⟨#[c]⟩
def ixS (a : Str) (i : Int) : Option Str := if a.length ≤ sizeLine then (atI a.cps.toList i).map sgn else none
def slS (a : Str) (lo hi : Option Int) : Option Str := if a.length ≤ sizeLine then some (cutS a lo hi) else none
def splitS (a b : Str) : Option (List Str) := if (b.length == 0) = false ∧ a.length + 2 ≤ sizeLine then some (Txt.split a b) else none
def joinS (a : Str) (ys : List Str) : Option Str := if (ys.map (·.length)).sum + ys.length * a.length ≤ 16777216 then some (Txt.join a ys) else none
def intS (a : Str) : Option Int := if a.length ≤ 640 then PySem.intText? a else none
def strI (i : Int) : Option Str := if i.natAbs.log2 < 1920 then some (toString i) else none
def signs (a : Str) : List Str := a.cps.toList.map sgn
def inS (i j : Str) : Bool := !(Builtin.Str.occurrences j i 0 j.length 1).isEmpty
def mulS (a : Str) (n : Int) : Option Str := if a.length ≤ 1000 ∧ -1000 ≤ n ∧ n ≤ 1000 then some (Txt.mul a n) else none
section
variable {K : Fg} {M : Fr} {σ : St} {B : Hp} {L L1 L2 L' : List Cell} {ta tb tc te : TE} {tA : TA} {i j k : Int} {b c : Bool} {x y z : Str}
theorem ev_catS (ha : EV K M ta σ B L rStr x L1) (hb : EV K M tb σ B L1 rStr y L2) (h : catS x y = some z) : EV K M (tOp (fun x y H Q => ∃ i j, x = .str i ∧ y = .str j ∧ i.length + j.length ≤ sizeLine ∧ Q (.str (i ++ j)) H) ta tb) σ B L rStr z L2 :=
  ev_op ha hb fun B2 H2 u v Q _ hu hv q => by
    unfold catS at h
    split at h
    · rename_i hl
      obtain rfl := Option.some.inj h
      exact ⟨x, y, hu, hv, hl, q _ rfl⟩
    · cases h
theorem ev_lenS (ha : EV K M ta σ B L rStr x L1) (h : lenS x = some i) : EV K M (tCB (fun xs H Q => ∃ x, xs = [.str x] ∧ x.length ≤ sizeLine ∧ Q (.int x.length) H) (tCons ta tNil)) σ B L rInt i L1 := fun B1 H e w Q q =>
  ha B1 H e w _ fun v B2 H2 e2 w2 hv => by
    unfold lenS at h
    split at h
    · rename_i hl
      obtain rfl := Option.some.inj h
      exact ⟨x, by rw [show v = V.str x from hv], hl, q _ B2 H2 e2 w2 rfl⟩
    · cases h
theorem ev_ixS (ha : EV K M ta σ B L rStr x L1) (hb : EV K M tb σ B L1 rInt i L2) (h : ixS x i = some z) : EV K M (tOp rIxS ta tb) σ B L rStr z L2 :=
  ev_op ha hb fun B2 H2 u v Q _ hu hv q => by
    unfold ixS at h
    split at h
    · rename_i hl
      obtain ⟨c, hc, rfl⟩ := Option.map_eq_some_iff.mp h
      exact ⟨x, i, c, hu, hv, hl, hc, q _ rfl⟩
    · cases h
theorem ev_slS {tl th : _root_.L2.TO} {lo hi : Option Int} (h : EV K M te σ B L rStr x L1) (hl : EO K M tl σ B L1 lo L2) (hh : EO K M th σ B L2 hi L') (hz : slS x lo hi = some z) : EV K M (tSl rSlS te tl th) σ B L rStr z L' := fun B1 H e w Q q =>
  h B1 H e w _ fun v B2 H2 e2 w2 hv => hl B2 H2 (e.trans e2) w2 _ fun B3 H3 e3 w3 => hh B3 H3 ((e.trans e2).trans e3) w3 _ fun B4 H4 e4 w4 => by
    unfold slS at hz
    split at hz
    · rename_i hq
      obtain rfl := Option.some.inj hz
      exact ⟨x, hv, hq, q _ B4 H4 ((e2.trans e3).trans e4) w4 rfl⟩
    · cases hz
theorem ev_sw (ha : EV K M ta σ B L rStr x L1) (hb : EV K M tb σ B L1 rStr y L2) : EV K M (tM1 (fun x xs H Q => ∃ a b, x = .str a ∧ xs = [.str b] ∧ Q (.bl (Txt.startswith a b)) H) ta tb) σ B L rBool (Txt.startswith x y) L2 := fun B1 H e w Q q =>
  ha B1 H e w _ fun u B2 H2 e2 w2 hu => ⟨⟨x, hu⟩, hb B2 H2 (e.trans e2) w2 _ fun v B3 H3 e3 w3 hv => ⟨x, y, hu, by rw [show v = V.str y from hv], q _ B3 H3 (e2.trans e3) w3 rfl⟩⟩
theorem paired_strs {K : Fg} {B : Hp} : ∀ ns : List Str, Paired (rStr.is K B) (ns.map V.str) ns
  | [] => .nil
  | _ :: l => .cons rfl (paired_strs l)
theorem el_split {ys : List Str} (ha : EV K M ta σ B L rStr x L1) (hb : EV K M tb σ B L1 rStr y L2) (h : splitS x y = some ys) : EVL K M (tM1 (fun x xs H Q => ∃ a b, x = .str a ∧ xs = [.str b] ∧ (b.length == 0) = false ∧ a.length + 2 ≤ sizeLine ∧ rNewStrs (Txt.split a b) H Q) ta tb) σ B L rStr ys L2 := fun B1 H e w Q q =>
  ha B1 H e w _ fun u B2 H2 e2 w2 hu => ⟨⟨x, hu⟩, hb B2 H2 (e.trans e2) w2 _ fun v B3 H3 e3 w3 hv => by
    unfold splitS at h
    split at h
    · rename_i hl
      obtain rfl := Option.some.inj h
      exact ⟨x, y, hu, by rw [show v = V.str y from hv], hl.1, hl.2, fun p hp => q p B3 _ (e2.trans e3) (w3.new hp ⟨_, rfl, paired_strs _⟩)⟩
    · cases h⟩
abbrev rJoin (K : Fg) : V → List V → Hp → VK → Prop := fun x xs H Q => ∃ a p, ∃ ys : List Str, x = .str a ∧ xs = [.ref p] ∧ (SqL K H p (ys.map V.str) ∨ SqT K H p (ys.map V.str)) ∧ (ys.map (·.length)).sum + ys.length * a.length ≤ 16777216 ∧ Q (.str (Txt.join a ys)) H
theorem ev_join {ys : List Str} (ha : EV K M ta σ B L rStr x L1) (hb : EV K M tb σ B L1 (rSeq rStr) ys L2) (h : joinS x ys = some z) : EV K M (tM1 (fun x xs H Q => ∃ a p, ∃ ys : List Str, x = .str a ∧ xs = [.ref p] ∧ (SqL K H p (ys.map V.str) ∨ SqT K H p (ys.map V.str)) ∧ (ys.map (·.length)).sum + ys.length * a.length ≤ 16777216 ∧ Q (.str (Txt.join a ys)) H) ta tb) σ B L rStr z L2 := fun B1 H e w Q q =>
  ha B1 H e w _ fun u B2 H2 e2 w2 hu => ⟨⟨x, hu⟩, hb B2 H2 (e.trans e2) w2 _ fun v B3 H3 e3 w3 hv => by
    unfold joinS at h
    split at h
    · rename_i hl
      obtain rfl := Option.some.inj h
      obtain ⟨p, vs, rfl, hs, hp⟩ := hv
      obtain rfl := strs_of hp
      exact ⟨x, p, ys, hu, rfl, hs.imp (ex_l w3.b) (ex_t w3.b), hl, q _ B3 H3 (e2.trans e3) w3 rfl⟩
    · cases h⟩
theorem ev_joinC {n : Nat} {p : Addr} {ys : List Str} (ha : EV K M ta σ B L rStr x L1) (hb : EV K M tb σ B L1 rRef p L2) (hc : L2[n]? = some ⟨p, cLst rStr, ys⟩) (h : joinS x ys = some z) : EV K M (tM1 (fun x xs H Q => ∃ a p, ∃ ys : List Str, x = .str a ∧ xs = [.ref p] ∧ (SqL K H p (ys.map V.str) ∨ SqT K H p (ys.map V.str)) ∧ (ys.map (·.length)).sum + ys.length * a.length ≤ 16777216 ∧ Q (.str (Txt.join a ys)) H) ta tb) σ B L rStr z L2 := fun B1 H e w Q q =>
  ha B1 H e w _ fun u B2 H2 e2 w2 hu => ⟨⟨x, hu⟩, hb B2 H2 (e.trans e2) w2 _ fun v B3 H3 e3 w3 hv => by
    unfold joinS at h
    split at h
    · rename_i hl
      obtain rfl := Option.some.inj h
      obtain ⟨o, ho, vs, rfl, hp⟩ := (w3.at hc).1
      obtain rfl := strs_of hp
      exact ⟨x, p, ys, hu, by rw [show v = V.ref p from hv], .inl (sq_of ho), hl, q _ B3 H3 (e2.trans e3) w3 rfl⟩
    · cases h⟩
theorem ev_intS (ha : EV K M ta σ B L rStr x L1) (h : intS x = some i) : EV K M (tCB (fun xs H Q => ∃ a n, xs = [.str a] ∧ PySem.intText? a = some n ∧ a.length ≤ 640 ∧ Q (.int n) H) (tCons ta tNil)) σ B L rInt i L1 := fun B1 H e w Q q =>
  ha B1 H e w _ fun v B2 H2 e2 w2 hv => by
    unfold intS at h
    split at h
    · rename_i hl
      exact ⟨x, i, by rw [show v = V.str x from hv], h, hl, q _ B2 H2 e2 w2 rfl⟩
    · cases h
theorem ev_strI (ha : EV K M ta σ B L rInt i L1) (h : strI i = some z) : EV K M (tCB (fun xs H Q => ∃ i, xs = [.int i] ∧ i.natAbs.log2 < 1920 ∧ Q (.str (toString i)) H) (tCons ta tNil)) σ B L rStr z L1 := fun B1 H e w Q q =>
  ha B1 H e w _ fun v B2 H2 e2 w2 hv => by
    unfold strI at h
    split at h
    · rename_i hl
      obtain rfl := Option.some.inj h
      exact ⟨i, by rw [show v = V.int i from hv], hl, q _ B2 H2 e2 w2 rfl⟩
    · cases h
theorem ev_inSt (ha : EV K M ta σ B L rStr x L1) (hb : EV K M tb σ B L1 rStr y L2) : EV K M (tOp (fun x y H Q => ∃ i j, x = .str i ∧ y = .str j ∧ Q (.bl (!(Builtin.Str.occurrences j i 0 j.length 1).isEmpty)) H) ta tb) σ B L rBool (inS x y) L2 :=
  ev_op ha hb fun B2 H2 u v Q _ hu hv q => ⟨x, y, hu, hv, q _ rfl⟩
theorem ev_niSt (ha : EV K M ta σ B L rStr x L1) (hb : EV K M tb σ B L1 rStr y L2) : EV K M (tOp (fun x y H Q => ∃ i j, x = .str i ∧ y = .str j ∧ Q (.bl (!(!(Builtin.Str.occurrences j i 0 j.length 1).isEmpty))) H) ta tb) σ B L rBool (!inS x y) L2 :=
  ev_op ha hb fun B2 H2 u v Q _ hu hv q => ⟨x, y, hu, hv, q _ rfl⟩
theorem mulOk_s {n : Int} (h : x.length ≤ 1000 ∧ -1000 ≤ n ∧ n ≤ 1000) : MulOk x n := by
  obtain ⟨h1, h2, h3⟩ := h
  refine ⟨?_, fun h _ => ?_, fun h _ => ?_⟩
  · rw [decide_eq_false (by omega), decide_eq_false (by omega)]; rfl
  · have h4 : (1000000 : Int) ≤ (2 ^ 63 - 1) / n := (Int.le_ediv_iff_mul_le (by omega)).mpr (by omega)
    omega
  · have : x.length * n.toNat ≤ 1000 * 1000 := Nat.mul_le_mul h1 (by omega)
    have z : (1000000 : Nat) ≤ sizeLine := by decide
    unfold Builtin.Str.tooLong
    simp
    omega
theorem ev_mulS (ha : EV K M ta σ B L rStr x L1) (hb : EV K M tb σ B L1 rInt i L2) (h : mulS x i = some z) : EV K M (tOp (fun x y H Q => ∃ a n, x = .str a ∧ y = .int n ∧ MulOk a n ∧ Q (.str (Txt.mul a n)) H) ta tb) σ B L rStr z L2 :=
  ev_op ha hb fun B2 H2 u v Q _ hu hv q => by
    unfold mulS at h
    split at h
    · rename_i hl
      obtain rfl := Option.some.inj h
      exact ⟨x, i, hu, hv, mulOk_s hl, q _ rfl⟩
    · cases h
theorem ei_str (h : EV K M te σ B L rStr x L') : EI K M (iStr te) σ B L rStr (signs x) L' := fun B1 H e w R q => h B1 H e w _ fun v B2 H2 e2 w2 hv => by
  refine ⟨x, hv, q _ B2 H2 e2 w2 ⟨fun i a B' L' H' e' w' hi => ?_, fun B' L' H' e' w' => ?_⟩⟩
  · unfold signs at hi
    obtain ⟨c, hc, rfl⟩ := Option.map_eq_some_iff.mp (by rw [List.getElem?_map] at hi; exact hi)
    have hc' : x.cps[i]? = some c := by rw [← Array.getElem?_toList]; exact hc
    refine ⟨?_, fun y H3 hy => ?_⟩
    · exact (Array.getElem?_eq_some_iff.mp hc').1
    · obtain ⟨rfl, c', h1, h2⟩ := hy
      rw [hc'] at h1
      obtain rfl := Option.some.inj h1
      exact ⟨B', Ex.refl _, w', h2⟩
  · show x.cps.size ≤ _
    unfold signs
    rw [List.length_map]
    simp
/-! f-strings -/
inductive EJ (K : Fg) (M : Fr) (σ : St) (B : Hp) (L : List Cell) : List TE → List Str → Prop where
  | nil : EJ K M σ B L [] []
  | cons {t : TE} {ts : List TE} {x : Str} {xs : List Str} (h : EV K M t σ B L rStr x L) (r : EJ K M σ B L ts xs) : EJ K M σ B L (t :: ts) (x :: xs)
def jnS : Str → List Str → Option Str
  | a, [] => some a
  | a, x :: xs => if (a ++ x).length ≤ sizeLine then jnS (a ++ x) xs else none
theorem ej_go {ts : List TE} {xs : List Str} (h : EJ K M σ B L ts xs) : ∀ (a z : Str), jnS a xs = some z → ∀ B1 H, Ex B B1 → Own K B1 M L H → ∀ Q : Str → Hp → Prop, (∀ B2 H2, Ex B1 B2 → Own K B2 M L H2 → Q z H2) → tJs ts a σ H Q := by
  induction h with
  | nil => intro a z hz B1 H e w Q q; obtain rfl := Option.some.inj hz; exact q B1 H (Ex.refl _) w
  | @cons t ts x xs h r ih =>
    intro a z hz B1 H e w Q q
    unfold jnS at hz
    split at hz
    · rename_i hl
      exact h B1 H e w _ fun v B2 H2 e2 w2 hv => ⟨x, hv, hl, ih _ _ hz B2 H2 (e.trans e2) w2 _ fun B3 H3 e3 w3 => q B3 H3 (e2.trans e3) w3⟩
    · cases hz
theorem ev_fs {ts : List TE} {xs : List Str} (h : EJ K M σ B L ts xs) (hz : jnS Str.empty xs = some z) : EV K M (fun σ H Q => tJs ts Str.empty σ H fun out H1 => Q (.str out) H1) σ B L rStr z L := fun B1 H e w Q q =>
  ej_go h _ _ hz B1 H e w _ fun B2 H2 e2 w2 => q _ B2 H2 e2 w2 rfl
theorem ev_fmS (h : EV K M te σ B L rStr x L') (e : lenS x = some i) : EV K M (tFmt te) σ B L rStr x L' := fun B1 H e1 w Q q => h B1 H e1 w _ fun v B2 H2 e2 w2 hv => by
  unfold lenS at e
  split at e
  · rename_i hl
    exact .inl ⟨x, hv, hl, q _ B2 H2 e2 w2 rfl⟩
  · cases e
theorem ev_fmI (h : EV K M te σ B L rInt i L') (e : strI i = some x) : EV K M (tFmt te) σ B L rStr x L' := fun B1 H e1 w Q q => h B1 H e1 w _ fun v B2 H2 e2 w2 hv => by
  unfold strI at e
  split at e
  · rename_i hl
    obtain rfl := Option.some.inj e
    exact .inr ⟨i, hv, hl, q _ B2 H2 e2 w2 rfl⟩
  · cases e
end
end L3

/-! loops whose cells have places that change (ghosts); rows that grow -/
namespace L3
open PySem L2
open Evl (Ex ex_rd ex_l ex_t sq_of st_of fresh_back)
section
variable {K : Fg} {M : Fr} {σ : St} {B B' H H' : Hp} {A L L1 L2 L' : List Cell} {α β γ δ G : Type} {r : Rep α} {s : Rep β} {t : Rep γ} {ta tb tc te tk : TE} {tt tu : TT} {tA : TA} {i j k : Int} {D : Ends} {tz : TS} {wi : TI} {g : TG} {p : Addr} {ps : List Addr} {rs : List (List α)}
theorem q_forY {S R : Type} {tb : TS} {xs : List α} (w : Own K B M L H) (hi : EI K M wi σ B L r xs L1) (f : S → α → Option (Stp S R)) (P : S → Hp → St → Prop) (Lf : S → G → List Cell) (s0 : S) (g0 : G) {o : Stp S R} (hm : loopM f s0 xs = some o)
    (h0 : ∀ B', Ex B B' → P s0 B' σ) (hL : Lf s0 g0 = L1)
    (hs : ∀ s gg x st v B0 B' H' σ', f s x = some st → Ex B B0 → P s B0 σ' → Ex B0 B' → Own K B' M (Lf s gg) H' → r.is K B' v x → (∀ q, st = .rt q → o = .rt q) → ∀ (N : St → Hp → Prop) (BK : St → Hp → Prop),
      (∀ s3 g3 B3 H3 σ3, st = .nx s3 → Ex B' B3 → Own K B3 M (Lf s3 g3) H3 → P s3 B3 σ3 → N σ3 H3) → (∀ s3 g3 B3 H3 σ3, st = .bk s3 → Ex B' B3 → Own K B3 M (Lf s3 g3) H3 → P s3 B3 σ3 → BK σ3 H3) →
      g v σ' H' fun σ2 H2 => tb { D with nx := N, ct := N, bk := BK } σ2 H2)
    (hd : ∀ s gg B' H' σ', (o = .nx s ∨ o = .bk s) → Ex B B' → Own K B' M (Lf s gg) H' → P s B' σ' → tz D σ' H') : tSeq (tFor wi g tb) tz D σ H :=
  hi B H (Ex.refl _) w _ fun J B1 H1 e1 w1 k => by
    refine ⟨fun i m σ' H' => m = xs.length - i ∧ i ≤ xs.length ∧ ∃ s gg B', Ex B1 B' ∧ Own K B' M (Lf s gg) H' ∧ P s B' σ' ∧ loopM f s (xs.drop i) = some o, ⟨xs.length, by simp, Nat.zero_le _, s0, g0, B1, Ex.refl _, by rw [hL]; exact w1, h0 B1 e1, hm⟩, ?_⟩
    rintro i m σ' H' ⟨rfl, hle, s, gg, B', e', w', hP, hl⟩
    by_cases hlt : i < xs.length
    · right
      obtain ⟨a, ha⟩ : ∃ a, xs[i]? = some a := ⟨xs[i], List.getElem?_eq_getElem hlt⟩
      obtain ⟨hgo, hy⟩ := k.go i a B' _ H' e' w' ha
      rw [loopM_drop (s' := s) ha] at hl
      cases hst : f s a with
      | none => rw [hst] at hl; cases hl
      | some st =>
        rw [hst] at hl
        refine ⟨hgo, fun σ3 H3 => ∃ s3 g3 B3, st = .nx s3 ∧ Ex B1 B3 ∧ Own K B3 M (Lf s3 g3) H3 ∧ P s3 B3 σ3, fun σ3 H3 ⟨s3, g3, B3, e3, a1, a2, a3⟩ => ?_, fun x H2 hy2 => ?_⟩
        · subst e3
          exact ⟨_, (by omega : xs.length - (i + 1) < xs.length - i), rfl, hlt, s3, g3, B3, a1, a2, a3, hl⟩
        · obtain ⟨B2, e2, w2, hr⟩ := hy x H2 hy2
          refine hs s gg a st x B' B2 H2 σ' hst (e1.trans e') hP e2 w2 hr (fun q e => by rw [e] at hl; exact (Option.some.inj hl).symm) _ _ (fun s3 g3 B3 H3 σ3 e3 e4 w3 p3 => ⟨s3, g3, B3, e3, (e'.trans e2).trans e4, w3, p3⟩) (fun s3 g3 B3 H3 σ3 e3 e4 w3 p3 => ?_)
          rw [e3] at hl
          exact hd s3 g3 B3 H3 σ3 (.inr (Option.some.inj hl).symm) (((e1.trans e').trans e2).trans e4) w3 p3
    · left
      have : i = xs.length := by omega
      subst this
      rw [List.drop_length] at hl
      have ho : o = .nx s := (Option.some.inj hl).symm
      exact ⟨k.stop B' _ H' e' w', hd s gg B' H' σ' (.inl ho) (e1.trans e') w' hP⟩
theorem q_forRY {S R : Type} {tb : TS} {xs : List α} (w : Own K B M L H) (hi : EI K M wi σ B L r xs L1) (f : S → α → Option (Stp S R)) (P : S → Hp → St → Prop) (Lf : S → G → List Cell) (s0 : S) (g0 : G) {o : S ⊕ R} (hm : loopR f s0 xs = some o)
    (h0 : ∀ B', Ex B B' → P s0 B' σ) (hL : Lf s0 g0 = L1)
    (hs : ∀ s gg x st v B0 B' H' σ', f s x = some st → Ex B B0 → P s B0 σ' → Ex B0 B' → Own K B' M (Lf s gg) H' → r.is K B' v x → (∀ q, st = .rt q → o = .inr q) → ∀ (N : St → Hp → Prop) (BK : St → Hp → Prop),
      (∀ s3 g3 B3 H3 σ3, st = .nx s3 → Ex B' B3 → Own K B3 M (Lf s3 g3) H3 → P s3 B3 σ3 → N σ3 H3) → (∀ s3 g3 B3 H3 σ3, st = .bk s3 → Ex B' B3 → Own K B3 M (Lf s3 g3) H3 → P s3 B3 σ3 → BK σ3 H3) →
      g v σ' H' fun σ2 H2 => tb { D with nx := N, ct := N, bk := BK } σ2 H2)
    (hd : ∀ s gg B' H' σ', o = .inl s → Ex B B' → Own K B' M (Lf s gg) H' → P s B' σ' → tz D σ' H') : tSeq (tFor wi g tb) tz D σ H := by
  unfold loopR at hm
  cases h : loopM f s0 xs with
  | none => rw [h] at hm; cases hm
  | some o' =>
    rw [h] at hm
    have hm : o'.out = o := Option.some.inj hm
    refine q_forY w hi f P Lf s0 g0 h h0 hL (fun s gg x st v B0 B' H' σ' a1 a2 a3 a4 a5 a6 a7 => hs s gg x st v B0 B' H' σ' a1 a2 a3 a4 a5 a6 fun q e => ?_) fun s gg B' H' σ' a1 => hd s gg B' H' σ' ?_
    · rw [← hm, a7 q e]; rfl
    · rcases a1 with rfl | rfl
      · exact hm.symm
      · exact hm.symm
theorem q_foldY {S : Type} {tb : TS} {xs : List α} (w : Own K B M L H) (hi : EI K M wi σ B L r xs L1) (f : S → α → Option S) (P : S → Hp → St → Prop) (Lf : S → G → List Cell) (s0 : S) (g0 : G) {s1 : S} (hm : foldO f s0 xs = some s1)
    (h0 : ∀ B', Ex B B' → P s0 B' σ) (hL : Lf s0 g0 = L1)
    (hs : ∀ s gg x s' v B0 B' H' σ', f s x = some s' → Ex B B0 → P s B0 σ' → Ex B0 B' → Own K B' M (Lf s gg) H' → r.is K B' v x → ∀ (N : St → Hp → Prop) (BK : St → Hp → Prop),
      (∀ g3 B3 H3 σ3, Ex B' B3 → Own K B3 M (Lf s' g3) H3 → P s' B3 σ3 → N σ3 H3) →
      g v σ' H' fun σ2 H2 => tb { D with nx := N, ct := N, bk := BK } σ2 H2)
    (hd : ∀ gg B' H' σ', Ex B B' → Own K B' M (Lf s1 gg) H' → P s1 B' σ' → tz D σ' H') : tSeq (tFor wi g tb) tz D σ H := by
  have h := loop_fold (R := Empty) f xs s0
  rw [hm] at h
  refine q_forY w hi _ P Lf s0 g0 h h0 hL (fun s gg x st v B0 B' H' σ' a1 a2 a3 a4 a5 a6 _ N BK hN hB => ?_) fun s gg B' H' σ' a1 => ?_
  · cases e : f s x with
    | none => rw [e] at a1; cases a1
    | some s' =>
      rw [e] at a1
      have a1 : st = .nx s' := (Option.some.inj a1).symm
      exact hs s gg x s' v B0 B' H' σ' e a2 a3 a4 a5 a6 N BK fun g3 B3 H3 σ3 => hN s' g3 B3 H3 σ3 a1
  · have e : s1 = s := by
      rcases a1 with h | h
      · cases h; rfl
      · cases h
    subst e
    exact hd gg B' H' σ'
/-! rows that grow -/
theorem rowsL_snoc {q : Addr} {x : List α} (h : ps.length = rs.length) : rowsL r (ps ++ [q]) (rs ++ [x]) = rowsL r ps rs ++ [⟨q, cLst r, x⟩] := by
  unfold rowsL
  rw [List.zip_append h, List.map_append]
  rfl
/-- rows = [] -/
theorem q_newRows {n : Nat} (r : Rep α) (w : Own K B M A H) (q : ∀ p B' H', Ex B B' → Own K B' M (A ++ rowsC p [] r []) H' → tz D (σ.set n (some (.ref p))) H') : tSeq (tAsg (tLst tNil) (gName n)) tz D σ H :=
  ⟨Nat.zero_le _, fun p hp => by
    have w2 := w.new hp (c := cAdr 0) (a := ([] : List Addr)) (o := .lst []) ⟨rfl, rfl⟩
    refine q p B _ (Ex.refl _) (w2.perm (fun x hx => ?_) ?_)
    · exact (List.mem_append.mp hx).elim (fun z => List.mem_cons_of_mem _ z) fun z => by rw [List.mem_singleton.mp z]; exact List.mem_cons_self
    · have nd := w2.nd
      rw [List.map_cons, List.nodup_cons] at nd
      rw [List.map_append]
      exact List.nodup_append.mpr ⟨nd.2, by simp [rowsC, rowsL], fun a ha b hb e => by
        have hb : b = p := by simpa [rowsC, rowsL] using hb
        exact nd.1 (by rw [← hb, ← e]; exact ha)⟩⟩
/-- rows.append([..]) -/
theorem q_rowsPush {m : Nat} {as : List α} (w : Own K B M (A ++ rowsC p ps r rs) H) (hs : σ[m]? = some (some (.ref p))) (h : EVL K M te σ B (A ++ rowsC p ps r rs) r as (A ++ rowsC p ps r rs)) (hr : room rs.length = some ())
    (qq : ∀ q B' H', Ex B B' → Own K B' M (A ++ rowsC p (ps ++ [q]) r (rs ++ [as])) H' → tz D σ H') : tSeq (tDrop (tBM K "list" rAppend (tVar m) (tCons te tNil))) tz D σ H := by
  obtain ⟨h1, h2⟩ := w.rows
  refine ⟨_, hs, .inl ⟨rfl, _, sq_of h1⟩, h B H (Ex.refl _) w _ fun q B2 H2 e2 w2 => ?_⟩
  have w2 : Own K B2 M ((⟨q, cLst r, as⟩ :: A) ++ rowsC p ps r rs) H2 := w2
  obtain ⟨g1, g2⟩ := w2.rows
  have w3 := w2.set (head_at (⟨q, cLst r, as⟩ :: A)) (c' := cAdr (rs ++ [as]).length) (a' := ps ++ [q]) (o := .lst (ps.map V.ref ++ [V.ref q])) ⟨by rw [List.map_append]; rfl, by rw [List.length_append, List.length_append, g2]; rfl⟩
  refine ⟨p, ps.map V.ref, .ref q, rfl, rfl, g1, by rw [List.length_map, g2]; exact room_some hr, qq q B2 _ e2 (w3.perm (fun x hx => ?_) ?_)⟩
  · rw [List.set_append_right _ _ (Nat.le_refl _), Nat.sub_self]
    show x ∈ (⟨q, cLst r, as⟩ : Cell) :: (A ++ (⟨p, cAdr (rs ++ [as]).length, ps ++ [q]⟩ :: rowsL r ps rs))
    rcases List.mem_append.mp hx with hx | hx
    · exact List.mem_cons_of_mem _ (List.mem_append_left _ hx)
    · rcases List.mem_cons.mp hx with hx | hx
      · rw [hx]
        exact List.mem_cons_of_mem _ (List.mem_append_right _ List.mem_cons_self)
      · rw [rowsL_snoc g2] at hx
        rcases List.mem_append.mp hx with e | e
        · exact List.mem_cons_of_mem _ (List.mem_append_right _ (List.mem_cons_of_mem _ e))
        · rw [List.mem_singleton.mp e]; exact List.mem_cons_self
  · have nd := w2.nd
    rw [keysC g2, List.map_cons, List.cons_append, List.nodup_cons] at nd
    obtain ⟨n1, n2⟩ := nd
    rw [keysC (by rw [List.length_append, List.length_append, g2]; rfl)]
    obtain ⟨n3, n4, n5⟩ := List.nodup_append.mp n2
    refine List.nodup_append.mpr ⟨n3, ?_, fun a ha b hb e => ?_⟩
    · obtain ⟨n6, n7⟩ := List.nodup_cons.mp n4
      refine List.nodup_cons.mpr ⟨fun z => ?_, List.nodup_append.mpr ⟨n7, by simp, fun a ha b hb e => ?_⟩⟩
      · rcases List.mem_append.mp z with z | z
        · exact n6 z
        · exact n1 (List.mem_append_right _ (by rw [← List.mem_singleton.mp z]; exact List.mem_cons_self))
      · rw [List.mem_singleton.mp hb] at e
        exact n1 (List.mem_append_right _ (List.mem_cons_of_mem _ (by rw [← e]; exact ha)))
    · subst e
      rcases List.mem_cons.mp hb with e | hb
      · exact n5 a ha p List.mem_cons_self e
      · rcases List.mem_append.mp hb with e | e
        · exact n5 a ha a (List.mem_cons_of_mem _ e) rfl
        · exact n1 (List.mem_append_left _ (by rw [← List.mem_singleton.mp e]; exact ha))
theorem et_truRows (h : EV K M te σ B L rRef p (A ++ rowsC p ps r rs)) : ET K M (L3G.tTru K te) σ B L (!rs.isEmpty) (A ++ rowsC p ps r rs) := fun B1 H e w Q q => h B1 H e w _ fun v B2 H2 e2 w2 hv => by
  have hv : v = .ref p := hv
  subst hv
  obtain ⟨h1, h2⟩ := w2.rows
  refine ⟨_, .inl ⟨ps.map V.ref, sq_of h1, ?_⟩, q B2 H2 e2 w2⟩
  cases ps <;> cases rs <;> first | rfl | (simp at h2)
end
end L3

/-! errors with a field: C(x), C's __init__ saying super().__init__(f"..{x}"), self.f = x -/
namespace L3
open PySem L2
open Evl (Ex ex_rd ex_l ex_t sq_of st_of fresh_back)
/-! ### the bound ValueError.__init__, called -/
section
variable {prog : Program} {w : World} {A : Around} {E : Value → Shared → Prop} {h : Heap} {g : Array GenState} {d : Drawn} {t : Nat} {os : OsState}
variable {nm q : Str} {C N : Addr} {bs bm : List Value} {hdct : Bool} {sn : List Str} {sub : List Value} {ab : Bool} {col : Option Bool} {dd : Option Addr} {k0 k1 k2 k3 k5 : Option Value}
theorem call_bwV {u e t0 : Addr} {rest : List Value} {Q : Value → Shared → Prop}
    (hC : h.get? C = some (excClassObj nm q C N bs bm hdct sn sub ab col dd k0 k1 k2 k3 k5 "ValueError.__new__")) (he : h.get? e = some (HandSPX.excO C t0)) (hu : h.get? u = some (W.kxs_mw "ValueError.__init__" e)) (hrest : rest.length ≤ sizeLine)
    (hq : ∀ h' t1, (∀ b o, b ≠ e → h.get? b = some o → h'.get? b = some o) → h'.get? e = some (HandSPX.excO C t1) → Q .none ⟨h', g, d, t, os⟩) :
    wpAny (model prog w) A (call (.ref u) rest) Q E ⟨h, g, d, t, os⟩ := by
  refine wpAny_call (codeAny_of_tree ?_)
  show wpAny _ A.in1 (callAny (.ref u) ⟨rest, []⟩) _ _ _
  simp only [callAny]
  refine wpAny_bind (wpAny_load hu ?_)
  simp only [W.kxs_mw, show (Value.type "method-wrapper" == Value.type "method" || Value.type "method-wrapper" == Value.type "builtin_function_or_method" || Value.type "method-wrapper" == Value.type "method-wrapper") = true by decide, if_true]
  refine W.KFB.if_so (by decide) ?_
  refine wpAny_bind (ESX.check_bound F.excBase_ValueError hC he rfl ?_)
  refine wpAny_bind (wpAny_pure (wpAny_pure ?_))
  refine ⟨Code.quiet_builtin _ (by decide +kernel), codeAny_builtin F.excBase_ValueError.initEntry ?_⟩
  rw [Around.under_plainId F.excBase_ValueError.init.plain _]
  wp_walk
  refine hq _ h.objs.size (fun b o hb ho => ?_) ?_
  · rw [Heap.get?_update_other _ _ (Ne.symm hb)]
    exact Heap.get?_push_of_some _ ho
  · rw [Heap.get?_update_self _ (Heap.get?_push_of_some _ he) rfl]
    rfl
end
/-! ### what may be written in an error's text -/
/-- an item of a tuple that is written -/
def ItemF : V → Prop
  | .int i => i.natAbs.log2 < 1000
  | .str y => y.length ≤ 1000 ∧ ∀ c ∈ y.cps.toList, c < 16 ^ 8
  | _ => False
/-- an int, a text, a tuple of such -/
def Fm (K : Fg) (H : Hp) (x : V) : Prop := (∃ i : Int, x = .int i ∧ i.natAbs.log2 < 1000) ∨ (∃ y : Str, x = .str y ∧ y.length ≤ 1000) ∨ ∃ (a : Addr) (l : List V), x = .ref a ∧ SqT K H a l ∧ l.length ≤ 10 ∧ ∀ v ∈ l, ItemF v
theorem int_len {i : Int} (h : i.natAbs.log2 < 1000) : (Str.ofString (toString i)).length ≤ 1001 := by
  rw [ofString_length]
  exact int_text_length_le (by decide) h
theorem reprs_all {prog : Program} {w : World} : ∀ {l : List V} {its : List Value}, Vals l its → (∀ v ∈ l, ItemF v) → ∃ ts, ReprAll prog w its ts ∧ piled ts ≤ 12000 * l.length
  | [], _, r, _ => by
    cases r
    exact ⟨[], .nil, Nat.zero_le _⟩
  | v :: l, _, r, h => by
    cases r with
    | cons r1 r2 =>
      obtain ⟨ts, h1, h2⟩ := reprs_all (prog := prog) (w := w) r2 fun z hz => h z (List.mem_cons_of_mem _ hz)
      have hv := h v List.mem_cons_self
      cases v with
      | int i =>
        obtain ⟨t, rfl⟩ := r1
        have hv : i.natAbs.log2 < 1000 := hv
        have hl := int_len hv
        refine ⟨_ :: ts, .cons (ReprIs.int t (by omega)) h1, ?_⟩
        rw [piled_cons, List.length_cons]
        omega
      | str y =>
        obtain ⟨t, rfl⟩ := r1
        have hl := StrLaws.reprText_len y hv.2
        have hy := hv.1
        refine ⟨_ :: ts, .cons (ReprIs.str y t (by rw [sizeLine_eq]; omega)) h1, ?_⟩
        rw [piled_cons, List.length_cons]
        omega
      | _ => exact hv.elim
/-- {x}: some text -/
def tFmA (K : Fg) (te : TE) : TE := fun σ H Q => te σ H fun x H1 => Fm K H1 x ∧ ∀ m : Str, m.length ≤ 200000 → Q (.str m) H1
theorem pe_fmA {X : Cx} {k : Nat} {e : Expr} {te : TE} {pos : Pos} (hr : Room k X.A) (he : PE X e te) : PE X (.FormattedValue e (-1) none pos) (tFmA X.K te) := by
  refine ⟨fun pins s σ H Q I h => ?_⟩
  refine wpAny_FormattedValue_plain (thn (he.run pins s σ H _ I h) fun v s1 hv => ?_)
  obtain ⟨x, H1, I1, r1, hf, q⟩ := hv
  rcases hf with ⟨i, rfl, hi⟩ | ⟨y, rfl, hy⟩ | ⟨a, l, rfl, ht, hl, hi⟩
  · obtain ⟨t, rfl⟩ := r1
    have hz := int_len hi
    exact wpAny_formatField_int (by omega) ⟨.str (toString i), H1, I1.tok _, ⟨_, rfl⟩, q _ (Nat.le_trans hz (by decide))⟩
  · obtain ⟨t, rfl⟩ := r1
    exact wpAny_formatField_str ⟨.str y, H1, I1, ⟨t, rfl⟩, q _ (by omega)⟩ ⟨.str y, H1, I1.tok _, ⟨_, rfl⟩, q _ (by omega)⟩ (by rw [sizeLine_eq]; omega)
  · cases r1
    obtain ⟨its, rv, ⟨o, ho, hcl, n, hd⟩, _⟩ := I1.tuple ht
    obtain ⟨ts, h1, h2⟩ := reprs_all (prog := X.prog) (w := X.w) rv hi
    have htx := fmt_text ts
    have hu := hr.units
    have hp : 12000 * l.length ≤ 120000 := by omega
    exact fmt_tuple (by omega) ho hcl hd h1 (by rw [sizeLine_eq]; omega) fun m u tk hm => ⟨.str m, H1, I1.tok _, ⟨u, rfl⟩, q m (by omega)⟩
/-! ### the def __init__ -/
theorem at_mcall {prog : Program} {w : World} {A : Around} {E : Value → Shared → Prop} {s : Shared} {c : Code} {env : Env} {o e : Expr} {name : Str} {apos pos : Pos} {Q : Value → Shared → Prop} (hline : (apos.endLine == pos.line) = true)
    (h : wpAt (model prog w) A c (attributeBase o name env (eval o env)) (fun ov s₁ => wpAny (model prog w) A (getMethod ov name (do return (← importBound o env).getD true)) (fun fx s₂ => wpAny (model prog w) A (callWith pos fx.1 fx.2 (backTo pos (starEach [e] env)) []) Q E s₂) E s₁) E s)
    (hf : methodCallForm 1 (backTo pos (starEach [e] env)) [] = true := by rfl) : wpAt (model prog w) A c (eval (.Call (.Attribute o name apos) [e] [] pos) env) Q E s := by
  rw [arm_eval_Call]
  refine wpAt_bind (PySem.ks_wpAt_mono h (fun ov s₁ h₁ => wpAt_of_wpAny (wpAny_bind (wpAny_standAt ?_))) fun _ _ x => x)
  have hpos : methodCallPos true o env apos pos = pure pos := by unfold methodCallPos; simp [hline]
  have hf2 : methodCallForm ([e].length + ([] : List Keyword).length) (backTo pos (starEach [e] env)) (backToKw pos (keywordEach [] env)) = true := hf
  unfold methodCall
  rw [hf2]
  refine wpAny_bind (wpAny_holding ?_)
  show wpAny _ _ (getMethod ov name (do return (← importBound o env).getD true)) _ _ _
  exact wpAny_mono h₁ (fun fx s₂ h₂ => wpAny_bind (wpAny_of_eq hpos h₂)) fun _ _ x => x
def supText (pre n : Str) (p1 p2 p3 p4 : Pos) : Expr := .JoinedStr [.Constant (.str pre) 0 p1, .FormattedValue (.Name n p2) (-1) none p3] p4
def supCall (pre n : Str) (p1 p2 p3 p4 p5 p6 p7 p8 : Pos) : Expr := .Call (.Attribute (.Call (.Name "super" p5) [] [] p6) "__init__" p7) [supText pre n p1 p2 p3 p4] [] p8
def supSet (n : Str) (p1 p2 p3 p4 : Pos) : Stmt := .Assign [.Attribute (.Name "self" p1) n p2] (.Name n p3) p4
def supParams (n : Str) (p1 p2 : Pos) : Arguments := { posonlyargs := [], args := [⟨"self", none, p1⟩, ⟨n, none, p2⟩], vararg := none, kwonlyargs := [], kw_defaults := [], kwarg := none, defaults := [] }
/-- the name of a field -/
def FldN (n : Str) : Prop := n = "number" ∨ n = "fault" ∨ n = "state" ∨ n = "name"
/-- f is the __init__ of the class C, n its field -/
structure SupC (P : Program) (K : Fg) (mg : Str → Option Value) (C f : Addr) (n : Str) : Prop where
  fl : FldN n
  fn : ∃ (oc : Value) (od : Option Addr) (osl : Array (Option Value)) (kV doc pm : Value) (an : Option Addr) (ctv : Value) (cda cc : Addr) (q nm pre : Str) (scope : Scope) (q1 q2 q3 p1 p2 p3 p4 p5 p6 p7 p8 a1 a2 a3 a4 : Pos),
    K.lookup f = some ⟨oc, od, .func (PySem.W.fnX nm q (supParams n q1 q2) [.Expr (supCall pre n p1 p2 p3 p4 p5 p6 p7 p8) q3, supSet n a1 a2 a3 a4] scope [("__class__", cc)] .none kV doc pm an (.ref cda) ctv), osl⟩ ∧ PySem.W.codeIn K (.ref cda) q = true ∧ pre.length ≤ 1000 ∧ (p7.endLine == p8.line) = true ∧
    NdefX.nscB ["self", n, "__class__"] ["self", n] ["__class__"] scope = true ∧ scope.names.lookup ("super" : Str) = some .globalImplicit ∧ scope.names.lookup ("__class__" : Str) = some .free ∧ scope.names.lookup ("self" : Str) = some .local ∧
    (∃ (oc' : Value) (od' : Option Addr) (vs : Array Value) (sl' : Array (Option Value)) (file : Str) (tf : Tok), K.lookup cda = some ⟨oc', od', .fields vs, sl'⟩ ∧ vs[2]? = some (.str file tf) ∧ ((P.main.file : Str) == file) = true) ∧
    (∃ (oc' : Value) (od' : Option Addr) (sl' : Array (Option Value)), K.lookup cc = some ⟨oc', od', .cell (some (.ref C)), sl'⟩)
  oex : OexC K C
  ini : PySem.W.findIn K (.ref C) "__init__" = some (some (.ref f))
  fty : PySem.W.typeIn K (.ref f) = some (.type "function")
  noa : PySem.W.findIn K (.ref C) n = some none
  sub : PySem.W.mroIn K C (.ref C) = some true
  veC : PySem.W.subIn K (.ref C) (.type "ValueError") = some true
  bas : PySem.W.ks_superIn K C C "__init__" = some (some (.builtin "ValueError.__init__"))
  opq : PySem.W.nsIn K cStatics "thirdparty.any" = some none
  sup : mg "super" = none
  top : (P.main.scope.names.lookup ("super" : Str)).isSome = false
/-- the promise of C.__init__ -/
def spInit (K : Fg) (C : Addr) (n : Str) : Sp := fun vs H Q _ => ∃ a y, vs = [.ref a, y] ∧ H a = some (exo a C none) ∧ Fm K H y ∧ ∀ dx, H dx = none → dx ≠ a → Q .non (upd (upd H dx (exd dx [(n, y)])) a (exo a C (some dx)))
section
variable {P : Program} {w : World} {K : Fg} {mg : Str → Option Value} {base : Heap} {C f : Addr} {n : Str} {CX : CXT} {k : Nat}
theorem SupC.binds (S : SupC P K mg C f n) : ∃ fd, K.lookup f = some fd ∧ ∀ fdd, fd.data = .func fdd → Binds K fdd ["self", n] [] := by
  obtain ⟨oc, od, osl, kV, doc, pm, an, ctv, cda, cc, q, nm, pre, scope, q1, q2, q3, p1, p2, p3, p4, p5, p6, p7, p8, a1, a2, a3, a4, lk, _⟩ := S.fn
  refine ⟨_, lk, fun fdd e => ?_⟩
  cases e
  refine .all fun us hl => ?_
  match us, hl with
  | [u0, u1], _ => rcases S.fl with h | h | h | h <;> subst h <;> rfl
end
end L3
namespace L3
open PySem L2
section
variable {X : Cx} {σ : L2.St} {H : Hp} {s : Shared} {C f a cda cc : Addr} {n pre : Str} {y : V} {k : Nat} {body : List Stmt} {q3 p1 p2 p3 p4 p5 p6 p7 p8 a1 a2 a3 a4 : Pos}
/-- the names of the def's frame -/
structure SupE (X : Cx) (n : Str) (f cda cc : Addr) : Prop where
  fl : FldN n
  nn : X.N = [("self" : Str), n, "__class__"]
  sk : X.env.scope.kind = .function
  su : X.env.kindOf "super" = some .globalImplicit
  cl : X.env.kindOf "__class__" = some .free
  se : X.env.kindOf "self" = some .local
  na : X.env.kindOf n = some .local
  fu : X.env.func = some f
  co : X.env.code = .ref cda
  ce : X.env.cells.lookup ("__class__" : Str) = some cc
  nt : interactive X.env = false
theorem fld_dbg {n : Str} (h : FldN n) : (n == ("__debug__" : Str)) = false ∧ (n == ("__classdict__" : Str)) = false := by rcases h with h | h | h | h <;> subst h <;> decide
theorem sup_first (S : SupC X.prog X.K X.mg C f n) (N : SupE X n f cda cc) {fd : FuncData} {of : Obj} (hf : s.heap.get? f = some of) (hfd : of.data = .func fd) (hp : ∃ ar : PySem.Arg, (fd.params.posonlyargs ++ fd.params.args).head? = some ar ∧ ar.arg = ("self" : Str))
    (hcode : ∃ (oc' : Value) (od' : Option Addr) (vs : Array Value) (sl' : Array (Option Value)) (file : Str) (tf : Tok), X.K.lookup cda = some ⟨oc', od', .fields vs, sl'⟩ ∧ vs[2]? = some (.str file tf) ∧ ((X.prog.main.file : Str) == file) = true)
    (hcell : ∃ (oc' : Value) (od' : Option Addr) (sl' : Array (Option Value)), X.K.lookup cc = some ⟨oc', od', .cell (some (.ref C)), sl'⟩) (hpre : pre.length ≤ 1000) (hln : (p7.endLine == p8.line) = true) (hr : Room k X.A)
    (I : Inv X [] σ H s) (hσ : σ[0]? = some (some (.ref a)) ∧ σ[1]? = some (some y)) (ea : H a = some (exo a C none)) (hy : Fm X.K H y) {Q : Flow → Shared → Prop} (h : ∀ s', Inv X [] σ H s' → Q .next s') :
    PySem.wpAt (model X.prog X.w) X.A (.func body X.env) (exec (.Expr (supCall pre n p1 p2 p3 p4 p5 p6 p7 p8) q3) X.env) Q X.xe s := by
  obtain ⟨ar, hp1, hp2⟩ := hp
  obtain ⟨oc', od', vs, sl', file, tf, c1, c2, c3⟩ := hcode
  obtain ⟨oc2, od2, sl2, d1⟩ := hcell
  obtain ⟨nm, q, N0, bs, bm, sn, sub, ab, col, dd, k0, k1, k2, k3, k5, hC, hbm⟩ := S.oex.cls
  have hcl : PySem.W.clsIn X.K C = some { name := nm, bases := bs, mro := .ref C :: bm, ns := N0, qualname := q, hasDict := true, slotNames := sn, subclasses := sub, abstract := ab, collection := col, hasDel := false } := by unfold PySem.W.clsIn; rw [hC] <;> rfl
  have KX := I.kIn
  obtain ⟨t1, hoe⟩ := exo_at I.hok ea
  obtain ⟨m, hn, hl⟩ := I.loc
  obtain ⟨u0, ru, lo⟩ := hl 0 "self" (.ref a) (by rw [N.nn]; rfl) hσ.1 (.inl N.se)
  obtain rfl : u0 = Value.ref a := ru
  have hv : m "self" = some (.ref a) := by
    rcases lo with ⟨_, e⟩ | ⟨e, _⟩
    · exact e
    · rw [N.se] at e
      rcases e with e | e <;> cases e
  refine PySem.ks_wpAt_Expr_any ?_ N.nt
  unfold supCall
  refine at_mcall hln ?_
  refine PySem.ks_wpAt_super_base N.su N.cl (by decide) N.fu hf hfd hp1 N.co (KX _ _ c1) rfl c2 c3 S.top ?_
  obtain ⟨mb, h1, h2⟩ := I.mod.blt
  refine PySem.W.ks_loadName_global N.sk N.su (Calls.loadGlobal_builtin (by rw [I.ok.glob]; exact I.mod.glob.keeps I.bk) S.sup (by rw [I.ok.blt]; exact h1.keeps I.bk) ((h2 "super" (by decide)).trans PyProof.Rows.Boot.«super») ⟨rfl, ?_⟩)
  refine wpAny_loadName_free N.sk N.cl N.ce ⟨_, KX _ _ d1, rfl⟩ ?_
  rw [hp2]
  refine wpAny_loadName_local N.sk N.se hn hv ?_
  obtain ⟨hp, g, d, tk, os⟩ := s
  refine PySem.ks_wpAny_isType_cls (KX _ _ hC) rfl ⟨rfl, ?_⟩
  refine PySem.ks_wpAny_call_super (KX _ _ hC) rfl hoe rfl (fun c e => by cases e) (PySem.W.looks_mroIn KX S.sub) (fun h' hso kp => ?_)
  have I1 : Inv X [] σ H ⟨h', g, d, tk, os⟩ := I.kept kp
  obtain ⟨t2, hoe1⟩ := exo_at I1.hok ea
  have KX1 := I1.kIn
  have J : PySem.W.InstAt h' a _ C none := ⟨hoe1, rfl, rfl, trivial⟩
  have hm := S.bas
  unfold PySem.W.ks_superIn at hm
  rw [hcl] at hm
  refine PySem.W.kxs_getMethod PySem.W.kxs_ValueError hso (PySem.W.looks_opaque KX1 S.opq) (l₀ := .ref C :: bm) (fun A Q E s k q => wpAny_bind ((PySem.W.looks_clsIn KX1 hcl) A _ E s k (wpAny_pure q))) rfl KX1 hm (J.type.andThen (PySem.W.looks_subIn KX1 S.veC)) (PySem.W.ks_ne KX1 J hcl) (by decide) ?_
  have I2 : Inv X [(h'.objs.size, PySem.W.kxs_mw "ValueError.__init__" a)] σ H ⟨h'.push (PySem.W.kxs_mw "ValueError.__init__" a), g, d, tk + 1, os⟩ := ClX.pin_new (s := ⟨h', g, d, tk, os⟩) I1 (fun b u e => Heap.get?_push_of_some _ e) (Nat.le_refl _) (Heap.get?_push_at rfl rfl) (fun v e => by cases e)
  have pj : PE X (supText pre n p1 p2 p3 p4) (fun σ H Q => tJs [tC (.str pre), tFmA X.K (tVar 1)] Str.empty σ H fun out H1 => Q (.str out) H1) :=
    pe_joined (.cons pe_str (.cons (pe_fmA hr (pe_var (i := 1) (by rw [N.nn]; rfl) (.inl N.na) (fld_dbg N.fl).1 (fld_dbg N.fl).2)) .nil))
  refine PySem.W.kxs_callWith (i := "ValueError.__init__") (x := a) rfl ?_
  have he : starEach [supText pre n p1 p2 p3 p4] X.env = (false, eval (supText pre n p1 p2 p3 p4) X.env) :: starEach [] X.env := by rfl
  rw [he]
  show wpAny _ _ (evalArgs _ true ((false, eval (supText pre n p1 p2 p3 p4) X.env) :: backTo p8 (starEach [] X.env)) []) _ _ _
  refine Calls.evalArgs_plain (Calls.spliced_cons (thn (pj.run [(h'.objs.size, PySem.W.kxs_mw "ValueError.__init__" a)] _ σ H (fun _ H1 => H1 = H) I2 ?_) fun v s3 ⟨x, H3, I3, r3, e3⟩ => Calls.spliced_nil ?_))
  · have l0 : (Str.empty ++ pre).length ≤ 1000 := by
      rw [strLen_append]
      have : Str.empty.length = 0 := rfl
      omega
    refine ⟨pre, rfl, by rw [sizeLine_eq]; omega, y, hσ.2, hy, fun m hm => ⟨m, rfl, ?_, rfl⟩⟩
    rw [strLen_append, sizeLine_eq]
    omega
  · subst e3
    obtain ⟨t3, hoe3⟩ := exo_at I3.hok ea
    refine ⟨ClX.pin_at I3, ?_⟩
    obtain ⟨hp3, g3, d3, tk3, os3⟩ := s3
    refine call_bwV (I3.kIn _ _ hC) hoe3 (ClX.pin_at I3) (by show 1 ≤ sizeLine; rw [sizeLine_eq]; omega) fun h4 t4 k4 hx4 => ?_
    have J4 := I3.write (t' := tk3) (x := a) (e := a) (o := exo a C none) (by rw [ea]; exact True.intro) (.inl rfl) k4 ⟨_, hx4⟩ (exo_ok hx4)
    have eu : upd H3 a (exo a C none) = H3 := by
      funext b
      by_cases hb : b = a
      · rw [hb, upd_same, ea]
      · rw [upd_ne hb]
    rw [eu] at J4
    exact h _ (ClX.unpin J4)
end
section
variable {P : Program} {w : World} {K : Fg} {mg : Str → Option Value} {base : Heap} {C f : Addr} {n : Str} {CX : CXT} {k : Nat}
/-- C.__init__ keeps its promise -/
theorem SupC.ok (S : SupC P K mg C f n) : ∃ fd, FnOk P w K mg base CX (k + 1) f fd ["self", n] (spInit K C n) ∧ Binds K fd ["self", n] [] := by
  obtain ⟨fo, lk0, hb0⟩ := S.binds
  obtain ⟨oc, od, osl, kV, doc, pm, an, ctv, cda, cc, q, nm, pre, scope, q1, q2, q3, p1, p2, p3, p4, p5, p6, p7, p8, a1, a2, a3, a4, lk, hcd, hpre, hln, hsc, hsu, hcl, hse, hcode, hcell⟩ := S.fn
  rw [lk] at lk0
  obtain rfl := Option.some.inj lk0
  refine ⟨_, ⟨fun vs H Q E ⟨a, y, e, _⟩ => by subst e; rfl, fun A outer s H args us vs Q E hr e0 hb r hsp => ?_⟩, hb0 _ rfl⟩
  obtain ⟨a, y, rfl, ea, hfm, hq⟩ := hsp
  have KX : K.In s.heap := e0.mod.kin.keeps fun b o e => (e0.bs b o e).1
  have lim : s.heap.NoLimit := e0.mod.nolimit.keeps fun b o e => (e0.bs b o e).1
  have NS := NdefX.nscope_by hsc
  obtain ⟨oc2, od2, sl2, lkc⟩ := hcell
  refine PySem.ks_codeAny_call_defAt hr.depth (KX _ _ lk) rfl lim (PySem.W.codeRec_of KX hcd) rfl hb NS.nocell (fun z hz => NS.par z.1 (List.of_mem_zip hz).1) (fun h₁ hns hk₁ => ?_) NS.co NS.gen NS.kind
  have lk1 : ∀ (z : Str) (c : Addr), [(("__class__" : Str), cc)].lookup z = some c → z = "__class__" ∧ c = cc := fun z c e => by
    have m := PySem.mem_of_lookup e
    rw [List.mem_singleton] at m
    obtain ⟨m1, m2⟩ := Prod.mk.inj m
    exact ⟨m1, m2⟩
  have C0 : NdefX.CellsAt [(("__class__" : Str), cc)] ["__class__"] [none] s.heap H := ⟨rfl, fun z c e => by
      obtain ⟨_, rfl⟩ := lk1 z c e
      exact ⟨(e0.bs _ _ (e0.mod.kin _ _ lkc)).2, _, ⟨_, KX _ _ lkc, rfl⟩⟩, fun z z' c e e' => by rw [(lk1 z c e).1, (lk1 z' c e').1], fun i z e => by
      cases i with
      | zero =>
        obtain rfl : ("__class__" : Str) = z := by simpa using e
        exact ⟨cc, rfl, fun v ev => by cases ev⟩
      | succ i => simp at e⟩
  have I := NdefX.inv_startN (CX := CX) (N := ["self", n, "__class__"]) (F := ⟨nm, q, supParams n q1 q2, [.Expr (supCall pre n p1 p2 p3 p4 p5 p6 p7 p8) q3, supSet n a1 a2 a3 a4], scope, [("__class__", cc)], cda⟩) (f := f) (E := E) (tk := s.toks + ([("self" : Str), n].zip us).length) NS hr.hd e0 rfl r C0 hns hk₁
  have N : SupE (NdefX.ncx CX P w K mg base ["self", n, "__class__"] ⟨nm, q, supParams n q1 q2, [.Expr (supCall pre n p1 p2 p3 p4 p5 p6 p7 p8) q3, supSet n a1 a2 a3 a4], scope, [("__class__", cc)], cda⟩ f A outer s H E) n f cda cc := ⟨S.fl, rfl, NS.kind, hsu, hcl, hse, NS.par n (by simp), rfl, rfl, rfl, I.quiet⟩
  refine PySem.ks_wpAt_execs_cons (sup_first S N (I.kIn _ _ lk) rfl ⟨_, rfl, rfl⟩ hcode ⟨_, _, _, lkc⟩ hpre hln (hr.deeper _) I ⟨rfl, rfl⟩ ea hfm fun s' I' => ?_)
  refine wpAt_of_wpAny (thn ((pss_cons (ps_ost (pe_var (i := 0) rfl (.inl N.se)) (pe_var (i := 1) rfl (.inl N.na) (fld_dbg S.fl).1 (fld_dbg S.fl).2)) pss_nil).run [] s' _ H { nx := fun _ H' => Q .non H', rt := Q } I' ⟨y, rfl, _, rfl, a, C, rfl, S.oex, S.noa, .inl ⟨ea, fun dx n1 n2 => hq dx n1 n2⟩⟩) fun fl s'' hs => ?_)
  have fin : ∀ {σ' : L2.St} {H' : Hp} {v : V} {u : Value}, Inv (NdefX.ncx CX P w K mg base ["self", n, "__class__"] ⟨nm, q, supParams n q1 q2, [.Expr (supCall pre n p1 p2 p3 p4 p5 p6 p7 p8) q3, supSet n a1 a2 a3 a4], scope, [("__class__", cc)], cda⟩ f A outer s H E) [] σ' H' s'' → L2.RelV v u → Q v H' → CE outer P w H s Q u s'' :=
    fun {σ' H' v u} J rv q => ⟨v, H', J.os, J.bare, J.base, J.hok, rv, q⟩
  cases fl with
  | ret u =>
    obtain ⟨v, σ', H', J, rv, q⟩ := hs
    exact fin J rv q
  | next =>
    obtain ⟨σ', H', J, q⟩ := hs
    exact fin (v := V.non) (u := Value.none) J rfl q
  | brk =>
    obtain ⟨_, _, _, q⟩ := hs
    exact False.elim q
  | cont =>
    obtain ⟨_, _, _, q⟩ := hs
    exact False.elim q
end
end L3

/-! the package's errors, by number; what the head says of them -/
namespace L3
open PySem L2
open Evl (Ex ex_rd ex_l ex_t sq_of st_of fresh_back)
/-! ### by numbers -/
def errN : Nat → Str
  | 0 => "InvalidRatio" | 1 => "InvalidLine" | 2 => "InvalidSystem" | 3 => "InvalidWord" | 4 => "SentenceTooLarge" | 5 => "WeightTooGreat" | 6 => "NoSuchState" | 7 => "NoSuchChoice"
  | 8 => "TooManyChanges" | 9 => "InvalidName" | 10 => "TooManyWishes" | 11 => "UnknownName" | 12 => "BestoddsError" | 13 => "BenchError" | _ => "ValueError"
def errF : Nat → Option Str
  | 1 => some "number" | 2 => some "fault" | 3 => some "number" | 6 => some "state" | 7 => some "number" | 9 => some "name" | 11 => some "name" | _ => none
/-- an error of the class i is one of the class j -/
def errIs (i j : Nat) : Bool := i == j || (j == 12 || (decide (14 ≤ j) || (j == 13 && decide (6 ≤ i))))
def cxA (K : Fg) (i : Nat) : Addr := (clsA K (errN i)).getD 0
def clsV (K : Fg) (j : Nat) : Value := if j < 14 then .ref (cxA K j) else .type "ValueError"
/-- an error: its class, its field's value (None: no field) -/
abbrev Er := Nat × PyData
/-! ### C.__init__, looked at -/
/-- what a def is like: its field, where its code object and its cell stand -/
def shapeB (file : Str) (K : Fg) (C : Addr) (n : Str) (fd : FuncData) : Bool := match fd.params, fd.body, fd.closure, fd.defaults, fd.code with
  | ⟨[], [⟨s1, none, _⟩, ⟨n1, none, _⟩], none, [], [], none, []⟩, .stmts [.Expr (.Call (.Attribute (.Call (.Name su _) [] [] _) ini p7) [.JoinedStr [.Constant (.str pre) 0 _, .FormattedValue (.Name n2 _) cv none _] _] [] p8) _, .Assign [.Attribute (.Name s2 _) n3 _] (.Name n4 _) _], [(c0, cc)], .none, .ref cda =>
    decide (s1 = "self") && (decide (n1 = n) && (decide (su = "super") && (decide (ini = "__init__") && (decide (n2 = n) && (decide (cv = -1) && (decide (s2 = "self") && (decide (n3 = n) && (decide (n4 = n) && (decide (c0 = "__class__") && (decide (fd.globals = mainGlobals) && (decide (fd.builtins = builtinsNs) &&
      (decide (pre.length ≤ 1000) && ((p7.endLine == p8.line) && (PySem.W.codeIn K (.ref cda) fd.qualname && (NdefX.nscB [("self" : Str), n, "__class__"] [("self" : Str), n] ["__class__"] fd.scope && (decide (fd.scope.names.lookup ("super" : Str) = some .globalImplicit) && (decide (fd.scope.names.lookup ("__class__" : Str) = some .free) && (decide (fd.scope.names.lookup ("self" : Str) = some .local) &&
      ((match K.lookup cda with
        | some ⟨_, _, .fields vs, _⟩ => (match vs[2]? with
          | some (Value.str fl _) => file == fl
          | _ => false)
        | _ => false) &&
      (match K.lookup cc with
        | some ⟨_, _, .cell (some (.ref D)), _⟩ => decide (D = C)
        | _ => false))))))))))))))))))))
  | _, _, _, _, _ => false
def oexB (K : Fg) (C : Addr) : Bool := (match K.lookup C with
  | some ⟨.type ty, _, .cls cd, sl⟩ => decide (ty = "type") && (cd.hasDict && (!cd.hasDel && ((match cd.mro with
      | .ref C' :: bm => decide (C' = C) && PySem.HandSPX.refsVE bm
      | _ => false) && (match sl.toList with
      | [_, _, _, _, some (.builtin nw), _] => decide (nw = "ValueError.__new__")
      | _ => false))))
  | _ => false) && (decide (PySem.W.findIn K (.ref C) "__setattr__" = some (some (.builtin "object.__setattr__"))) && (decide (PySem.W.subIn K (.ref C) (.type "BaseException") = some true) && (decide (PySem.W.typeIn K (.ref C) = some (.type "type")) && PySem.W.keepIn K (.ref C))))
theorem oexB_ok {K : Fg} {C : Addr} (h : oexB K C = true) : OexC K C := by
  obtain ⟨h1, h⟩ := Bool.and_eq_true_iff.mp h
  obtain ⟨h2, h⟩ := Bool.and_eq_true_iff.mp h
  obtain ⟨h3, h⟩ := Bool.and_eq_true_iff.mp h
  obtain ⟨h4, h5⟩ := Bool.and_eq_true_iff.mp h
  refine ⟨?_, of_decide_eq_true h2, of_decide_eq_true h3, of_decide_eq_true h4, h5⟩
  split at h1
  · rename_i ty dd cd sl e
    obtain ⟨a1, g1⟩ := Bool.and_eq_true_iff.mp h1
    obtain ⟨a2, g2⟩ := Bool.and_eq_true_iff.mp g1
    obtain ⟨a3, g3⟩ := Bool.and_eq_true_iff.mp g2
    obtain ⟨a4, a5⟩ := Bool.and_eq_true_iff.mp g3
    clear h1 g1 g2 g3
    obtain ⟨nm, bs, mro, ns, q, hd, sn, sb, ab, col, hdel⟩ := cd
    dsimp only at a2 a3 a4
    split at a4
    · rename_i C' bm
      obtain ⟨b1, b2⟩ := Bool.and_eq_true_iff.mp a4
      replace b1 := of_decide_eq_true b1
      split at a5
      · rename_i k0 k1 k2 k3 nw k5 es
        have es' : sl = #[k0, k1, k2, k3, some (.builtin nw), k5] := by
          have := congrArg List.toArray es
          simpa using this
        replace a1 := of_decide_eq_true a1
        replace a5 := of_decide_eq_true a5
        replace a3 : hdel = false := by simpa using a3
        subst a1 a2 a3 a5 es' b1
        exact ⟨nm, q, ns, bs, bm, sn, sb, ab, col, dd, k0, k1, k2, k3, k5, e, b2⟩
      · cases a5
    · cases a4
  · cases h1
/-- C.__init__ is as the kit's rule for it asks -/
def supB (file : Str) (K : Fg) (C : Addr) (n : Str) : Bool := (match PySem.W.findIn K (.ref C) "__init__" with
  | some (some (.ref f)) => decide (PySem.W.typeIn K (.ref f) = some (.type "function")) && (match K.lookup f with
    | some ⟨_, _, .func fd, _⟩ => shapeB file K C n fd
    | _ => false)
  | _ => false) && (oexB K C && (decide (PySem.W.findIn K (.ref C) n = some none) && (decide (PySem.W.mroIn K C (.ref C) = some true) && (decide (PySem.W.subIn K (.ref C) (.type "ValueError") = some true) &&
    (decide (PySem.W.ks_superIn K C C "__init__" = some (some (.builtin "ValueError.__init__"))) && (decide (PySem.W.nsIn K cStatics "thirdparty.any" = some none) && decide (PySem.W.nsIn K mainGlobals "super" = some none)))))))
set_option maxHeartbeats 4000000 in
theorem shapeB_ok {P : Program} {K : Fg} {C f : Addr} {n : Str} {oc : Value} {od : Option Addr} {osl : Array (Option Value)} {fd : FuncData} (lk : K.lookup f = some ⟨oc, od, .func fd, osl⟩) (h : shapeB P.main.file K C n fd = true) :
    ∃ (oc : Value) (od : Option Addr) (osl : Array (Option Value)) (kV doc pm : Value) (an : Option Addr) (ctv : Value) (cda cc : Addr) (q nm pre : Str) (scope : Scope) (q1 q2 q3 p1 p2 p3 p4 p5 p6 p7 p8 a1 a2 a3 a4 : Pos),
    K.lookup f = some ⟨oc, od, .func (PySem.W.fnX nm q (supParams n q1 q2) [.Expr (supCall pre n p1 p2 p3 p4 p5 p6 p7 p8) q3, supSet n a1 a2 a3 a4] scope [("__class__", cc)] .none kV doc pm an (.ref cda) ctv), osl⟩ ∧ PySem.W.codeIn K (.ref cda) q = true ∧ pre.length ≤ 1000 ∧ (p7.endLine == p8.line) = true ∧
    NdefX.nscB ["self", n, "__class__"] ["self", n] ["__class__"] scope = true ∧ scope.names.lookup ("super" : Str) = some .globalImplicit ∧ scope.names.lookup ("__class__" : Str) = some .free ∧ scope.names.lookup ("self" : Str) = some .local ∧
    (∃ (oc' : Value) (od' : Option Addr) (vs : Array Value) (sl' : Array (Option Value)) (file : Str) (tf : Tok), K.lookup cda = some ⟨oc', od', .fields vs, sl'⟩ ∧ vs[2]? = some (.str file tf) ∧ ((P.main.file : Str) == file) = true) ∧
    (∃ (oc' : Value) (od' : Option Addr) (sl' : Array (Option Value)), K.lookup cc = some ⟨oc', od', .cell (some (.ref C)), sl'⟩) := by
  obtain ⟨nm, q, params, body, scope, gl, clo, dfl, kV, doc, pm, an, code, ctv, bl⟩ := fd
  unfold shapeB at h
  dsimp only at h
  split at h
  · rename_i s1 q1 n1 q2 su p5 p6 ini p7 pre p1 n2 p2 cv p3 p4 p8 q3 s2 a1 n3 a2 n4 a3 a4 c0 cc cda
    obtain ⟨e1, h⟩ := Bool.and_eq_true_iff.mp h
    obtain ⟨e2, h⟩ := Bool.and_eq_true_iff.mp h
    obtain ⟨e3, h⟩ := Bool.and_eq_true_iff.mp h
    obtain ⟨e4, h⟩ := Bool.and_eq_true_iff.mp h
    obtain ⟨e5, h⟩ := Bool.and_eq_true_iff.mp h
    obtain ⟨e6, h⟩ := Bool.and_eq_true_iff.mp h
    obtain ⟨e7, h⟩ := Bool.and_eq_true_iff.mp h
    obtain ⟨e8, h⟩ := Bool.and_eq_true_iff.mp h
    obtain ⟨e9, h⟩ := Bool.and_eq_true_iff.mp h
    obtain ⟨e10, h⟩ := Bool.and_eq_true_iff.mp h
    obtain ⟨e11, h⟩ := Bool.and_eq_true_iff.mp h
    obtain ⟨e12, h⟩ := Bool.and_eq_true_iff.mp h
    obtain ⟨e13, h⟩ := Bool.and_eq_true_iff.mp h
    obtain ⟨e14, h⟩ := Bool.and_eq_true_iff.mp h
    obtain ⟨e15, h⟩ := Bool.and_eq_true_iff.mp h
    obtain ⟨e16, h⟩ := Bool.and_eq_true_iff.mp h
    obtain ⟨e17, h⟩ := Bool.and_eq_true_iff.mp h
    obtain ⟨e18, h⟩ := Bool.and_eq_true_iff.mp h
    obtain ⟨e19, h⟩ := Bool.and_eq_true_iff.mp h
    obtain ⟨e20, e21⟩ := Bool.and_eq_true_iff.mp h
    replace e1 := of_decide_eq_true e1
    replace e2 := of_decide_eq_true e2
    replace e3 := of_decide_eq_true e3
    replace e4 := of_decide_eq_true e4
    replace e5 := of_decide_eq_true e5
    replace e6 := of_decide_eq_true e6
    replace e7 := of_decide_eq_true e7
    replace e8 := of_decide_eq_true e8
    replace e9 := of_decide_eq_true e9
    replace e10 := of_decide_eq_true e10
    replace e11 := of_decide_eq_true e11
    replace e12 := of_decide_eq_true e12
    subst e1 e2 e3 e4 e5 e6 e7 e8 e9 e10 e11 e12
    refine ⟨oc, od, osl, kV, doc, pm, an, ctv, cda, cc, q, nm, pre, scope, q1, q2, q3, p1, p2, p3, p4, p5, p6, p7, p8, a1, a2, a3, a4, lk, e15, of_decide_eq_true e13, e14, e16, of_decide_eq_true e17, of_decide_eq_true e18, of_decide_eq_true e19, ?_, ?_⟩
    · split at e20
      · rename_i oc' od' vs sl' e
        split at e20
        · rename_i fl tf ev
          exact ⟨oc', od', vs, sl', fl, tf, e, ev, e20⟩
        · cases e20
      · cases e20
    · split at e21
      · rename_i oc' od' D sl' e
        have := of_decide_eq_true e21
        subst this
        exact ⟨oc', od', sl', e⟩
      · cases e21
  · cases h
end L3

/-! the package's errors: the head's facts; errors as values -/
namespace L3
open PySem L2
open Evl (Ex ex_rd ex_l ex_t sq_of st_of fresh_back)
theorem fldN {i : Nat} {n : Str} (h : errF i = some n) : FldN n := by
  unfold errF at h
  split at h
  all_goals first
    | (obtain rfl := Option.some.inj h; first | exact .inl rfl | exact .inr (.inl rfl) | exact .inr (.inr (.inl rfl)) | exact .inr (.inr (.inr rfl)))
    | cases h
section
variable {P : Program} {K : Fg} {h : Heap} {mg : Str → Option Value}
theorem supB_ok {C : Addr} {n : Str} (X : K.In h) (G : h.Ns mainGlobals mg) (hn : FldN n) (ht : (P.main.scope.names.lookup ("super" : Str)).isSome = false) (hb : supB P.main.file K C n = true) : ∃ f, SupC P K mg C f n := by
  obtain ⟨h1, h2⟩ := Bool.and_eq_true_iff.mp hb
  obtain ⟨c1, h3⟩ := Bool.and_eq_true_iff.mp h2
  obtain ⟨c2, h4⟩ := Bool.and_eq_true_iff.mp h3
  obtain ⟨c3, h5⟩ := Bool.and_eq_true_iff.mp h4
  obtain ⟨c4, h6⟩ := Bool.and_eq_true_iff.mp h5
  obtain ⟨c5, h7⟩ := Bool.and_eq_true_iff.mp h6
  obtain ⟨c6, c7⟩ := Bool.and_eq_true_iff.mp h7
  split at h1
  · rename_i f e
    obtain ⟨d1, d2⟩ := Bool.and_eq_true_iff.mp h1
    split at d2
    · rename_i oc od fd osl lk
      exact ⟨f, hn, shapeB_ok lk d2, oexB_ok c1, e, of_decide_eq_true d1, of_decide_eq_true c2, of_decide_eq_true c3, of_decide_eq_true c4, of_decide_eq_true c5, of_decide_eq_true c6, PySem.W.mg_none_of X G (of_decide_eq_true c7), ht⟩
    · cases d2
  · cases h1
end
/-- the class i may be made and raised -/
structure ErrC (P : Program) (K : Fg) (mg : Str → Option Value) (i : Nat) : Prop where
  gl : mg (errN i) = some (.ref (cxA K i))
  ec : ExcC K (cxA K i)
  xf : XfC K (cxA K i)
  su : ∀ n, errF i = some n → ∃ f, SupC P K mg (cxA K i) f n
  rz : errF i = none → RaiseC K mg (errN i) (cxA K i)
def errCB (file : Str) (K : Fg) (i : Nat) : Bool := (clsA K (errN i)).isSome && (excCB K (cxA K i) && (xfB K (cxA K i) && (match errF i with
  | some n => supB file K (cxA K i) n
  | none => raiseB K (errN i))))
theorem errCB_ok {P : Program} {K : Fg} {h : Heap} {mg : Str → Option Value} {i : Nat} (X : K.In h) (G : h.Ns mainGlobals mg) (ht : (P.main.scope.names.lookup ("super" : Str)).isSome = false) (e : errCB P.main.file K i = true) : ErrC P K mg i := by
  obtain ⟨h1, h2⟩ := Bool.and_eq_true_iff.mp e
  obtain ⟨h3, h4⟩ := Bool.and_eq_true_iff.mp h2
  obtain ⟨h5, h6⟩ := Bool.and_eq_true_iff.mp h4
  obtain ⟨C, hC⟩ := Option.isSome_iff_exists.mp h1
  have ec : cxA K i = C := by unfold cxA; rw [hC]; rfl
  refine ⟨by rw [ec]; exact clsA_gl X G hC, excCB_ok h3, xfB_ok h5, fun n hn => ?_, fun hn => ?_⟩
  · rw [hn] at h6
    exact supB_ok X G (fldN hn) ht h6
  · rw [hn] at h6
    rw [ec]
    exact raiseB_ok X G hC h6
/-- the errors is may be made and raised; the classes js are asked for -/
structure Errs (P : Program) (K : Fg) (mg : Str → Option Value) (is js : List Nat) : Prop where
  c : ∀ i ∈ is, ErrC P K mg i
  it : ∀ i ∈ is, ∀ j ∈ js, PySem.W.kitOne K (.ref (cxA K i)) (clsV K j) = some (errIs i j)
  ex : ∀ i ∈ is, ∀ j ∈ js, j < 14 → PySem.W.exmOne K (.ref (cxA K i)) (.ref (cxA K j)) = some (errIs i j)
  gl : ∀ j ∈ js, j < 14 → mg (errN j) = some (.ref (cxA K j))
def errsB (file : Str) (K : Fg) (is js : List Nat) : Bool := is.all (fun i => errCB file K i && js.all fun j => decide (PySem.W.kitOne K (.ref (cxA K i)) (clsV K j) = some (errIs i j)) && (decide (14 ≤ j) || decide (PySem.W.exmOne K (.ref (cxA K i)) (.ref (cxA K j)) = some (errIs i j)))) &&
  js.all fun j => decide (14 ≤ j) || (clsA K (errN j)).isSome
theorem errsB_ok {P : Program} {K : Fg} {h : Heap} {mg : Str → Option Value} {is js : List Nat} (X : K.In h) (G : h.Ns mainGlobals mg) (ht : (P.main.scope.names.lookup ("super" : Str)).isSome = false) (e : errsB P.main.file K is js = true) : Errs P K mg is js := by
  obtain ⟨h1, h2⟩ := Bool.and_eq_true_iff.mp e
  have h1 := List.all_eq_true.mp h1
  have h2 := List.all_eq_true.mp h2
  have two : ∀ i ∈ is, ∀ j ∈ js, PySem.W.kitOne K (.ref (cxA K i)) (clsV K j) = some (errIs i j) ∧ (j < 14 → PySem.W.exmOne K (.ref (cxA K i)) (.ref (cxA K j)) = some (errIs i j)) := fun i hi j hj => by
    obtain ⟨a, b⟩ := Bool.and_eq_true_iff.mp (List.all_eq_true.mp (Bool.and_eq_true_iff.mp (h1 i hi)).2 j hj)
    refine ⟨of_decide_eq_true a, fun hl => ?_⟩
    rcases Bool.or_eq_true_iff.mp b with b | b
    · exact absurd (of_decide_eq_true b) (by omega)
    · exact of_decide_eq_true b
  refine ⟨fun i hi => errCB_ok X G ht (Bool.and_eq_true_iff.mp (h1 i hi)).1, fun i hi j hj => (two i hi j hj).1, fun i hi j hj => (two i hi j hj).2, fun j hj hl => ?_⟩
  rcases Bool.or_eq_true_iff.mp (h2 j hj) with b | b
  · exact absurd (of_decide_eq_true b) (by omega)
  · obtain ⟨C, hC⟩ := Option.isSome_iff_exists.mp b
    rw [show cxA K j = C by unfold cxA; rw [hC]; rfl]
    exact clsA_gl X G hC
/-! ### errors as values -/
/-- an error object that was made, at a -/
def ExcAt (K : Fg) (B : Hp) (a : Addr) (x : Er) : Prop := (errF x.1 = none ∧ B a = some (ExO (.ref (cxA K x.1)) a)) ∨ ∃ n d v, errF x.1 = some n ∧ B a = some (exo a (cxA K x.1) (some d)) ∧ B d = some (exd d [(n, v)]) ∧ Dp K B v x.2
def rExc : Rep Er := ⟨fun K B v x => ∃ a, v = .ref a ∧ ExcAt K B a x, fun e ⟨a, h1, h2⟩ => ⟨a, h1, by
  rcases h2 with ⟨h3, h4⟩ | ⟨n, d, v, h3, h4, h5, h6⟩
  · exact .inl ⟨h3, e _ _ h4⟩
  · exact .inr ⟨n, d, v, h3, e _ _ h4, e _ _ h5, dp_mono e h6⟩⟩⟩
section
variable {X : Cx} {pins : List (Addr × Obj)} {σ : L2.St} {H : Hp} {s : Shared}
theorem exd_in {d : Addr} {n : Str} {v : V} (I : Inv X pins σ H s) (e : H d = some (exd d [(n, v)])) : ∃ od u, s.heap.get? d = some od ∧ PySem.W.lookIn n od = some (some u) ∧ L2.RelV v u := by
  obtain ⟨mA, hns, hr⟩ := exd_at I.hok e
  obtain ⟨od, ho, hl⟩ := lookIn_ns hns
  obtain ⟨u, hu, ru⟩ := RelO.some_of (v := v) (o := mA n) (by have := hr n; rw [show ([(n, v)] : List (Str × V)).lookup n = some v by simp [List.lookup]] at this; exact this)
  exact ⟨od, u, ho, by rw [hl, hu], ru⟩
theorem exc_inst {a : Addr} {x : Er} (I : Inv X pins σ H s) (h : ExcAt X.K H a x) : ∃ oe od, PySem.W.InstAt s.heap a oe (cxA X.K x.1) od ∧ (∀ n, errF x.1 = some n → ∃ oD v u, od = some oD ∧ PySem.W.lookIn n oD = some (some u) ∧ L2.RelV v u ∧ Dp X.K H v x.2) := by
  rcases h with ⟨h1, h2⟩ | ⟨n, d, v, h1, h2, h3, h4⟩
  · obtain ⟨⟨oe, vs, e1, ⟨e2, e3⟩, e4, _⟩, _, _⟩ := I.hok a _ h2
    refine ⟨oe, none, ⟨e1, e2, by unfold PySem.W.notCls; rw [e4] <;> rfl, by rw [e3]; trivial⟩, fun n hn => ?_⟩
    rw [h1] at hn
    cases hn
  · obtain ⟨t1, e1⟩ := exo_at I.hok h2
    obtain ⟨od, u, e2, e3, e4⟩ := exd_in I h3
    refine ⟨_, some od, ⟨e1, rfl, rfl, e2⟩, fun n' hn => ?_⟩
    rw [h1] at hn
    obtain rfl := Option.some.inj hn
    exact ⟨od, v, u, rfl, e3, e4, h4⟩
end
/-- isinstance(e, C) -/
def rIsV (K : Fg) : List V → Hp → VK → Prop := fun xs H Q => ∃ (c : V) (a : Addr) (x : Er) (j : Nat), xs = [.ref a, c] ∧ (∀ u, L2.RelV c u → u = clsV K j) ∧ ExcAt K H a x ∧ ExcC K (cxA K x.1) ∧ PySem.W.kitOne K (.ref (cxA K x.1)) (clsV K j) = some (errIs x.1 j) ∧ Q (.bl (errIs x.1 j)) H
theorem clsV_tup {K : Fg} {j : Nat} : ∀ (a : Addr), clsV K j = .ref a → j < 14 := fun a e => by
  unfold clsV at e
  split at e
  · assumption
  · cases e
theorem call_isV {X : Cx} : CallR X (.builtin "isinstance") (rIsV X.K) := by
  intro pins s σ H xs us Q I r h
  obtain ⟨c, a, x, j, rfl, hc, hx, C, e, q⟩ := h
  obtain ⟨u1, u2, rfl, r1, r2⟩ := vals2 r
  obtain rfl : u1 = Value.ref a := r1
  have e2 := hc _ r2
  subst e2
  obtain ⟨oe, od, J, _⟩ := exc_inst I hx
  have hcl : (PySem.W.clsIn X.K (cxA X.K x.1)).isSome = true := by
    obtain ⟨cd, hc, _⟩ := PySem.W.any_some C.hd
    rw [hc]; rfl
  exact PySem.W.kia_one (PySem.W.kitx_exc (od := od) (ox := oe) hcl C.hg C.hk C.hs C.ha C.hn C.ht C.hm) I.kIn J e (fun z => nomatch z) fun tk => ⟨.bl _, H, I.tok tk, rfl, q⟩
/-- e.f -/
def tFldE (K : Fg) (te : TE) (n : Str) : TE := fun σ H Q => te σ H fun y H1 => ∃ (a d : Addr) (i : Nat) (v : V), y = .ref a ∧ H1 a = some (exo a (cxA K i) (some d)) ∧ H1 d = some (exd d [(n, v)]) ∧ XfC K (cxA K i) ∧ PySem.W.findIn K (.ref (cxA K i)) n = some none ∧ Q v H1
theorem pe_fldE {X : Cx} {e : Expr} {te : TE} {n : Str} {pos : Pos} (he : PE X e te) (hb : attributeBase e n X.env (eval e X.env) = eval e X.env := by rfl) : PE X (.Attribute e n pos) (tFldE X.K te n) := by
  refine ⟨fun pins s σ H Q I h => ?_⟩
  refine attr_of hb (thn (he.run pins s σ H _ I h) fun u s1 ⟨y, H1, I1, r1, a, d, i, v, ey, h1, h2, T, hf, q⟩ => ?_)
  subst ey
  obtain rfl : u = Value.ref a := r1
  obtain ⟨t1, e1⟩ := exo_at I1.hok h1
  obtain ⟨od, u, e2, e3, e4⟩ := exd_in I1 h2
  have J : PySem.W.InstAt s1.heap a _ (cxA X.K i) (some od) := ⟨e1, rfl, rfl, e2⟩
  exact HandSPX.exc_get I1.kIn J T.ga T.gg T.exC (PySem.W.findObj_own T.hdC hf rfl e3) (handed_of e4) ⟨v, H1, I1.tok _, e4, q⟩
end L3

/-! errors made as values, raised, handed on by defs -/
namespace L3
open PySem L2
open Evl (Ex ex_rd ex_l ex_t sq_of st_of fresh_back)
/-! ### C(e) as a value -/
def tMkV (C : Addr) (sp : Sp) (ta : TA) : TE := fun σ H Q => ta σ H fun vs H1 => vs.length ≤ 1000 ∧ ∀ a, H1 a = none → sp (.ref a :: vs) (upd H1 a (exo a C none)) (fun v H2 => v = .non ∧ Q (.ref a) H2) (fun _ _ _ => False)
theorem pe_oexV {X : Cx} {x : Str} {C fI : Addr} {k : Nat} {fd : FuncData} {ps : List Str} {sp : Sp} {e : Expr} {es : List Expr} {ta : TA} {p pos : Pos} (T : OexC X.K C) (iC : PySem.W.findIn X.K (.ref C) "__init__" = some (some (.ref fI))) (tI : PySem.W.typeIn X.K (.ref fI) = some (.type "function"))
    (F1 : FnOk X.prog X.w X.K X.mg X.base CX0 k fI fd ps sp) (hr : Room (k + 1) X.A) (hb : Binds X.K fd ps []) (hg : Gl X x) (hm : X.mg x = some (.ref C)) (ha : PA X (e :: es) ta)
    (hdb : (x == ("__debug__" : Str)) = false := by decide) (he : starEach (e :: es) X.env = (false, eval e X.env) :: starEach es X.env := by rfl) (hpl : (backTo pos (starEach es X.env)).any (·.1) = false := by rfl) :
    PE X (.Call (.Name x p) (e :: es) [] pos) (tMkV C sp ta) := by
  refine ⟨fun pins s σ H Q I h => ?_⟩
  obtain ⟨nm, q, N, bs, bm, sn, sub, ab, col, dd, k0, k1, k2, k3, k5, hC, hbm⟩ := T.cls
  refine wpAny_Call_Name_kw (ld_glob I hg hm ?_ hdb)
  refine PySem.W.callWith_K (h₀ := X.base) I.ok.mod.kin T.kC (thn (ha.run pos pins s σ H _ I h) fun us s1 ⟨vs, H1, I1, r1, hz, q1⟩ => ⟨I1.kIn, ?_⟩) he hpl
  show wpAny _ _ (call (.ref C) us) _ _ _
  obtain ⟨hp, g, dr, tk, os⟩ := s1
  have hsz : hp.objs.size ≤ hp.objs.size + 1 := Nat.le_succ _
  have hn : H1 (hp.objs.size + 1) = none := I1.hok.fresh hsz
  have hq := q1 (hp.objs.size + 1) hn
  have kk : ∀ b o, hp.get? b = some o → ((hp.push (PySem.W.kdv_tup us)).push (PySem.HandSPX.excO C hp.objs.size)).get? b = some o := fun b o e => Heap.get?_push_of_some _ (Heap.get?_push_of_some _ e)
  have hget : ((hp.push (PySem.W.kdv_tup us)).push (PySem.HandSPX.excO C hp.objs.size)).get? (hp.objs.size + 1) = some (PySem.HandSPX.excO C hp.objs.size) := by heap_get
  have I2 : Inv X pins σ (upd H1 (hp.objs.size + 1) (exo (hp.objs.size + 1) C none)) ⟨(hp.push (PySem.W.kdv_tup us)).push (PySem.HandSPX.excO C hp.objs.size), g, dr, tk, os⟩ :=
    I1.laid (t' := tk) (a := hp.objs.size + 1) (o := exo (hp.objs.size + 1) C none) (h' := (hp.push (PySem.W.kdv_tup us)).push (PySem.HandSPX.excO C hp.objs.size)) kk hsz (exo_ok hget)
  have r2 : Vals (V.ref (hp.objs.size + 1) :: vs) (Value.ref (hp.objs.size + 1) :: us) := .cons rfl r1
  have hl : (Value.ref (hp.objs.size + 1) :: us ++ []).length = ps.length := by
    have e := r2.length
    rw [F1.len _ _ _ _ hq] at e
    rw [List.append_nil]
    exact e.symm
  have hus : us.length ≤ sizeLine := by
    rw [← Paired.length r1, sizeLine_eq]
    omega
  have hb2 := hb _ (Value.ref (hp.objs.size + 1) :: us) I2.kIn hl
  rw [List.append_nil] at hb2
  refine wpAny_call (PySem.HandSPX.call_own F.excBase_ValueError (fun Y => PySem.HandSPX.refsVE_contains Y bm hbm) (I1.kIn _ _ hC) (PySem.W.looks_findIn I1.kIn iC) (fun self => PySem.W.bind_fn I1.kIn self tI) hus
    (codeAny_mono (F1.run _ X.stack _ _ ⟨Value.ref (hp.objs.size + 1) :: us, []⟩ (Value.ref (hp.objs.size + 1) :: us) _ _ (fun _ _ _ => False) (hr.make C us []) (I2.env0.make C us []) hb2 r2 hq) fun r s' hq' => ?_))
  cases r with
  | error er => exact hq'.elim
  | ok fl =>
    cases fl with
    | ret u =>
      obtain ⟨v, H2, os2, bare2, un2, hok2, rv, ev, q2⟩ := hq'
      subst ev
      exact ⟨rv, .ref (hp.objs.size + 1), H2, I2.call' (ch := []) os2 un2 hok2 bare2 (fun b z => absurd z (by simp)), rfl, q2⟩
    | next => exact False.elim hq'
    | brk => exact False.elim hq'
    | cont => exact False.elim hq'
section
variable {X : Cx} {k i : Nat} {n : Str} {f : Addr} {e : Expr} {es : List Expr} {te : TE} {ta : TA} {p pos pos' : Pos} {x : Str}
theorem pe_mkF (S : SupC X.prog X.K X.mg (cxA X.K i) f n) (gl : X.mg (errN i) = some (.ref (cxA X.K i))) (hx : x = errN i) (hr : Room (k + 2) X.A) (hg : Gl X x) (ha : PE X e te) (hdb : (x == ("__debug__" : Str)) = false := by decide) (he : starEach [e] X.env = (false, eval e X.env) :: starEach [] X.env := by rfl) :
    PE X (.Call (.Name x p) [e] [] pos) (tMkV (cxA X.K i) (spInit X.K (cxA X.K i) n) (tCons te tNil)) := by
  subst hx
  obtain ⟨fd, F1, hb⟩ := S.ok (w := X.w) (base := X.base) (CX := CX0) (k := k)
  exact pe_oexV S.oex S.ini S.fty F1 hr hb hg gl (pa_cons ha pa_nil he) hdb he rfl
theorem pe_mk0 (R : RaiseC X.K X.mg (errN i) (cxA X.K i)) (hx : x = errN i) (hg : Gl X x) (ha : PE X e te) (hdb : (x == ("__debug__" : Str)) = false := by decide) (hs : starEach [e] X.env = (false, eval e X.env) :: starEach [] X.env := by rfl) :
    PE X (.Call (.Name x p) [e] [] pos) (fun σ H Q => te σ H fun _ H1 => ∀ a, H1 a = none → Q (.ref a) (upd H1 a (ExO (.ref (cxA X.K i)) a))) := by
  subst hx
  exact pe_exc1 PySem.F.excBase_ValueError R.ow R.gl R.kp hg ha hs hdb
end
section
variable {K : Fg} {M : Fr} {σ : L2.St} {B H : Hp} {L L1 L2' : List Cell} {α : Type} {r : Rep α} {a : α} {te : TE} {i : Nat} {n : Str} {f : α → PyData}
theorem fm_mono {B B' : Hp} {v : V} (e : Ex B B') (h : Fm K B v) : Fm K B' v := by
  rcases h with h | h | ⟨p, l, h1, h2, h3⟩
  · exact .inl h
  · exact .inr (.inl h)
  · exact .inr (.inr ⟨p, l, h1, ex_t e h2, h3⟩)
theorem ev_mkF (hn : errF i = some n) (hd : ∀ B v, r.is K B v a → Dp K B v (f a)) (hf : ∀ B v, r.is K B v a → Fm K B v) (ha : EV K M te σ B L r a L1) : EV K M (tMkV (cxA K i) (spInit K (cxA K i) n) (tCons te tNil)) σ B L rExc (i, f a) L1 := fun B1 H e w Q q =>
  ha B1 H e w _ fun v B2 H2 e2 w2 hv => ⟨by show 1 ≤ 1000; decide, fun p hp => ⟨p, v, rfl, upd_same, fm_mono (Ex.trans w2.b (Ex.new hp)) (hf _ _ hv), fun dx hdx hne => by
    have hd0 : H2 dx = none := by rw [upd_ne hne] at hdx; exact hdx
    have hb0 : B2 dx = none := fresh_back w2.b hd0
    have w3 := w2.ext (o := exd dx [(n, v)]) hd0
    have hp2 : upd H2 dx (exd dx [(n, v)]) p = none := by rw [upd_ne (Ne.symm hne)]; exact hp
    have hb2 : upd B2 dx (exd dx [(n, v)]) p = none := fresh_back w3.b hp2
    have w4 := w3.ext (o := exo p (cxA K i) (some dx)) hp2
    have eH : upd (upd (upd H2 p (exo p (cxA K i) none)) dx (exd dx [(n, v)])) p (exo p (cxA K i) (some dx)) = upd (upd H2 dx (exd dx [(n, v)])) p (exo p (cxA K i) (some dx)) := by
      funext b
      by_cases h1 : b = p
      · rw [h1, upd_same, upd_same]
      · rw [upd_ne h1, upd_ne h1]
        by_cases h2 : b = dx
        · rw [h2, upd_same, upd_same]
        · rw [upd_ne h2, upd_ne h2, upd_ne h1]
    rw [eH]
    have eE : Ex B2 (upd (upd B2 dx (exd dx [(n, v)])) p (exo p (cxA K i) (some dx))) := Ex.trans (Ex.new hb0) (Ex.new hb2)
    exact ⟨rfl, q (.ref p) _ _ (e2.trans eE) w4 ⟨p, rfl, .inr ⟨n, dx, v, hn, upd_same, by rw [upd_ne hne]; exact upd_same, dp_mono eE (hd _ _ hv)⟩⟩⟩⟩⟩
theorem ev_mk0 (hn : errF i = none) (ha : EV K M te σ B L r a L1) : EV K M (fun σ H Q => te σ H fun _ H1 => ∀ a, H1 a = none → Q (.ref a) (upd H1 a (ExO (.ref (cxA K i)) a))) σ B L rExc (i, PyData.none) L1 := fun B1 H e w Q q =>
  ha B1 H e w _ fun v B2 H2 e2 w2 hv p hp => q (.ref p) _ _ (e2.trans (Ex.new (fresh_back w2.b hp))) (w2.ext hp) ⟨p, rfl, .inl ⟨hn, upd_same⟩⟩
theorem ev_isEo {x : Er} {j : Nat} {tc : TE} (C : ExcC K (cxA K x.1)) (hk : PySem.W.kitOne K (.ref (cxA K x.1)) (clsV K j) = some (errIs x.1 j)) (ha : EV K M te σ B L rExc x L1) (hc : ∀ σ H Q, (∀ c : V, (∀ u, L2.RelV c u → u = clsV K j) → Q c H) → tc σ H Q) :
    EV K M (tCB (rIsV K) (tCons te (tCons tc tNil))) σ B L rBool (errIs x.1 j) L1 := fun B1 H e w Q q =>
  ha B1 H e w _ fun v B2 H2 e2 w2 ⟨p, hv, hx⟩ => hc _ _ _ fun c hcv => ⟨c, p, x, j, by rw [hv], hcv, by
    rcases hx with ⟨h3, h4⟩ | ⟨n, d, v, h3, h4, h5, h6⟩
    · exact .inl ⟨h3, w2.b _ _ h4⟩
    · exact .inr ⟨n, d, v, h3, w2.b _ _ h4, w2.b _ _ h5, dp_mono w2.b h6⟩, C, hk, q _ B2 H2 e2 w2 rfl⟩
theorem tc_own {j : Nat} (hj : j < 14) : ∀ (σ : L2.St) (H : Hp) (Q : VK), (∀ c : V, (∀ u, L2.RelV c u → u = clsV K j) → Q c H) → tC (.ref (cxA K j)) σ H Q := fun σ H Q q => q _ fun u hu => by
  unfold clsV
  rw [if_pos hj]
  exact hu
theorem tc_VE {j : Nat} (hj : 14 ≤ j) : ∀ (σ : L2.St) (H : Hp) (Q : VK), (∀ c : V, (∀ u, L2.RelV c u → u = clsV K j) → Q c H) → tC (.ty "ValueError") σ H Q := fun σ H Q q => q _ fun u hu => by
  unfold clsV
  rw [if_neg (by omega)]
  exact hu
/-- what an error's field holds, if it is the one that is asked -/
def fldE (n : Str) (x : Er) : Option PyData := if errF x.1 = some n then some x.2 else none
theorem ev_fldE {x : Er} {d : PyData} (T : XfC K (cxA K x.1)) (hf : ∀ n, errF x.1 = some n → PySem.W.findIn K (.ref (cxA K x.1)) n = some none) (ha : EV K M te σ B L rExc x L1) (hd : fldE n x = some d) : EV K M (tFldE K te n) σ B L rDat d L1 := fun B1 H e w Q q =>
  ha B1 H e w _ fun v B2 H2 e2 w2 ⟨p, hv, hx⟩ => by
    unfold fldE at hd
    split at hd
    · rename_i hn
      obtain rfl := Option.some.inj hd
      rcases hx with ⟨h3, _⟩ | ⟨n', d, v', h3, h4, h5, h6⟩
      · rw [hn] at h3
        cases h3
      · rw [hn] at h3
        obtain rfl := Option.some.inj h3
        exact ⟨p, d, x.1, v', hv, w2.b _ _ h4, w2.b _ _ h5, T, hf _ hn, q v' B2 H2 e2 w2 h6⟩
    · cases hd
end
end L3
namespace L3
open PySem L2
open Evl (Ex ex_rd ex_l ex_t sq_of st_of fresh_back)
/-! ### data that an error's text may tell -/
def itemD : PyData → Bool
  | .int i => decide (i.natAbs.log2 < 1000)
  | .str y => decide (y.length ≤ 1000) && y.cps.toList.all fun c => decide (c < 16 ^ 8)
  | _ => false
def fmD : PyData → Bool
  | .int i => decide (i.natAbs.log2 < 1000)
  | .str y => decide (y.length ≤ 1000)
  | .tuple l => decide (l.length ≤ 10) && l.all itemD
  | _ => false
def fmC (d : PyData) : Option Unit := if fmD d = true then some () else none
theorem item_f {K : Fg} {B : Hp} {v : V} {d : PyData} (h : Dp K B v d) (k : itemD d = true) : ItemF v := by
  cases h with
  | int i => exact (of_decide_eq_true k : i.natAbs.log2 < 1000)
  | str y =>
    obtain ⟨k1, k2⟩ := Bool.and_eq_true_iff.mp k
    exact ⟨of_decide_eq_true k1, fun c hc => of_decide_eq_true (List.all_eq_true.mp k2 c hc)⟩
  | _ => cases k
theorem items_f {K : Fg} {B : Hp} : ∀ {vs : List V} {ds : List PyData}, DpAll K B vs ds → ds.all itemD = true → ∀ v ∈ vs, ItemF v
  | _, _, .nil, _, v, hv => by simp at hv
  | _, _, .cons h t, k, v, hv => by
    rw [List.all_cons] at k
    obtain ⟨k1, k2⟩ := Bool.and_eq_true_iff.mp k
    rcases List.mem_cons.mp hv with rfl | hv
    · exact item_f h k1
    · exact items_f t k2 v hv
theorem fm_d {K : Fg} {B : Hp} {v : V} {d : PyData} {u : Unit} (h : Dp K B v d) (k : fmC d = some u) : Fm K B v := by
  unfold fmC at k
  split at k
  · rename_i k
    cases h with
    | int i => exact .inl ⟨i, rfl, of_decide_eq_true k⟩
    | str y => exact .inr (.inl ⟨y, rfl, of_decide_eq_true k⟩)
    | tup h1 h2 =>
      obtain ⟨k1, k2⟩ := Bool.and_eq_true_iff.mp k
      exact .inr (.inr ⟨_, _, rfl, h1, by rw [dpAll_len h2]; exact of_decide_eq_true k1, items_f h2 k2⟩)
    | _ => cases k
  · cases k
/-! ### by the head's facts -/
def isEr (is : List Nat) (x : Er) (j : Nat) : Option Bool := if x.1 ∈ is then some (errIs x.1 j) else none
def fldEr (is : List Nat) (n : Str) (x : Er) : Option PyData := if x.1 ∈ is then fldE n x else none
section
variable {P : Program} {X : Cx} {mg : Str → Option Value} {is js : List Nat} {i j k : Nat} {n : Str} {e : Expr} {te : TE} {p pos : Pos} {x : Str}
theorem pe_mkE (E : ErrC X.prog X.K X.mg i) (hn : errF i = some n) (hx : x = errN i) (hr : Room k X.A) (hk : 2 ≤ k) (hg : Gl X x) (ha : PE X e te) (hdb : (x == ("__debug__" : Str)) = false := by decide) (he : starEach [e] X.env = (false, eval e X.env) :: starEach [] X.env := by rfl) :
    PE X (.Call (.Name x p) [e] [] pos) (tMkV (cxA X.K i) (spInit X.K (cxA X.K i) n) (tCons te tNil)) := by
  obtain ⟨f, S⟩ := E.su n hn
  exact pe_mkF (k := 0) S E.gl hx (hr.mono hk) hg ha hdb he
theorem pe_mkN (E : ErrC X.prog X.K X.mg i) (hn : errF i = none) (hx : x = errN i) (hg : Gl X x) (ha : PE X e te) (hdb : (x == ("__debug__" : Str)) = false := by decide) (hs : starEach [e] X.env = (false, eval e X.env) :: starEach [] X.env := by rfl) :
    PE X (.Call (.Name x p) [e] [] pos) (fun σ H Q => te σ H fun _ H1 => ∀ a, H1 a = none → Q (.ref a) (upd H1 a (ExO (.ref (cxA X.K i)) a))) := pe_mk0 (E.rz hn) hx hg ha hdb hs
end
section
variable {P : Program} {K : Fg} {mg : Str → Option Value} {is js : List Nat} {M : Fr} {σ : L2.St} {B H : Hp} {L L1 L2' : List Cell} {α : Type} {r : Rep α} {a : α} {te : TE} {i j : Nat} {n : Str} {x : Er} {b : Bool} {d : PyData} {u : Unit}
theorem ev_mkE (hn : errF i = some n) (ha : EV K M te σ B L rDat d L1) (h : fmC d = some u) : EV K M (tMkV (cxA K i) (spInit K (cxA K i) n) (tCons te tNil)) σ B L rExc (i, d) L1 := ev_mkF (f := id) hn (fun _ _ h => h) (fun _ _ hv => fm_d hv h) ha
theorem ev_isO (TC : Errs P K mg is js) (hj : j ∈ js) (hl : j < 14) (ha : EV K M te σ B L rExc x L1) (h : isEr is x j = some b) : EV K M (tCB (rIsV K) (tCons te (tCons (tC (.ref (cxA K j))) tNil))) σ B L rBool b L1 := by
  unfold isEr at h
  split at h
  · rename_i hi
    obtain rfl := Option.some.inj h
    exact ev_isEo (TC.c _ hi).ec (TC.it _ hi _ hj) ha (tc_own hl)
  · cases h
theorem ev_isVE (TC : Errs P K mg is js) (hj : j ∈ js) (hl : 14 ≤ j) (ha : EV K M te σ B L rExc x L1) (h : isEr is x j = some b) : EV K M (tCB (rIsV K) (tCons te (tCons (tC (.ty "ValueError")) tNil))) σ B L rBool b L1 := by
  unfold isEr at h
  split at h
  · rename_i hi
    obtain rfl := Option.some.inj h
    exact ev_isEo (TC.c _ hi).ec (TC.it _ hi _ hj) ha (tc_VE hl)
  · cases h
theorem ev_fldO (TC : Errs P K mg is js) (ha : EV K M te σ B L rExc x L1) (h : fldEr is n x = some d) : EV K M (tFldE K te n) σ B L rDat d L1 := by
  unfold fldEr at h
  split at h
  · rename_i hi
    exact ev_fldE (TC.c _ hi).xf (fun n hn => by
      obtain ⟨f, S⟩ := (TC.c _ hi).su n hn
      exact S.noa) ha h
  · cases h
end
end L3
namespace L3
open PySem L2
theorem bt_ValueError : bootBuiltins "ValueError" = some (.type "ValueError") := by decide +kernel
theorem ev_nevD {K : Fg} {M : Fr} {σ : L2.St} {B : Hp} {L L1 L2' : List Cell} {ta tb : TE} {d d' : PyData} {b : Bool} (ha : EV K M ta σ B L rDat d L1) (hb : EV K M tb σ B L1 rDat d' L2') (h : eqvD d d' = some b) : EV K M (tOp (rNeD K) ta tb) σ B L rBool (!b) L2' :=
  ev_op ha hb fun B1 H1 x y Q w hx hy q => by
    unfold eqvD at h
    split at h
    · rename_i hc
      exact ⟨d, d', dp_mono w.b hx, dp_mono w.b hy, hc.1, hc.2, q _ (by rw [Option.some.inj h]; rfl)⟩
    · cases h
end L3

/-! the head's Hook, that looks at the statics too -/
namespace L3
open PySem PySem.Spec PyProof.Rows L2
def addS (g : Addr → Option Obj) (n : Nat) : List Addr := cStatics :: He.asD g n
def obsS (n : Nat) (fa : List He.Fa) (fn : List He.DefD) (ts : List He.Tab) (tf : List He.Defn) (ex : PySem.W.Frag → Bool) (g : Addr → Option Obj) : He.AlX := (He.obsT fa fn ts (He.frT g (addS g n)), ex (He.frT g (addS g n)) && He.tabsB g tf (He.frT g (addS g n)))
theorem saysS_of {n : Nat} {fa : List He.Fa} {fn : List He.DefD} {ts : List He.Tab} {tf : List He.Defn} {ex : PySem.W.Frag → Bool} {w : World} {h : Heap} (e : obsS n fa fn ts tf ex h.get? = He.valX fn ts w) : He.SaysX fa fn ts tf ex w h (He.frT h.get? (addS h.get? n)) := by
  have e1 : He.obsT fa fn ts (He.frT h.get? (addS h.get? n)) = He.valT fn ts w := congrArg (fun z : He.AlX => z.1) e
  have e2 : (ex (He.frT h.get? (addS h.get? n)) && He.tabsB h.get? tf (He.frT h.get? (addS h.get? n))) = true := congrArg (fun z : He.AlX => z.2) e
  obtain ⟨h1, h2⟩ := He.ba e2
  have key : ∀ p ∈ tf, PySem.W.codeHdIn (He.frT h.get? (addS h.get? n)) (He.cT (He.frT h.get? (addS h.get? n)) p).1 (He.cT (He.frT h.get? (addS h.get? n)) p).2 = true ∧ ∃ o, h.get? (He.cT (He.frT h.get? (addS h.get? n)) p).2 = some o ∧ He.emptyTab o = true := fun p hp => by
    obtain ⟨h3, h4⟩ := He.ba (List.all_eq_true.mp h2 p hp)
    refine ⟨h3, ?_⟩
    cases q : h.get? (He.cT (He.frT h.get? (addS h.get? n)) p).2 with
    | none =>
      rw [q] at h4
      cases h4
    | some o =>
      rw [q] at h4
      exact ⟨o, rfl, h4⟩
  exact ⟨e1, h1, fun p hp => (key p hp).1, fun p hp => by
    obtain ⟨_, o, q, z⟩ := key p hp
    exact He.frT_none q z, fun p hp => by
    obtain ⟨_, o, q, z⟩ := key p hp
    rw [q, He.emptyTab_eq z]⟩
def hookS (n : Nat) (fa : List He.Fa) (fn : List He.DefD) (ts : List He.Tab) (tf : List He.Defn) (ex : PySem.W.Frag → Bool) : PySem.W.Hook where
  α := He.AlX
  obs := fun s => obsS n fa fn ts tf ex s.heap.get?
  val := fun w => He.valX fn ts w
  says := fun w h => ∃ K : PySem.W.Frag, K.In h ∧ He.SaysX fa fn ts tf ex w h K
  of := fun _ _ e => ⟨_, He.frT_in, saysS_of e⟩
  keeps := fun _ _ _ ⟨K, hK, c⟩ k => ⟨K, PySem.W.Frag.In.keeps hK k, ⟨c.t, c.more, c.hd, c.out, fun p hp => k _ _ (c.empty p hp)⟩⟩
theorem obsS_eq {n : Nat} {fa : List He.Fa} {fn : List He.DefD} {ts : List He.Tab} {tf : List He.Defn} {ex : PySem.W.Frag → Bool} {g : Addr → Option Obj} {s : Shared} (h : ∀ a, g a = s.heap.get? a) : obsS n fa fn ts tf ex g = (hookS n fa fn ts tf ex).obs s := by
  have e : g = s.heap.get? := funext h
  rw [e] <;> rfl
end L3

namespace L3
open PySem L2
open Evl (Ex ex_rd ex_l ex_t sq_of st_of fresh_back)
def top (i : Nat) : Stmt := PySem.Challenge.pw_bestodds_k37_errors.main.body.getD i (.Pass ⟨0, 0, 0, 0⟩)
abbrev s__law_draws : Stmt := top 16
abbrev s__law_box : Stmt := top 17
abbrev s__law_next : Stmt := top 18
abbrev s__law_kinds : Stmt := top 19
abbrev s_law : Stmt := top 20
abbrev ErI : List Nat := [0, 1, 2, 3, 4, 5, 6, 7, 8, 9, 10, 11]
abbrev ErJ : List Nat := [0, 1, 2, 3, 4, 5, 6, 7, 8, 9, 10, 11, 12, 13, 14]
end L3
namespace L3
open PySem PySem.Spec PyProof.Rows L2
namespace End
def d__law_draws : He.DefD := ⟨("_law_draws", none), "_law_draws", "_law_draws", defArgs s__law_draws, defBody s__law_draws, defScope s__law_draws, [], []⟩
def d__law_next : He.DefD := ⟨("_law_next", none), "_law_next", "_law_next", defArgs s__law_next, defBody s__law_next, defScope s__law_next, [], []⟩
def d__law_kinds : He.DefD := ⟨("_law_kinds", none), "_law_kinds", "_law_kinds", defArgs s__law_kinds, defBody s__law_kinds, defScope s__law_kinds, [], []⟩
def d__law_box : He.DefD := ⟨("_law_box", none), "_law_box", "_law_box", defArgs s__law_box, defBody s__law_box, defScope s__law_box, [], []⟩
def d_law : He.DefD := ⟨("law", none), "law", "law", defArgs s_law, defBody s_law, defScope s_law, [], []⟩
def fn : List He.DefD := [d__law_draws, d__law_next, d__law_kinds, d__law_box, d_law]
def fa : List He.Fa := [.glo "_law_draws", .glo "_law_next", .glo "_law_kinds", .glo "_law_box", .glo "law", .free "range", .free "int", .free "len", .free "isinstance", .free "ValueError"]
def tf : List He.Defn := []
def tfa : List He.Defn := tf
def ts : List He.Tab := []
def ex : PySem.W.Frag → Bool := fun K => true && (errsB PySem.Challenge.rw_bestodds_k37_errors.prog.main.file K ErI ErJ)
def loose0 : List PySem.Str := ["BestoddsError", "InvalidRatio", "InvalidLine", "InvalidSystem", "InvalidWord", "SentenceTooLarge", "WeightTooGreat", "BenchError", "NoSuchState", "NoSuchChoice", "TooManyChanges", "InvalidName", "TooManyWishes", "UnknownName", "_law_draws", "_law_box", "_law_next", "_law_kinds"]
abbrev loose : List PySem.Str := loose0
abbrev R : PySem.W.OpenRow := PySem.W.OpenLaw.row PySem.Challenge.rw_bestodds_k37_errors
abbrev hk : PySem.W.Hook := hookS 6 fa fn ts tfa ex
def ob (s : PySem.W.SharedT) : He.AlX := obsS 6 fa fn ts tfa ex (HandSHeadRun.getT s)
theorem ob_eq (s : PySem.W.SharedT) : ob s = hk.obs s.abs := obsS_eq (HandSHeadRun.getT_eq s)
theorem run (w : World) : HandSHeadRun.RunEq R (PySem.W.view R.prog [20]) hk ob 4000 loose w := by
  intro os
  kernel_rfl
end End
end L3
namespace L3
open PySem L2
open Evl (Ex ex_rd ex_l ex_t sq_of st_of fresh_back)
section
variable {P : Program} {w : World} {K : PySem.W.Frag} {mg : Str → Option Value} {base : Heap} {f : Addr} {fd : FuncData} {T : List Addr} {cc : Addr}
noncomputable def m_l_draws (a0 : Int) (a1 : Int) (a2 : Int) : Option (List Int) :=
  Option.bind (if (decide (a0 < (0 : Int))) = true then
    some (((0 : Int) - a0))
  else
    some a0
  ) fun (s14 : Int) =>
  Option.bind (powI ((10 : Int)) ((18 : Int))) fun t27 =>
  if (decide (s14 ≥ t27)) = true then
    Option.bind (small62 a2) fun t31 =>
    Option.bind (foldO (S := (Int × (List Int))) (α := Int) (fun (s33 : (Int × (List Int))) (x34 : Int) => (
      Option.bind (modI s33.1 a1) fun t55 =>
      Option.bind (room s33.2.length) fun t57 =>
      Option.bind (divI s33.1 a1) fun t60 =>
      some (t60, (s33.2 ++ [t55]))
    )) ((s14, ([] : List Int))) ((rng 0 a2))) fun s65 =>
    some s65.2
  else
    Option.bind (small62 a2) fun t76 =>
    Option.bind (foldO (S := (List Int)) (α := Int) (fun (s78 : (List Int)) (x79 : Int) => (
      Option.bind (mulI ((7 : Int)) x79) fun t99 =>
      Option.bind (mulI (((s14 + t99) + (1 : Int))) ((48271 : Int))) fun t101 =>
      Option.bind (modI t101 ((2147483647 : Int))) fun t103 =>
      Option.bind (mulI t103 ((69621 : Int))) fun t108 =>
      Option.bind (mulI ((31 : Int)) x79) fun t110 =>
      Option.bind (modI ((t108 + t110)) ((2147483629 : Int))) fun t112 =>
      Option.bind (divI t112 ((7 : Int))) fun t117 =>
      Option.bind (modI t117 a1) fun t119 =>
      Option.bind (room s78.length) fun t121 =>
      some (s78 ++ [t119])
    )) (([] : List Int)) ((rng 0 a2))) fun s124 =>
    some s124
def C__law_draws : List Arg → List Cell → Arg → List Cell → Prop := fun as L r L' => ∃ a0 a1 a2 c, as = [⟨rInt, a0⟩, ⟨rInt, a1⟩, ⟨rInt, a2⟩] ∧ L = [] ∧ m_l_draws a0 a1 a2 = some c ∧ r = ⟨(rLst rInt), c⟩ ∧ L' = []
theorem sc__law_draws : FnScope ["_law_cell", "_law_modulus", "_law_count", "_law_number", "_law_row", "_law_k", "_law_mixed"] ["_law_cell", "_law_modulus", "_law_count"] (defScope s__law_draws) := ⟨rfl, rfl, rfl, by decide +kernel, rfl, by decide +kernel, by decide +kernel⟩
set_option maxHeartbeats 0 in
theorem ok__law_draws (F : FunC K "_law_draws" s__law_draws f fd cc) (z_range : mg "range" = none) (z_int : mg "int" = none) : FnOk P w K mg base CX0 1 f fd ["_law_cell", "_law_modulus", "_law_count"] (spV K T C__law_draws) := by
  refine F.ok sc__law_draws (fun vs H Q E h => ?_) (fun A outer s H vs Q E hr h => ?_)
  · obtain ⟨B, M, L, as, r, L', hT, w, ha, ⟨_, _, _, _, rfl, _⟩, k⟩ := h
    exact args_len ha
  · skip
    obtain ⟨B, M, L, as, r, L', rfl, w, ha, ⟨a0, a1, a2, c, rfl, rfl, hm, rfl, rfl⟩, k⟩ := h
    obtain ⟨u0, u1, u2, rfl, f0, f1, f2⟩ := args3 ha
    replace f0 : (rInt).is K B u0 a0 := f0
    replace f1 : (rInt).is K B u1 a1 := f1
    replace f2 : (rInt).is K B u2 a2 := f2
    unfold m_l_draws at hm
    refine ⟨_, (pss_cons (ps_set (i := 3) sc__law_draws.nd rfl (by first | exact Or.inl rfl | exact Or.inr rfl | exact Or.inr (Or.inl rfl) | exact Or.inr (Or.inr rfl)) (pv 0)) (Evl.pss_cut (ps_if (pt_cmpR op_lt (pv 3) pe_int (nomark _)) (pss_cons (ps_set (i := 3) sc__law_draws.nd rfl (by first | exact Or.inl rfl | exact Or.inr rfl | exact Or.inr (Or.inl rfl) | exact Or.inr (Or.inr rfl)) (pe_op op_sub pe_int (pv 3))) pss_nil) pss_nil) (pss_cons (ps_set (i := 4) sc__law_draws.nd rfl (by first | exact Or.inl rfl | exact Or.inr rfl | exact Or.inr (Or.inl rfl) | exact Or.inr (Or.inr rfl)) (pe_lst pa_nil)) (pss_cons (ps_if (pt_cmpR op_ge (pv 3) (pe_op op_pow pe_int pe_int) (nomark _)) (pss_cons (ps_for PassesOwn.never rfl (pi_range1 rfl z_range (pa_cons (pv 2) pa_nil)) (pg_name (i := 5) sc__law_draws.nd rfl (by first | exact Or.inl rfl | exact Or.inr rfl | exact Or.inr (Or.inl rfl) | exact Or.inr (Or.inr rfl))) (pss_cons (ps_expr (pe_bm PySem.F.plainAttrs_list PySem.F.slot_list_append PySem.F.type_list_append mt_append (pv 4) (pa_cons (pe_op op_mod (pe_callTy call_int1 rfl z_int bt_int (pa_cons (pv 3) pa_nil)) (pv 1)) pa_nil))) (pss_cons (ps_set (i := 3) sc__law_draws.nd rfl (by first | exact Or.inl rfl | exact Or.inr rfl | exact Or.inr (Or.inl rfl) | exact Or.inr (Or.inr rfl)) (pe_op op_fdivW (pv 3) (pv 1))) pss_nil))) (pss_cons (ps_ret (pv 4)) pss_nil)) pss_nil) (pss_cons (ps_for PassesOwn.never rfl (pi_range1 rfl z_range (pa_cons (pv 2) pa_nil)) (pg_name (i := 5) sc__law_draws.nd rfl (by first | exact Or.inl rfl | exact Or.inr rfl | exact Or.inr (Or.inl rfl) | exact Or.inr (Or.inr rfl))) (pss_cons (ps_set (i := 6) sc__law_draws.nd rfl (by first | exact Or.inl rfl | exact Or.inr rfl | exact Or.inr (Or.inl rfl) | exact Or.inr (Or.inr rfl)) (pe_op op_mod (pe_callTy call_int1 rfl z_int bt_int (pa_cons (pe_op op_mulX (pe_op op_add (pe_op op_add (pv 3) (pe_op op_mulX pe_int (pv 5))) pe_int) pe_int) pa_nil)) pe_int)) (pss_cons (ps_set (i := 6) sc__law_draws.nd rfl (by first | exact Or.inl rfl | exact Or.inr rfl | exact Or.inr (Or.inl rfl) | exact Or.inr (Or.inr rfl)) (pe_op op_mod (pe_callTy call_int1 rfl z_int bt_int (pa_cons (pe_op op_add (pe_op op_mulX (pv 6) pe_int) (pe_op op_mulX pe_int (pv 5))) pa_nil)) pe_int)) (pss_cons (ps_expr (pe_bm PySem.F.plainAttrs_list PySem.F.slot_list_append PySem.F.type_list_append mt_append (pv 4) (pa_cons (pe_op op_mod (pe_callTy call_int1 rfl z_int bt_int (pa_cons (pe_op op_fdivW (pv 6) pe_int) pa_nil)) (pv 1)) pa_nil))) pss_nil)))) (pss_cons (ps_ret (pv 4)) pss_nil)))))), ?_⟩
    rw [show start ["_law_cell", "_law_modulus", "_law_count", "_law_number", "_law_row", "_law_k", "_law_mixed"] [u0, u1, u2] = ([some u0, some u1, some u2, none, none, none, none] : L2.St) from rfl]
    refine q_asg (n := 3) w (ev_varI rfl f0) fun v11 B10 H10 x10 (w10 : Own K B10 M [] H10) h12 => ?_
    obtain ⟨s14, e15, hm⟩ := bindS hm
    refine q_cut (fun σ24 H21 => ∃ v22 B21, Ex B10 B21 ∧ Own K B21 M [] H21 ∧ σ24 = [some u0, some u1, some u2, some v22, none, none, none] ∧ (rInt).is K B21 v22 s14) ?_ ?_
    · skip
      refine q_ifc w10 (et_test (ev_lt (ev_varI rfl h12) (ev_int (i := 0)))) (fun hb13 B16 H16 x16 (w16 : Own K B16 M [] H16) => ?_) (fun hb13 B20 H20 x20 (w20 : Own K B20 M [] H20) => ?_)
      · skip
        rw [if_pos hb13] at e15
        refine q_asg (n := 3) w16 (ev_sub (ev_int (i := 0)) (ev_varI rfl h12)) fun v18 B17 H17 x17 (w17 : Own K B17 M [] H17) h19 => ?_
        replace e15 : some _ = some _ := e15
        cases e15
        exact ⟨v18, _, (x16.trans x17), w17, rfl, h19⟩
      rw [if_neg (by rw [hb13]; exact Bool.false_ne_true)] at e15
      replace e15 : some _ = some _ := e15
      cases e15
      exact ⟨v11, _, x20, w20, rfl, ((rInt).mono x20 h12)⟩
    rintro σ24' H21 ⟨v22, B21, x21, w21, rfl, h23⟩
    refine q_asgL (n := 4) w21 (el_lst (r := rInt) ([] : List Int) ea_nil) fun p26 B25 H25 x25 (w25 : Own K B25 M [⟨p26, (cLst rInt), ([] : List Int)⟩] H25) => ?_
    obtain ⟨t27, e28, hm⟩ := bindS hm
    refine q_if w25 (et_test (ev_ge (ev_varI rfl h23) (ev_pow (ev_int (i := 10)) (ev_int (i := 18)) e28))) (fun hb29 B30 H30 x30 (w30 : Own K B30 M [⟨p26, (cLst rInt), ([] : List Int)⟩] H30) => ?_) (fun hb29 B75 H75 x75 (w75 : Own K B75 M [⟨p26, (cLst rInt), ([] : List Int)⟩] H75) => ?_)
    · skip
      rw [if_pos hb29] at hm
      obtain ⟨t31, e32, hm⟩ := bindS hm
      obtain ⟨s65, e37, hm⟩ := bindS hm
      refine q_fold w30 (ei_rng1 (ea_cons (ev_varI rfl f2) ea_nil) e32) _ (fun s33 B38 σ51 => ∃ v52 o54, σ51 = [some u0, some u1, some u2, some v52, some (.ref p26), o54, none] ∧ (rInt).is K B38 v52 s33.1) (fun s33 => [⟨p26, (cLst rInt), s33.2⟩]) ((s14, ([] : List Int))) e37 (fun B9 x9 => ⟨v22, _, rfl, ((rInt).mono x9 ((rInt).mono (x25.trans x30) h23))⟩) rfl ?_ ?_
      · skip
        rintro s33 x34 s74 v44 B38 B39 H40 σ51 hb35 x41 ⟨v52, o54, rfl, h53⟩ x42 w43 h45 N46 K47 hN48
        replace w43 : Own K B39 M [⟨p26, (cLst rInt), s33.2⟩] H40 := w43
        refine g_name ?_
        obtain ⟨t55, e56, hb35⟩ := bindS hb35
        obtain ⟨t57, e58, hb35⟩ := bindS hb35
        refine q_app (n := 0) (m := 4) w43 rfl (ev_mod (ev_intI (ev_varI rfl h53)) (ev_varI rfl f1) e56) rfl ⟨0, _, rfl⟩ e58 fun B59 H59 x59 (w59 : Own K B59 M [⟨p26, (cLst rInt), (s33.2 ++ [t55])⟩] H59) => ?_
        obtain ⟨t60, e61, hb35⟩ := bindS hb35
        refine q_asg (n := 3) w59 (ev_div (ev_varI rfl h53) (ev_varI rfl f1) e61) fun v63 B62 H62 x62 (w62 : Own K B62 M [⟨p26, (cLst rInt), (s33.2 ++ [t55])⟩] H62) h64 => ?_
        replace hb35 : some _ = some _ := hb35
        cases hb35
        exact hN48 _ _ _ (x59.trans x62) w62 ⟨v63, _, rfl, h64⟩
      rintro B66 H67 σ70 x68 w69 ⟨v71, o73, rfl, h72⟩
      replace w69 : Own K B66 M [⟨p26, (cLst rInt), s65.2⟩] H67 := w69
      replace hm : some _ = some _ := hm
      obtain rfl := Option.some.inj hm
      exact q_retC (n := 0) (m := 4) w69 rfl rfl fun v9 B9 x9 w9 h9 => k _ _ _ (((((x10.trans x21).trans x25).trans x30).trans x68).trans x9) w9 h9
    rw [if_neg (by rw [hb29]; exact Bool.false_ne_true)] at hm
    obtain ⟨t76, e77, hm⟩ := bindS hm
    obtain ⟨s124, e82, hm⟩ := bindS hm
    refine q_fold w75 (ei_rng1 (ea_cons (ev_varI rfl f2) ea_nil) e77) _ (fun s78 B83 σ96 => ∃ o97 o98, σ96 = [some u0, some u1, some u2, some v22, some (.ref p26), o97, o98]) (fun s78 => [⟨p26, (cLst rInt), s78⟩]) (([] : List Int)) e82 (fun B9 x9 => ⟨_, _, rfl⟩) rfl ?_ ?_
    · skip
      rintro s78 x79 s132 v89 B83 B84 H85 σ96 hb80 x86 ⟨o97, o98, rfl⟩ x87 w88 h90 N91 K92 hN93
      replace w88 : Own K B84 M [⟨p26, (cLst rInt), s78⟩] H85 := w88
      refine g_name ?_
      obtain ⟨t99, e100, hb80⟩ := bindS hb80
      obtain ⟨t101, e102, hb80⟩ := bindS hb80
      obtain ⟨t103, e104, hb80⟩ := bindS hb80
      refine q_asg (n := 6) w88 (ev_mod (ev_intI (ev_mul (ev_add (ev_add (ev_varI rfl h23) (ev_mul (ev_int (i := 7)) (ev_varI rfl h90) e100)) (ev_int (i := 1))) (ev_int (i := 48271)) e102)) (ev_int (i := 2147483647)) e104) fun v106 B105 H105 x105 (w105 : Own K B105 M [⟨p26, (cLst rInt), s78⟩] H105) h107 => ?_
      obtain ⟨t108, e109, hb80⟩ := bindS hb80
      obtain ⟨t110, e111, hb80⟩ := bindS hb80
      obtain ⟨t112, e113, hb80⟩ := bindS hb80
      refine q_asg (n := 6) w105 (ev_mod (ev_intI (ev_add (ev_mul (ev_varI rfl h107) (ev_int (i := 69621)) e109) (ev_mul (ev_int (i := 31)) (ev_varI rfl h90) e111))) (ev_int (i := 2147483629)) e113) fun v115 B114 H114 x114 (w114 : Own K B114 M [⟨p26, (cLst rInt), s78⟩] H114) h116 => ?_
      obtain ⟨t117, e118, hb80⟩ := bindS hb80
      obtain ⟨t119, e120, hb80⟩ := bindS hb80
      obtain ⟨t121, e122, hb80⟩ := bindS hb80
      refine q_app (n := 0) (m := 4) w114 rfl (ev_mod (ev_intI (ev_div (ev_varI rfl h116) (ev_int (i := 7)) e118)) (ev_varI rfl f1) e120) rfl ⟨0, _, rfl⟩ e122 fun B123 H123 x123 (w123 : Own K B123 M [⟨p26, (cLst rInt), (s78 ++ [t119])⟩] H123) => ?_
      replace hb80 : some _ = some _ := hb80
      cases hb80
      exact hN93 _ _ _ ((x105.trans x114).trans x123) w123 ⟨_, _, rfl⟩
    rintro B125 H126 σ129 x127 w128 ⟨o130, o131, rfl⟩
    replace w128 : Own K B125 M [⟨p26, (cLst rInt), s124⟩] H126 := w128
    replace hm : some _ = some _ := hm
    obtain rfl := Option.some.inj hm
    exact q_retC (n := 0) (m := 4) w128 rfl rfl fun v9 B9 x9 w9 h9 => k _ _ _ (((((x10.trans x21).trans x25).trans x75).trans x127).trans x9) w9 h9
noncomputable def m_l_box (a0 : (List Int)) : Option (List Int × Int) :=
  Option.bind (foldO (S := (List Int)) (α := Int) (fun (s13 : (List Int)) (x14 : Int) => (
    Option.bind (m_l_draws x14 ((1000003 : Int)) ((6 : Int))) fun t35 =>
    Option.bind (catT s13 t35) fun t37 =>
    some t37
  )) (([] : List Int)) a0) fun s42 =>
  Option.bind (if (decide ((s42.length : Int) = (0 : Int))) = true then
    some ([(11 : Int), (5 : Int), (2 : Int), (7 : Int), (31 : Int), (101 : Int), (997 : Int)])
  else
    some s42
  ) fun (s52 : (List Int)) =>
  some (s52, (0 : Int))
def C__law_box : List Arg → List Cell → (List Int × Int) → List Cell → Prop := fun as L r L' => ∃ a0 c, as = [⟨(rScr rInt), a0⟩] ∧ L = [] ∧ m_l_box a0 = some c ∧ r = c ∧ L' = []
theorem sc__law_box : FnScope ["_law_script", "_law_row", "_law_cell"] ["_law_script"] (defScope s__law_box) := ⟨rfl, rfl, rfl, by decide +kernel, rfl, by decide +kernel, by decide +kernel⟩
set_option maxHeartbeats 0 in
theorem ok__law_box (F : FunC K "_law_box" s__law_box f fd cc) (c__law_draws : Cl P w K mg base 1 "_law_draws" (spV K T C__law_draws) []) (z_len : mg "len" = none) : FnOk P w K mg base CX0 2 f fd ["_law_script"] (spC K T cBox C__law_box) := by
  refine F.ok sc__law_box (fun vs H Q E h => ?_) (fun A outer s H vs Q E hr h => ?_)
  · obtain ⟨B, M, L, as, r, L', hT, w, ha, ⟨_, _, rfl, _⟩, k⟩ := h
    exact args_len ha
  · skip
    obtain ⟨B, M, L, as, r, L', rfl, w, ha, ⟨a0, c, rfl, rfl, hm, rfl, rfl⟩, k⟩ := h
    obtain ⟨u0, rfl, f0⟩ := args1 ha
    replace f0 : ((rScr rInt)).is K B u0 a0 := f0
    unfold m_l_box at hm
    refine ⟨_, (pss_cons (ps_set (i := 1) sc__law_box.nd rfl (by first | exact Or.inl rfl | exact Or.inr rfl | exact Or.inr (Or.inl rfl) | exact Or.inr (Or.inr rfl)) (pe_lst pa_nil)) (pss_cons (ps_for PassesOwn.never rfl (pi_list (pv 0)) (pg_name (i := 2) sc__law_box.nd rfl (by first | exact Or.inl rfl | exact Or.inr rfl | exact Or.inr (Or.inl rfl) | exact Or.inr (Or.inr rfl))) (pss_cons (ps_set (i := 1) sc__law_box.nd rfl (by first | exact Or.inl rfl | exact Or.inr rfl | exact Or.inr (Or.inl rfl) | exact Or.inr (Or.inr rfl)) (pe_op op_cat (pv 1) (pe_c c__law_draws hr (by omega) rfl (pa_cons (pv 2) (pa_cons pe_int (pa_cons pe_int pa_nil)))))) pss_nil)) (Evl.pss_cut (ps_if (pt_cmpR op_eq (pe_callB call_len_seq rfl z_len bt_len (pa_cons (pv 1) pa_nil)) pe_int (nomark _)) (pss_cons (ps_set (i := 1) sc__law_box.nd rfl (by first | exact Or.inl rfl | exact Or.inr rfl | exact Or.inr (Or.inl rfl) | exact Or.inr (Or.inr rfl)) (pe_lst (pa_cons pe_int (pa_cons pe_int (pa_cons pe_int (pa_cons pe_int (pa_cons pe_int (pa_cons pe_int (pa_cons pe_int pa_nil))))))))) pss_nil) pss_nil) (pss_cons (ps_ret (pe_disp (pps_cons pe_str (pv 1) (pps_cons pe_str pe_int pps_nil)) (by rfl) (by rfl) (fun z => by cases z) (by decide))) pss_nil)))), ?_⟩
    rw [show start ["_law_script", "_law_row", "_law_cell"] [u0] = ([some u0, none, none] : L2.St) from rfl]
    refine q_asg (n := 1) w (ev_frz (el_lst (r := rInt) ([] : List Int) ea_nil)) fun v11 B10 H10 x10 (w10 : Own K B10 M [] H10) h12 => ?_
    obtain ⟨s42, e17, hm⟩ := bindS hm
    refine q_fold w10 (ei_scr (ev_var rfl (((rScr rInt)).mono x10 f0))) _ (fun s13 B18 σ31 => ∃ v32 o34, σ31 = [some u0, some v32, o34] ∧ ((rLst rInt)).is K B18 v32 s13) (fun s13 => []) (([] : List Int)) e17 (fun B9 x9 => ⟨v11, _, rfl, (((rLst rInt)).mono x9 h12)⟩) rfl ?_ ?_
    · skip
      rintro s13 x14 s64 v24 B18 B19 H20 σ31 hb15 x21 ⟨v32, o34, rfl, h33⟩ x22 w23 h25 N26 K27 hN28
      replace w23 : Own K B19 M [] H20 := w23
      refine g_name ?_
      obtain ⟨t35, e36, hb15⟩ := bindS hb15
      obtain ⟨t37, e38, hb15⟩ := bindS hb15
      refine q_asg (n := 1) w23 (ev_frz (el_cat (ev_var rfl (((rLst rInt)).mono x22 h33)) (ev_call (ea_cons (ev_varI rfl h25) (ea_cons (ev_int (i := 1000003)) (ea_cons (ev_int (i := 6)) ea_nil))) ⟨_, _, _, _, rfl, rfl, e36, rfl, rfl⟩) e38)) fun v40 B39 H39 x39 (w39 : Own K B39 M [] H39) h41 => ?_
      replace hb15 : some _ = some _ := hb15
      cases hb15
      exact hN28 _ _ _ x39 w39 ⟨v40, _, rfl, h41⟩
    rintro B43 H44 σ47 x45 w46 ⟨v48, o50, rfl, h49⟩
    replace w46 : Own K B43 M [] H44 := w46
    obtain ⟨s52, e53, hm⟩ := bindS hm
    refine q_cut (fun σ62 H59 => ∃ v60 B59, Ex B43 B59 ∧ Own K B59 M [] H59 ∧ σ62 = [some u0, some v60, o50] ∧ ((rLst rInt)).is K B59 v60 s52) ?_ ?_
    · skip
      refine q_ifc w46 (et_test (ev_eqI (ev_len (ev_seqL (ev_var rfl h49))) (ev_int (i := 0)))) (fun hb51 B54 H54 x54 (w54 : Own K B54 M [] H54) => ?_) (fun hb51 B58 H58 x58 (w58 : Own K B58 M [] H58) => ?_)
      · skip
        rw [if_pos hb51] at e53
        refine q_asg (n := 1) w54 (ev_frz (el_lst (r := rInt) [(11 : Int), (5 : Int), (2 : Int), (7 : Int), (31 : Int), (101 : Int), (997 : Int)] (ea_cons (ev_int (i := 11)) (ea_cons (ev_int (i := 5)) (ea_cons (ev_int (i := 2)) (ea_cons (ev_int (i := 7)) (ea_cons (ev_int (i := 31)) (ea_cons (ev_int (i := 101)) (ea_cons (ev_int (i := 997)) ea_nil))))))))) fun v56 B55 H55 x55 (w55 : Own K B55 M [] H55) h57 => ?_
        replace e53 : some _ = some _ := e53
        cases e53
        exact ⟨v56, _, (x54.trans x55), w55, rfl, h57⟩
      rw [if_neg (by rw [hb51]; exact Bool.false_ne_true)] at e53
      replace e53 : some _ = some _ := e53
      cases e53
      exact ⟨v48, _, x58, w58, rfl, (((rLst rInt)).mono x58 h49)⟩
    rintro σ62' H59 ⟨v60, B59, x59, w59, rfl, h61⟩
    replace hm : some _ = some _ := hm
    obtain rfl := Option.some.inj hm
    exact q_retNC w59 (ec_box (fun p63 => (ev_var rfl h61)) (fun p63 => (ev_int (i := 0)))) fun p9 B9 H9 x9 w9 => k _ _ _ (((x10.trans x45).trans x59).trans x9) (Own.pick (n := 0) (d := 1) w9 rfl (by decide))
noncomputable def m_l_next (a0 : (List Int × Int)) (a1 : Int) : Option (Int × (List Int × Int)) :=
  Option.bind (modI a0.2 (((((a0.1, (a0.2 + (1 : Int)))).1).length : Int))) fun t14 =>
  Option.bind (ixL (((a0.1, (a0.2 + (1 : Int)))).1) t14) fun t16 =>
  Option.bind (divI a0.2 (((((a0.1, (a0.2 + (1 : Int)))).1).length : Int))) fun t21 =>
  Option.bind (mulI ((7919 : Int)) t21) fun t23 =>
  Option.bind (modI ((t16 + t23)) a1) fun t25 =>
  some (t25, (a0.1, (a0.2 + (1 : Int))))
def C__law_next : List Arg → List Cell → Arg → List Cell → Prop := fun as L r L' => ∃ a0 a1 p0 c, as = [⟨rRef, p0⟩, ⟨rInt, a1⟩] ∧ L = [⟨p0, cBox, a0⟩] ∧ m_l_next a0 a1 = some c ∧ r = ⟨rInt, c.1⟩ ∧ L' = [⟨p0, cBox, c.2⟩]
theorem sc__law_next : FnScope ["_law_box_here", "_law_modulus", "_law_at", "_law_number"] ["_law_box_here", "_law_modulus"] (defScope s__law_next) := ⟨rfl, rfl, rfl, by decide +kernel, rfl, by decide +kernel, by decide +kernel⟩
set_option maxHeartbeats 0 in
theorem ok__law_next (F : FunC K "_law_next" s__law_next f fd cc) (z_len : mg "len" = none) (z_int : mg "int" = none) : FnOk P w K mg base CX0 1 f fd ["_law_box_here", "_law_modulus"] (spV K T C__law_next) := by
  refine F.ok sc__law_next (fun vs H Q E h => ?_) (fun A outer s H vs Q E hr h => ?_)
  · obtain ⟨B, M, L, as, r, L', hT, w, ha, ⟨_, _, _, _, rfl, _⟩, k⟩ := h
    exact args_len ha
  · skip
    obtain ⟨B, M, L, as, r, L', rfl, w, ha, ⟨a0, a1, p0, c, rfl, rfl, hm, rfl, rfl⟩, k⟩ := h
    obtain ⟨u0, u1, rfl, f0, f1⟩ := args2 ha
    replace f0 : u0 = V.ref p0 := f0
    subst f0
    replace f1 : (rInt).is K B u1 a1 := f1
    unfold m_l_next at hm
    refine ⟨_, (pss_cons (ps_set (i := 2) sc__law_next.nd rfl (by first | exact Or.inl rfl | exact Or.inr rfl | exact Or.inr (Or.inl rfl) | exact Or.inr (Or.inr rfl)) (pe_dget (by have := room_hu hr; exact Nat.lt_of_le_of_lt (Nat.add_le_add_left (by decide) _) this) (pv 0) pe_str (fun _ _ => rfl))) (pss_cons (ps_asg (pe_op op_add (pv 2) pe_int) (pg_sub (pv 0) pe_str (set_dict (by have := room_hu hr; exact Nat.lt_of_le_of_lt (Nat.add_le_add_left (by decide) _) this)))) (pss_cons (ps_set (i := 3) sc__law_next.nd rfl (by first | exact Or.inl rfl | exact Or.inr rfl | exact Or.inr (Or.inl rfl) | exact Or.inr (Or.inr rfl)) (pe_ix ix_seq (pe_dget (by have := room_hu hr; exact Nat.lt_of_le_of_lt (Nat.add_le_add_left (by decide) _) this) (pv 0) pe_str (fun _ _ => rfl)) (pe_op op_mod (pv 2) (pe_callB call_len_seq rfl z_len bt_len (pa_cons (pe_dget (by have := room_hu hr; exact Nat.lt_of_le_of_lt (Nat.add_le_add_left (by decide) _) this) (pv 0) pe_str (fun _ _ => rfl)) pa_nil))) (fun _ _ => rfl))) (pss_cons (ps_ret (pe_op op_mod (pe_callTy call_int1 rfl z_int bt_int (pa_cons (pe_op op_add (pv 3) (pe_op op_mulX pe_int (pe_op op_fdivW (pv 2) (pe_callB call_len_seq rfl z_len bt_len (pa_cons (pe_dget (by have := room_hu hr; exact Nat.lt_of_le_of_lt (Nat.add_le_add_left (by decide) _) this) (pv 0) pe_str (fun _ _ => rfl)) pa_nil))))) pa_nil)) (pv 1))) pss_nil)))), ?_⟩
    rw [show start ["_law_box_here", "_law_modulus", "_law_at", "_law_number"] [.ref p0, u1] = ([some (.ref p0), some u1, none, none] : L2.St) from rfl]
    refine q_asg (n := 2) w (ev_boxAt (n := 0) rfl rfl) fun v11 B10 H10 x10 (w10 : Own K B10 M [⟨p0, cBox, a0⟩] H10) h12 => ?_
    refine q_boxAt (n := 0) w10 (ev_add (ev_varI rfl h12) (ev_int (i := 1))) rfl rfl fun B13 H13 x13 (w13 : Own K B13 M [⟨p0, cBox, (a0.1, (a0.2 + (1 : Int)))⟩] H13) => ?_
    obtain ⟨t14, e15, hm⟩ := bindS hm
    obtain ⟨t16, e17, hm⟩ := bindS hm
    refine q_asg (n := 3) w13 (ev_ix (ev_seqL (ev_boxRow (n := 0) rfl rfl)) (ev_mod (ev_varI rfl h12) (ev_len (ev_seqL (ev_boxRow (n := 0) rfl rfl))) e15) e17) fun v19 B18 H18 x18 (w18 : Own K B18 M [⟨p0, cBox, (a0.1, (a0.2 + (1 : Int)))⟩] H18) h20 => ?_
    obtain ⟨t21, e22, hm⟩ := bindS hm
    obtain ⟨t23, e24, hm⟩ := bindS hm
    obtain ⟨t25, e26, hm⟩ := bindS hm
    replace hm : some _ = some _ := hm
    obtain rfl := Option.some.inj hm
    exact q_ret w18 (ev_mod (ev_intI (ev_add (ev_varI rfl h20) (ev_mul (ev_int (i := 7919)) (ev_div (ev_varI rfl h12) (ev_len (ev_seqL (ev_boxRow (n := 0) rfl rfl))) e22) e24))) (ev_varI rfl f1) e26) fun v9 B9 H9 x9 w9 h9 => k _ _ _ (((x10.trans x13).trans x18).trans x9) w9 h9
noncomputable def m_l_kinds (a0 : Er) : Option (List Bool) :=
  Option.bind (isEr ErI a0 0) fun t10 =>
  Option.bind (isEr ErI a0 1) fun t12 =>
  Option.bind (isEr ErI a0 2) fun t14 =>
  Option.bind (isEr ErI a0 3) fun t19 =>
  Option.bind (isEr ErI a0 4) fun t21 =>
  Option.bind (isEr ErI a0 5) fun t23 =>
  Option.bind (catT ([t10, t12, t14]) ([t19, t21, t23])) fun t25 =>
  Option.bind (isEr ErI a0 6) fun t30 =>
  Option.bind (isEr ErI a0 7) fun t32 =>
  Option.bind (isEr ErI a0 8) fun t34 =>
  Option.bind (catT t25 ([t30, t32, t34])) fun t36 =>
  Option.bind (isEr ErI a0 9) fun t41 =>
  Option.bind (isEr ErI a0 10) fun t43 =>
  Option.bind (isEr ErI a0 11) fun t45 =>
  Option.bind (catT t36 ([t41, t43, t45])) fun t47 =>
  some t47
def C__law_kinds : List Arg → List Cell → Arg → List Cell → Prop := fun as L r L' => ∃ a0 c, as = [⟨rExc, a0⟩] ∧ L = [] ∧ m_l_kinds a0 = some c ∧ r = ⟨(rLst rBool), c⟩ ∧ L' = []
theorem sc__law_kinds : FnScope ["_law_e", "_law_kinds_here"] ["_law_e"] (defScope s__law_kinds) := ⟨rfl, rfl, rfl, by decide +kernel, rfl, by decide +kernel, by decide +kernel⟩
set_option maxHeartbeats 0 in
theorem ok__law_kinds (F : FunC K "_law_kinds" s__law_kinds f fd cc) (TC : Errs P K mg ErI ErJ) (z_isinstance : mg "isinstance" = none) : FnOk P w K mg base CX0 1 f fd ["_law_e"] (spV K T C__law_kinds) := by
  refine F.ok sc__law_kinds (fun vs H Q E h => ?_) (fun A outer s H vs Q E hr h => ?_)
  · obtain ⟨B, M, L, as, r, L', hT, w, ha, ⟨_, _, rfl, _⟩, k⟩ := h
    exact args_len ha
  · skip
    obtain ⟨B, M, L, as, r, L', rfl, w, ha, ⟨a0, c, rfl, rfl, hm, rfl, rfl⟩, k⟩ := h
    obtain ⟨u0, rfl, f0⟩ := args1 ha
    replace f0 : (rExc).is K B u0 a0 := f0
    unfold m_l_kinds at hm
    refine ⟨_, (pss_cons (ps_set (i := 1) sc__law_kinds.nd rfl (by first | exact Or.inl rfl | exact Or.inr rfl | exact Or.inr (Or.inl rfl) | exact Or.inr (Or.inr rfl)) (pe_lst (pa_cons (pe_callB call_isV rfl z_isinstance bt_isinstance (pa_cons (pv 0) (pa_cons (pe_glob (v := .ref (cxA K 0)) rfl (TC.gl 0 (by decide) (by decide)) rfl) pa_nil))) (pa_cons (pe_callB call_isV rfl z_isinstance bt_isinstance (pa_cons (pv 0) (pa_cons (pe_glob (v := .ref (cxA K 1)) rfl (TC.gl 1 (by decide) (by decide)) rfl) pa_nil))) (pa_cons (pe_callB call_isV rfl z_isinstance bt_isinstance (pa_cons (pv 0) (pa_cons (pe_glob (v := .ref (cxA K 2)) rfl (TC.gl 2 (by decide) (by decide)) rfl) pa_nil))) pa_nil))))) (pss_cons (ps_set (i := 1) sc__law_kinds.nd rfl (by first | exact Or.inl rfl | exact Or.inr rfl | exact Or.inr (Or.inl rfl) | exact Or.inr (Or.inr rfl)) (pe_op op_cat (pv 1) (pe_lst (pa_cons (pe_callB call_isV rfl z_isinstance bt_isinstance (pa_cons (pv 0) (pa_cons (pe_glob (v := .ref (cxA K 3)) rfl (TC.gl 3 (by decide) (by decide)) rfl) pa_nil))) (pa_cons (pe_callB call_isV rfl z_isinstance bt_isinstance (pa_cons (pv 0) (pa_cons (pe_glob (v := .ref (cxA K 4)) rfl (TC.gl 4 (by decide) (by decide)) rfl) pa_nil))) (pa_cons (pe_callB call_isV rfl z_isinstance bt_isinstance (pa_cons (pv 0) (pa_cons (pe_glob (v := .ref (cxA K 5)) rfl (TC.gl 5 (by decide) (by decide)) rfl) pa_nil))) pa_nil)))))) (pss_cons (ps_set (i := 1) sc__law_kinds.nd rfl (by first | exact Or.inl rfl | exact Or.inr rfl | exact Or.inr (Or.inl rfl) | exact Or.inr (Or.inr rfl)) (pe_op op_cat (pv 1) (pe_lst (pa_cons (pe_callB call_isV rfl z_isinstance bt_isinstance (pa_cons (pv 0) (pa_cons (pe_glob (v := .ref (cxA K 6)) rfl (TC.gl 6 (by decide) (by decide)) rfl) pa_nil))) (pa_cons (pe_callB call_isV rfl z_isinstance bt_isinstance (pa_cons (pv 0) (pa_cons (pe_glob (v := .ref (cxA K 7)) rfl (TC.gl 7 (by decide) (by decide)) rfl) pa_nil))) (pa_cons (pe_callB call_isV rfl z_isinstance bt_isinstance (pa_cons (pv 0) (pa_cons (pe_glob (v := .ref (cxA K 8)) rfl (TC.gl 8 (by decide) (by decide)) rfl) pa_nil))) pa_nil)))))) (pss_cons (ps_ret (pe_op op_cat (pv 1) (pe_lst (pa_cons (pe_callB call_isV rfl z_isinstance bt_isinstance (pa_cons (pv 0) (pa_cons (pe_glob (v := .ref (cxA K 9)) rfl (TC.gl 9 (by decide) (by decide)) rfl) pa_nil))) (pa_cons (pe_callB call_isV rfl z_isinstance bt_isinstance (pa_cons (pv 0) (pa_cons (pe_glob (v := .ref (cxA K 10)) rfl (TC.gl 10 (by decide) (by decide)) rfl) pa_nil))) (pa_cons (pe_callB call_isV rfl z_isinstance bt_isinstance (pa_cons (pv 0) (pa_cons (pe_glob (v := .ref (cxA K 11)) rfl (TC.gl 11 (by decide) (by decide)) rfl) pa_nil))) pa_nil)))))) pss_nil)))), ?_⟩
    rw [show start ["_law_e", "_law_kinds_here"] [u0] = ([some u0, none] : L2.St) from rfl]
    obtain ⟨t10, e11, hm⟩ := bindS hm
    obtain ⟨t12, e13, hm⟩ := bindS hm
    obtain ⟨t14, e15, hm⟩ := bindS hm
    refine q_asg (n := 1) w (ev_frz (el_lst (r := rBool) [t10, t12, t14] (ea_cons (ev_isO TC (j := 0) (by decide) (by decide) (ev_var rfl f0) e11) (ea_cons (ev_isO TC (j := 1) (by decide) (by decide) (ev_var rfl f0) e13) (ea_cons (ev_isO TC (j := 2) (by decide) (by decide) (ev_var rfl f0) e15) ea_nil))))) fun v17 B16 H16 x16 (w16 : Own K B16 M [] H16) h18 => ?_
    obtain ⟨t19, e20, hm⟩ := bindS hm
    obtain ⟨t21, e22, hm⟩ := bindS hm
    obtain ⟨t23, e24, hm⟩ := bindS hm
    obtain ⟨t25, e26, hm⟩ := bindS hm
    refine q_asg (n := 1) w16 (ev_frz (el_cat (ev_var rfl h18) (ev_frz (el_lst (r := rBool) [t19, t21, t23] (ea_cons (ev_isO TC (j := 3) (by decide) (by decide) (ev_var rfl ((rExc).mono x16 f0)) e20) (ea_cons (ev_isO TC (j := 4) (by decide) (by decide) (ev_var rfl ((rExc).mono x16 f0)) e22) (ea_cons (ev_isO TC (j := 5) (by decide) (by decide) (ev_var rfl ((rExc).mono x16 f0)) e24) ea_nil))))) e26)) fun v28 B27 H27 x27 (w27 : Own K B27 M [] H27) h29 => ?_
    obtain ⟨t30, e31, hm⟩ := bindS hm
    obtain ⟨t32, e33, hm⟩ := bindS hm
    obtain ⟨t34, e35, hm⟩ := bindS hm
    obtain ⟨t36, e37, hm⟩ := bindS hm
    refine q_asg (n := 1) w27 (ev_frz (el_cat (ev_var rfl h29) (ev_frz (el_lst (r := rBool) [t30, t32, t34] (ea_cons (ev_isO TC (j := 6) (by decide) (by decide) (ev_var rfl ((rExc).mono (x16.trans x27) f0)) e31) (ea_cons (ev_isO TC (j := 7) (by decide) (by decide) (ev_var rfl ((rExc).mono (x16.trans x27) f0)) e33) (ea_cons (ev_isO TC (j := 8) (by decide) (by decide) (ev_var rfl ((rExc).mono (x16.trans x27) f0)) e35) ea_nil))))) e37)) fun v39 B38 H38 x38 (w38 : Own K B38 M [] H38) h40 => ?_
    obtain ⟨t41, e42, hm⟩ := bindS hm
    obtain ⟨t43, e44, hm⟩ := bindS hm
    obtain ⟨t45, e46, hm⟩ := bindS hm
    obtain ⟨t47, e48, hm⟩ := bindS hm
    replace hm : some _ = some _ := hm
    obtain rfl := Option.some.inj hm
    exact q_ret w38 (ev_frz (el_cat (ev_var rfl h40) (ev_frz (el_lst (r := rBool) [t41, t43, t45] (ea_cons (ev_isO TC (j := 9) (by decide) (by decide) (ev_var rfl ((rExc).mono ((x16.trans x27).trans x38) f0)) e42) (ea_cons (ev_isO TC (j := 10) (by decide) (by decide) (ev_var rfl ((rExc).mono ((x16.trans x27).trans x38) f0)) e44) (ea_cons (ev_isO TC (j := 11) (by decide) (by decide) (ev_var rfl ((rExc).mono ((x16.trans x27).trans x38) f0)) e46) ea_nil))))) e48)) fun v9 B9 H9 x9 w9 h9 => k _ _ _ (((x16.trans x27).trans x38).trans x9) w9 h9
noncomputable def m_law (a0 : (List Int)) : Option Bool :=
  Option.bind (m_l_box a0) fun t10 =>
  Option.bind (m_l_next t10 ((300 : Int))) fun t14 =>
  Option.bind (m_l_next t14.2 ((3 : Int))) fun t19 =>
  Option.bind (ixL ([(Str.ofString "a"), (Str.ofString ""), (Str.ofString "A")]) t19.1) fun t21 =>
  Option.bind (fmC ((PyData.int t14.1))) fun t26 =>
  Option.bind (fmC (((dT3 PyData.str PyData.int PyData.int) (((Str.ofString "cost"), (0 : Int), t14.1))))) fun t28 =>
  Option.bind (fmC ((PyData.int t14.1))) fun t30 =>
  Option.bind (fmC ((PyData.int t14.1))) fun t35 =>
  Option.bind (fmC ((PyData.int t14.1))) fun t37 =>
  Option.bind (catT ([((0 : Nat), PyData.none), ((1 : Nat), (PyData.int t14.1)), ((2 : Nat), ((dT3 PyData.str PyData.int PyData.int) (((Str.ofString "cost"), (0 : Int), t14.1)))), ((3 : Nat), (PyData.int t14.1))]) ([((4 : Nat), PyData.none), ((5 : Nat), PyData.none), ((6 : Nat), (PyData.int t14.1)), ((7 : Nat), (PyData.int t14.1))])) fun t39 =>
  Option.bind (fmC ((PyData.str t21))) fun t44 =>
  Option.bind (fmC ((PyData.str t21))) fun t46 =>
  Option.bind (catT t39 ([((8 : Nat), PyData.none), ((9 : Nat), (PyData.str t21)), ((10 : Nat), PyData.none), ((11 : Nat), (PyData.str t21))])) fun t48 =>
  Option.bind (loopR (S := Unit) (R := Bool) (α := Int) (fun (s53 : Unit) (x54 : Int) => (
    Option.bind (ixL t48 x54) fun t73 =>
    Option.bind (m_l_kinds t73) fun t75 =>
    Option.bind (room ((rng 0 ((12 : Int)))).length) fun t101 =>
    Option.bind (compM (S := Unit) (β := Bool) (fun (s77 : Unit) (x84 : Int) => ( some (some ((decide (x84 = x54))), ()))) (()) ((rng 0 ((12 : Int))))) fun t103 =>
    if (!decide (t75 = t103.1)) = true then
      some (Stp.rt false)
    else
      Option.bind (ixL t48 x54) fun t108 =>
      Option.bind (isEr ErI t108 12) fun t110 =>
      Option.bind ((if (!t110) = true then (some (true)) else (Option.bind (ixL t48 x54) fun t112 => Option.bind (isEr ErI t112 14) fun t114 => some ((!t114))))) fun t116 =>
      if t116 = true then
        some (Stp.rt false)
      else
        Option.bind (ixL t48 x54) fun t122 =>
        Option.bind (isEr ErI t122 13) fun t124 =>
        if (!decide (t124 = (decide (x54 ≥ (6 : Int))))) = true then
          some (Stp.rt false)
        else
          some (Stp.nx (()))
  )) (()) ((rng 0 ((12 : Int))))) fun o56 =>
  match o56 with
  | .inl s129 =>
    Option.bind (ixL t48 ((1 : Int))) fun t136 =>
    Option.bind (fldEr ErI (Str.ofString "number") t136) fun t138 =>
    Option.bind (eqvD t138 ((PyData.int t14.1))) fun t140 =>
    Option.bind ((if (!t140) = true then (some (true)) else (Option.bind (ixL t48 ((2 : Int))) fun t142 => Option.bind (fldEr ErI (Str.ofString "fault") t142) fun t144 => Option.bind (eqvD t144 (((dT3 PyData.str PyData.int PyData.int) (((Str.ofString "cost"), (0 : Int), t14.1))))) fun t146 => Option.bind ((if (!t146) = true then (some (true)) else (Option.bind (ixL t48 ((3 : Int))) fun t148 => Option.bind (fldEr ErI (Str.ofString "number") t148) fun t150 => Option.bind (eqvD t150 ((PyData.int t14.1))) fun t152 => some ((!t152))))) fun t154 => some (t154)))) fun t157 =>
    if t157 = true then
      some false
    else
      Option.bind (ixL t48 ((6 : Int))) fun t163 =>
      Option.bind (fldEr ErI (Str.ofString "state") t163) fun t165 =>
      Option.bind (eqvD t165 ((PyData.int t14.1))) fun t167 =>
      Option.bind ((if (!t167) = true then (some (true)) else (Option.bind (ixL t48 ((7 : Int))) fun t169 => Option.bind (fldEr ErI (Str.ofString "number") t169) fun t171 => Option.bind (eqvD t171 ((PyData.int t14.1))) fun t173 => some ((!t173))))) fun t175 =>
      if t175 = true then
        some false
      else
        Option.bind (ixL t48 ((9 : Int))) fun t181 =>
        Option.bind (fldEr ErI (Str.ofString "name") t181) fun t183 =>
        Option.bind (eqvD t183 ((PyData.str t21))) fun t185 =>
        Option.bind ((if t185 = true then (Option.bind (ixL t48 ((11 : Int))) fun t187 => Option.bind (fldEr ErI (Str.ofString "name") t187) fun t189 => Option.bind (eqvD t189 ((PyData.str t21))) fun t191 => some (t191)) else (some (false)))) fun t193 =>
        some t193
  | .inr q9 => some q9
def C_law : List Arg → List Cell → Arg → List Cell → Prop := fun as L r L' => ∃ a0 c, as = [⟨(rScr rInt), a0⟩] ∧ L = [] ∧ m_law a0 = some c ∧ r = ⟨rBool, c⟩ ∧ L' = []
theorem sc_law : FnScope ["_law_script", "_law_box_here", "_law_number", "_law_name", "_law_made", "_law_k", "_law_j"] ["_law_script"] (defScope s_law) := ⟨rfl, rfl, rfl, by decide +kernel, rfl, by decide +kernel, by decide +kernel⟩
set_option maxHeartbeats 0 in
theorem ok_law (F : FunC K "law" s_law f fd cc) (TC : Errs P K mg ErI ErJ) (c__law_box : Cl P w K mg base 2 "_law_box" (spC K T cBox C__law_box) []) (c__law_next : Cl P w K mg base 1 "_law_next" (spV K T C__law_next) []) (c__law_kinds : Cl P w K mg base 1 "_law_kinds" (spV K T C__law_kinds) []) (z_range : mg "range" = none) (z_isinstance : mg "isinstance" = none) (z_ValueError : mg "ValueError" = none) : FnOk P w K mg base CX0 3 f fd ["_law_script"] (spV K T C_law) := by
  refine F.ok sc_law (fun vs H Q E h => ?_) (fun A outer s H vs Q E hr h => ?_)
  · obtain ⟨B, M, L, as, r, L', hT, w, ha, ⟨_, _, rfl, _⟩, k⟩ := h
    exact args_len ha
  · skip
    obtain ⟨B, M, L, as, r, L', rfl, w, ha, ⟨a0, c, rfl, rfl, hm, rfl, rfl⟩, k⟩ := h
    obtain ⟨u0, rfl, f0⟩ := args1 ha
    replace f0 : ((rScr rInt)).is K B u0 a0 := f0
    unfold m_law at hm
    refine ⟨_, (pss_cons (ps_set (i := 1) sc_law.nd rfl (by first | exact Or.inl rfl | exact Or.inr rfl | exact Or.inr (Or.inl rfl) | exact Or.inr (Or.inr rfl)) (pe_c c__law_box hr (by omega) rfl (pa_cons (pv 0) pa_nil))) (pss_cons (ps_set (i := 2) sc_law.nd rfl (by first | exact Or.inl rfl | exact Or.inr rfl | exact Or.inr (Or.inl rfl) | exact Or.inr (Or.inr rfl)) (pe_c c__law_next hr (by omega) rfl (pa_cons (pv 1) (pa_cons pe_int pa_nil)))) (pss_cons (ps_set (i := 3) sc_law.nd rfl (by first | exact Or.inl rfl | exact Or.inr rfl | exact Or.inr (Or.inl rfl) | exact Or.inr (Or.inr rfl)) (pe_ix ix_seq (pe_lst (pa_cons pe_str (pa_cons pe_str (pa_cons pe_str pa_nil)))) (pe_c c__law_next hr (by omega) rfl (pa_cons (pv 1) (pa_cons pe_int pa_nil))) (fun _ _ => rfl))) (pss_cons (ps_set (i := 4) sc_law.nd rfl (by first | exact Or.inl rfl | exact Or.inr rfl | exact Or.inr (Or.inl rfl) | exact Or.inr (Or.inr rfl)) (pe_lst (pa_cons (pe_mkN (i := 0) (TC.c 0 (by decide)) rfl rfl rfl pe_str) (pa_cons (pe_mkE (i := 1) (TC.c 1 (by decide)) rfl rfl hr (by omega) rfl (pv 2)) (pa_cons (pe_mkE (i := 2) (TC.c 2 (by decide)) rfl rfl hr (by omega) rfl (pe_tup (pa_cons pe_str (pa_cons pe_int (pa_cons (pv 2) pa_nil))))) (pa_cons (pe_mkE (i := 3) (TC.c 3 (by decide)) rfl rfl hr (by omega) rfl (pv 2)) pa_nil)))))) (pss_cons (ps_set (i := 4) sc_law.nd rfl (by first | exact Or.inl rfl | exact Or.inr rfl | exact Or.inr (Or.inl rfl) | exact Or.inr (Or.inr rfl)) (pe_op op_cat (pv 4) (pe_lst (pa_cons (pe_mkN (i := 4) (TC.c 4 (by decide)) rfl rfl rfl pe_str) (pa_cons (pe_mkN (i := 5) (TC.c 5 (by decide)) rfl rfl rfl pe_str) (pa_cons (pe_mkE (i := 6) (TC.c 6 (by decide)) rfl rfl hr (by omega) rfl (pv 2)) (pa_cons (pe_mkE (i := 7) (TC.c 7 (by decide)) rfl rfl hr (by omega) rfl (pv 2)) pa_nil))))))) (pss_cons (ps_set (i := 4) sc_law.nd rfl (by first | exact Or.inl rfl | exact Or.inr rfl | exact Or.inr (Or.inl rfl) | exact Or.inr (Or.inr rfl)) (pe_op op_cat (pv 4) (pe_lst (pa_cons (pe_mkN (i := 8) (TC.c 8 (by decide)) rfl rfl rfl pe_str) (pa_cons (pe_mkE (i := 9) (TC.c 9 (by decide)) rfl rfl hr (by omega) rfl (pv 3)) (pa_cons (pe_mkN (i := 10) (TC.c 10 (by decide)) rfl rfl rfl pe_str) (pa_cons (pe_mkE (i := 11) (TC.c 11 (by decide)) rfl rfl hr (by omega) rfl (pv 3)) pa_nil))))))) (pss_cons (ps_for PassesOwn.never rfl (pi_range1 rfl z_range (pa_cons pe_int pa_nil)) (pg_name (i := 5) sc_law.nd rfl (by first | exact Or.inl rfl | exact Or.inr rfl | exact Or.inr (Or.inl rfl) | exact Or.inr (Or.inr rfl))) (pss_cons (ps_if (pt_cmpR (op_neD (room_hu hr)) (pe_c c__law_kinds hr (by omega) rfl (pa_cons (pe_ix ix_seq (pv 4) (pv 5) (fun _ _ => rfl)) pa_nil)) (pe_lc rfl sc_law.nd (pi_range1 rfl z_range (pa_cons pe_int pa_nil)) (blkOk_by (own := [("_law_j", 6)]) (show blkC ["_law_script", "_law_box_here", "_law_number", "_law_name", "_law_made", "_law_k", "_law_j"] (defScope s_law) _ _ = true by decide +kernel)) (fun _ _ _ _ _ => (pg_name (i := 6) sc_law.nd rfl (by first | exact Or.inl rfl | exact Or.inr rfl | exact Or.inr (Or.inl rfl) | exact Or.inr (Or.inr rfl)))) (fun _ _ _ _ _ => pts_nil) (fun _ _ _ _ _ => (pe_cmpR op_eq (pv 6) (pv 5) (nomark _)))) (nomark _)) (pss_cons (ps_ret pe_bl) pss_nil) pss_nil) (pss_cons (ps_if (PW.pt (pw_or (pt_not (pt_val (pe_callB call_isV rfl z_isinstance bt_isinstance (pa_cons (pe_ix ix_seq (pv 4) (pv 5) (fun _ _ => rfl)) (pa_cons (pe_glob (v := .ref (cxA K 12)) rfl (TC.gl 12 (by decide) (by decide)) rfl) pa_nil))))) (pw_or1 (pt_not (pt_val (pe_callB call_isV rfl z_isinstance bt_isinstance (pa_cons (pe_ix ix_seq (pv 4) (pv 5) (fun _ _ => rfl)) (pa_cons (pe_bltn (v := .ty "ValueError") rfl z_ValueError bt_ValueError rfl) pa_nil)))))))) (pss_cons (ps_ret pe_bl) pss_nil) pss_nil) (pss_cons (ps_if (pt_cmpR op_ne (pe_callB call_isV rfl z_isinstance bt_isinstance (pa_cons (pe_ix ix_seq (pv 4) (pv 5) (fun _ _ => rfl)) (pa_cons (pe_glob (v := .ref (cxA K 13)) rfl (TC.gl 13 (by decide) (by decide)) rfl) pa_nil))) (pe_cmpR op_ge (pv 5) pe_int (nomark _)) (nomark _)) (pss_cons (ps_ret pe_bl) pss_nil) pss_nil) pss_nil)))) (pss_cons (ps_if (PW.pt (pw_or (pt_cmpR (op_neD (room_hu hr)) (pe_fldE (pe_ix ix_seq (pv 4) pe_int (fun _ _ => rfl))) (pv 2) (nomark _)) (pw_or (pt_cmpR (op_neD (room_hu hr)) (pe_fldE (pe_ix ix_seq (pv 4) pe_int (fun _ _ => rfl))) (pe_tup (pa_cons pe_str (pa_cons pe_int (pa_cons (pv 2) pa_nil)))) (nomark _)) (pw_or1 (pt_cmpR (op_neD (room_hu hr)) (pe_fldE (pe_ix ix_seq (pv 4) pe_int (fun _ _ => rfl))) (pv 2) (nomark _)))))) (pss_cons (ps_ret pe_bl) pss_nil) pss_nil) (pss_cons (ps_if (PW.pt (pw_or (pt_cmpR (op_neD (room_hu hr)) (pe_fldE (pe_ix ix_seq (pv 4) pe_int (fun _ _ => rfl))) (pv 2) (nomark _)) (pw_or1 (pt_cmpR (op_neD (room_hu hr)) (pe_fldE (pe_ix ix_seq (pv 4) pe_int (fun _ _ => rfl))) (pv 2) (nomark _))))) (pss_cons (ps_ret pe_bl) pss_nil) pss_nil) (pss_cons (ps_ret (pe_and (pe_cmpR (op_eqD (room_hu hr)) (pe_fldE (pe_ix ix_seq (pv 4) pe_int (fun _ _ => rfl))) (pv 3) (nomark _)) (pe_one (pe_cmpR (op_eqD (room_hu hr)) (pe_fldE (pe_ix ix_seq (pv 4) pe_int (fun _ _ => rfl))) (pv 3) (nomark _))))) pss_nil)))))))))), ?_⟩
    rw [show start ["_law_script", "_law_box_here", "_law_number", "_law_name", "_law_made", "_law_k", "_law_j"] [u0] = ([some u0, none, none, none, none, none, none] : L2.St) from rfl]
    obtain ⟨t10, e11, hm⟩ := bindS hm
    refine q_asgC (n := 1) w (ec_call (ea_cons (ev_var rfl f0) ea_nil) ⟨_, _, rfl, rfl, e11, rfl, rfl⟩) fun p13 B12 H12 x12 (w12 : Own K B12 M [⟨p13, cBox, t10⟩] H12) => ?_
    obtain ⟨t14, e15, hm⟩ := bindS hm
    refine q_asg (n := 2) w12 (ev_callC 0 (x := ⟨p13, cBox, t10⟩) (x' := ⟨p13, cBox, t14.2⟩) (ea_cons (ev_varR rfl) (ea_cons (ev_int (i := 300)) ea_nil)) rfl ⟨_, _, _, _, rfl, rfl, e15, rfl, rfl⟩ rfl) fun v17 B16 H16 x16 (w16 : Own K B16 M [⟨p13, cBox, t14.2⟩] H16) h18 => ?_
    obtain ⟨t19, e20, hm⟩ := bindS hm
    obtain ⟨t21, e22, hm⟩ := bindS hm
    refine q_asg (n := 3) w16 (ev_ix (ev_seqL (ev_frz (el_lst (r := rStr) [(Str.ofString "a"), (Str.ofString ""), (Str.ofString "A")] (ea_cons (ev_str (x := (Str.ofString "a"))) (ea_cons (ev_str (x := (Str.ofString ""))) (ea_cons (ev_str (x := (Str.ofString "A"))) ea_nil)))))) (ev_callC 0 (x := ⟨p13, cBox, t14.2⟩) (x' := ⟨p13, cBox, t19.2⟩) (ea_cons (ev_varR rfl) (ea_cons (ev_int (i := 3)) ea_nil)) rfl ⟨_, _, _, _, rfl, rfl, e20, rfl, rfl⟩ rfl) e22) fun v24 B23 H23 x23 (w23 : Own K B23 M [⟨p13, cBox, t19.2⟩] H23) h25 => ?_
    obtain ⟨t26, e27, hm⟩ := bindS hm
    obtain ⟨t28, e29, hm⟩ := bindS hm
    obtain ⟨t30, e31, hm⟩ := bindS hm
    refine q_asg (n := 4) w23 (ev_frz (el_lst (r := rExc) [((0 : Nat), PyData.none), ((1 : Nat), (PyData.int t14.1)), ((2 : Nat), ((dT3 PyData.str PyData.int PyData.int) (((Str.ofString "cost"), (0 : Int), t14.1)))), ((3 : Nat), (PyData.int t14.1))] (ea_cons (ev_mk0 (i := 0) rfl (ev_str (x := (Str.ofString "x")))) (ea_cons (ev_mkE (i := 1) rfl (ev_dq (ev_varI rfl h18) dq_int) e27) (ea_cons (ev_mkE (i := 2) rfl (ev_dq (ev_T3 (ea_cons (ev_str (x := (Str.ofString "cost"))) (ea_cons (ev_int (i := 0)) (ea_cons (ev_varI rfl h18) ea_nil)))) (dq_T3 dq_str dq_int dq_int)) e29) (ea_cons (ev_mkE (i := 3) rfl (ev_dq (ev_varI rfl h18) dq_int) e31) ea_nil)))))) fun v33 B32 H32 x32 (w32 : Own K B32 M [⟨p13, cBox, t19.2⟩] H32) h34 => ?_
    obtain ⟨t35, e36, hm⟩ := bindS hm
    obtain ⟨t37, e38, hm⟩ := bindS hm
    obtain ⟨t39, e40, hm⟩ := bindS hm
    refine q_asg (n := 4) w32 (ev_frz (el_cat (ev_var rfl h34) (ev_frz (el_lst (r := rExc) [((4 : Nat), PyData.none), ((5 : Nat), PyData.none), ((6 : Nat), (PyData.int t14.1)), ((7 : Nat), (PyData.int t14.1))] (ea_cons (ev_mk0 (i := 4) rfl (ev_str (x := (Str.ofString "x")))) (ea_cons (ev_mk0 (i := 5) rfl (ev_str (x := (Str.ofString "x")))) (ea_cons (ev_mkE (i := 6) rfl (ev_dq (ev_varI rfl h18) dq_int) e36) (ea_cons (ev_mkE (i := 7) rfl (ev_dq (ev_varI rfl h18) dq_int) e38) ea_nil)))))) e40)) fun v42 B41 H41 x41 (w41 : Own K B41 M [⟨p13, cBox, t19.2⟩] H41) h43 => ?_
    obtain ⟨t44, e45, hm⟩ := bindS hm
    obtain ⟨t46, e47, hm⟩ := bindS hm
    obtain ⟨t48, e49, hm⟩ := bindS hm
    refine q_asg (n := 4) w41 (ev_frz (el_cat (ev_var rfl h43) (ev_frz (el_lst (r := rExc) [((8 : Nat), PyData.none), ((9 : Nat), (PyData.str t21)), ((10 : Nat), PyData.none), ((11 : Nat), (PyData.str t21))] (ea_cons (ev_mk0 (i := 8) rfl (ev_str (x := (Str.ofString "x")))) (ea_cons (ev_mkE (i := 9) rfl (ev_dq (ev_varS rfl h25) dq_str) e45) (ea_cons (ev_mk0 (i := 10) rfl (ev_str (x := (Str.ofString "x")))) (ea_cons (ev_mkE (i := 11) rfl (ev_dq (ev_varS rfl h25) dq_str) e47) ea_nil)))))) e49)) fun v51 B50 H50 x50 (w50 : Own K B50 M [⟨p13, cBox, t19.2⟩] H50) h52 => ?_
    obtain ⟨o56, e57, hm⟩ := bindS hm
    refine q_forR w50 (ei_rng1 (ea_cons (ev_int (i := 12)) ea_nil) (by decide)) _ (fun s53 B58 σ71 => ∃ o72, σ71 = [some u0, some (.ref p13), some v17, some v24, some v51, o72, none]) (fun s53 => [⟨p13, cBox, t19.2⟩]) (()) e57 (fun B9 x9 => ⟨_, rfl⟩) rfl ?_ ?_
    · skip
      rintro s53 x54 s196 v64 B58 B59 H60 σ71 hb55 x61 ⟨o72, rfl⟩ x62 w63 h65 ho70 N66 K67 hN68 hB69
      replace w63 : Own K B59 M [⟨p13, cBox, t19.2⟩] H60 := w63
      refine g_name ?_
      obtain ⟨t73, e74, hb55⟩ := bindS hb55
      obtain ⟨t75, e76, hb55⟩ := bindS hb55
      obtain ⟨t101, e102, hb55⟩ := bindS hb55
      obtain ⟨t103, e104, hb55⟩ := bindS hb55
      refine q_if w63 (et_test (ev_neT (dr_lst dr_bool) (by decide) (ev_call (ea_cons (ev_ix (ev_seqL (ev_var rfl (((rLst rExc)).mono (x61.trans x62) h52))) (ev_varI rfl h65) e74) ea_nil) ⟨_, _, rfl, rfl, e76, rfl, rfl⟩) (ev_frz (el_lc (S := Unit) (ys := t103.1) (s1 := t103.2) (s0 := ()) (σ' := [some u0, some (.ref p13), some v17, some v24, some v51, some v64, none]) rBool (ei_rng1 (ea_cons (ev_int (i := 12)) ea_nil) (by decide)) _ (fun (s77 : Unit) => [⟨p13, cBox, t19.2⟩]) rfl e104 e102 rfl (by rintro s77 x84 o89 s90 v82 D87 a88 B78 H79 hb86 x80 w81 h83 PY91 PN92 qY93 qN94; replace w81 : Own K B78 M [⟨D87, (cLst rBool), a88⟩, ⟨p13, cBox, t19.2⟩] H79 := w81; refine g_name ?_; refine ⟨rfl, ?_⟩; obtain ⟨rfl, rfl⟩ := Prod.mk.inj (Option.some.inj hb86); refine lc_yes ?_; exact (ev_eqI (ev_varI rfl h83) (ev_varI rfl h65)) B78 H79 (Ex.refl _) w81 _ fun v95 B96 H97 x98 w99 h100 => qY93 v95 B96 H97 _ rfl x98 w99 h100))))) (fun hb105 B106 H106 x106 (w106 : Own K B106 M [⟨p13, cBox, t19.2⟩] H106) => ?_) (fun hb105 B107 H107 x107 (w107 : Own K B107 M [⟨p13, cBox, t19.2⟩] H107) => ?_)
      · skip
        rw [if_pos hb105] at hb55
        replace hb55 : some _ = some _ := hb55
        obtain rfl := Option.some.inj hb55
        obtain rfl := ho70 _ rfl
        replace hm : some _ = some _ := hm
        obtain rfl := Option.some.inj hm
        exact q_ret w106 (ev_bl (b := false)) fun v9 B9 H9 x9 w9 h9 => k _ _ _ (((((((((x12.trans x16).trans x23).trans x32).trans x41).trans x50).trans x61).trans x62).trans x106).trans x9) w9.tail h9
      rw [if_neg (by rw [hb105]; exact Bool.false_ne_true)] at hb55
      obtain ⟨t108, e109, hb55⟩ := bindS hb55
      obtain ⟨t110, e111, hb55⟩ := bindS hb55
      obtain ⟨t116, e117, hb55⟩ := bindS hb55
      refine q_if w107 (et_or' (d := t116) (et_not (et_B (ev_isO TC (j := 12) (by decide) (by decide) (ev_ix (ev_seqL (ev_var rfl (((rLst rExc)).mono ((x61.trans x62).trans x107) h52))) (ev_varI rfl h65) e109) e111))) (fun hb118 => by rw [if_neg (by rw [hb118]; exact Bool.false_ne_true)] at e117; obtain ⟨t112, e113, e117⟩ := bindS e117; obtain ⟨t114, e115, e117⟩ := bindS e117; obtain rfl := Option.some.inj e117; exact (et_not (et_B (ev_isVE TC (j := 14) (by decide) (by decide) (ev_ix (ev_seqL (ev_var rfl (((rLst rExc)).mono ((x61.trans x62).trans x107) h52))) (ev_varI rfl h65) e113) e115)))) (fun hb118 => by rw [if_pos hb118] at e117; obtain rfl := Option.some.inj e117; exact ⟨rfl, rfl⟩)) (fun hb119 B120 H120 x120 (w120 : Own K B120 M [⟨p13, cBox, t19.2⟩] H120) => ?_) (fun hb119 B121 H121 x121 (w121 : Own K B121 M [⟨p13, cBox, t19.2⟩] H121) => ?_)
      · skip
        rw [if_pos hb119] at hb55
        replace hb55 : some _ = some _ := hb55
        obtain rfl := Option.some.inj hb55
        obtain rfl := ho70 _ rfl
        replace hm : some _ = some _ := hm
        obtain rfl := Option.some.inj hm
        exact q_ret w120 (ev_bl (b := false)) fun v9 B9 H9 x9 w9 h9 => k _ _ _ ((((((((((x12.trans x16).trans x23).trans x32).trans x41).trans x50).trans x61).trans x62).trans x107).trans x120).trans x9) w9.tail h9
      rw [if_neg (by rw [hb119]; exact Bool.false_ne_true)] at hb55
      obtain ⟨t122, e123, hb55⟩ := bindS hb55
      obtain ⟨t124, e125, hb55⟩ := bindS hb55
      refine q_if w121 (et_test (ev_neB (ev_isO TC (j := 13) (by decide) (by decide) (ev_ix (ev_seqL (ev_var rfl (((rLst rExc)).mono (((x61.trans x62).trans x107).trans x121) h52))) (ev_varI rfl h65) e123) e125) (ev_ge (ev_varI rfl h65) (ev_int (i := 6))))) (fun hb126 B127 H127 x127 (w127 : Own K B127 M [⟨p13, cBox, t19.2⟩] H127) => ?_) (fun hb126 B128 H128 x128 (w128 : Own K B128 M [⟨p13, cBox, t19.2⟩] H128) => ?_)
      · skip
        rw [if_pos hb126] at hb55
        replace hb55 : some _ = some _ := hb55
        obtain rfl := Option.some.inj hb55
        obtain rfl := ho70 _ rfl
        replace hm : some _ = some _ := hm
        obtain rfl := Option.some.inj hm
        exact q_ret w127 (ev_bl (b := false)) fun v9 B9 H9 x9 w9 h9 => k _ _ _ (((((((((((x12.trans x16).trans x23).trans x32).trans x41).trans x50).trans x61).trans x62).trans x107).trans x121).trans x127).trans x9) w9.tail h9
      rw [if_neg (by rw [hb126]; exact Bool.false_ne_true)] at hb55
      replace hb55 : some _ = some _ := hb55
      cases hb55
      exact hN68 _ _ _ _ rfl ((x107.trans x121).trans x128) w128 ⟨_, rfl⟩
    rintro s129 B130 H131 σ134 rfl x132 w133 ⟨o135, rfl⟩
    dsimp only at hm
    replace w133 : Own K B130 M [⟨p13, cBox, t19.2⟩] H131 := w133
    obtain ⟨t136, e137, hm⟩ := bindS hm
    obtain ⟨t138, e139, hm⟩ := bindS hm
    obtain ⟨t140, e141, hm⟩ := bindS hm
    obtain ⟨t157, e158, hm⟩ := bindS hm
    refine q_if w133 (et_or' (d := t157) (et_test (ev_nevD (ev_fldO TC (ev_ix (ev_seqL (ev_var rfl (((rLst rExc)).mono x132 h52))) (ev_int (i := 1)) e137) e139) (ev_dq (ev_varI rfl h18) dq_int) e141)) (fun hb159 => by rw [if_neg (by rw [hb159]; exact Bool.false_ne_true)] at e158; obtain ⟨t142, e143, e158⟩ := bindS e158; obtain ⟨t144, e145, e158⟩ := bindS e158; obtain ⟨t146, e147, e158⟩ := bindS e158; obtain ⟨t154, e155, e158⟩ := bindS e158; obtain rfl := Option.some.inj e158; exact (et_or' (d := t154) (et_test (ev_nevD (ev_fldO TC (ev_ix (ev_seqL (ev_var rfl (((rLst rExc)).mono x132 h52))) (ev_int (i := 2)) e143) e145) (ev_dq (ev_T3 (ea_cons (ev_str (x := (Str.ofString "cost"))) (ea_cons (ev_int (i := 0)) (ea_cons (ev_varI rfl h18) ea_nil)))) (dq_T3 dq_str dq_int dq_int)) e147)) (fun hb156 => by rw [if_neg (by rw [hb156]; exact Bool.false_ne_true)] at e155; obtain ⟨t148, e149, e155⟩ := bindS e155; obtain ⟨t150, e151, e155⟩ := bindS e155; obtain ⟨t152, e153, e155⟩ := bindS e155; obtain rfl := Option.some.inj e155; exact (et_test (ev_nevD (ev_fldO TC (ev_ix (ev_seqL (ev_var rfl (((rLst rExc)).mono x132 h52))) (ev_int (i := 3)) e149) e151) (ev_dq (ev_varI rfl h18) dq_int) e153))) (fun hb156 => by rw [if_pos hb156] at e155; obtain rfl := Option.some.inj e155; exact ⟨rfl, rfl⟩))) (fun hb159 => by rw [if_pos hb159] at e158; obtain rfl := Option.some.inj e158; exact ⟨rfl, rfl⟩)) (fun hb160 B161 H161 x161 (w161 : Own K B161 M [⟨p13, cBox, t19.2⟩] H161) => ?_) (fun hb160 B162 H162 x162 (w162 : Own K B162 M [⟨p13, cBox, t19.2⟩] H162) => ?_)
    · skip
      rw [if_pos hb160] at hm
      replace hm : some _ = some _ := hm
      obtain rfl := Option.some.inj hm
      exact q_ret w161 (ev_bl (b := false)) fun v9 B9 H9 x9 w9 h9 => k _ _ _ ((((((((x12.trans x16).trans x23).trans x32).trans x41).trans x50).trans x132).trans x161).trans x9) w9.tail h9
    rw [if_neg (by rw [hb160]; exact Bool.false_ne_true)] at hm
    obtain ⟨t163, e164, hm⟩ := bindS hm
    obtain ⟨t165, e166, hm⟩ := bindS hm
    obtain ⟨t167, e168, hm⟩ := bindS hm
    obtain ⟨t175, e176, hm⟩ := bindS hm
    refine q_if w162 (et_or' (d := t175) (et_test (ev_nevD (ev_fldO TC (ev_ix (ev_seqL (ev_var rfl (((rLst rExc)).mono (x132.trans x162) h52))) (ev_int (i := 6)) e164) e166) (ev_dq (ev_varI rfl h18) dq_int) e168)) (fun hb177 => by rw [if_neg (by rw [hb177]; exact Bool.false_ne_true)] at e176; obtain ⟨t169, e170, e176⟩ := bindS e176; obtain ⟨t171, e172, e176⟩ := bindS e176; obtain ⟨t173, e174, e176⟩ := bindS e176; obtain rfl := Option.some.inj e176; exact (et_test (ev_nevD (ev_fldO TC (ev_ix (ev_seqL (ev_var rfl (((rLst rExc)).mono (x132.trans x162) h52))) (ev_int (i := 7)) e170) e172) (ev_dq (ev_varI rfl h18) dq_int) e174))) (fun hb177 => by rw [if_pos hb177] at e176; obtain rfl := Option.some.inj e176; exact ⟨rfl, rfl⟩)) (fun hb178 B179 H179 x179 (w179 : Own K B179 M [⟨p13, cBox, t19.2⟩] H179) => ?_) (fun hb178 B180 H180 x180 (w180 : Own K B180 M [⟨p13, cBox, t19.2⟩] H180) => ?_)
    · skip
      rw [if_pos hb178] at hm
      replace hm : some _ = some _ := hm
      obtain rfl := Option.some.inj hm
      exact q_ret w179 (ev_bl (b := false)) fun v9 B9 H9 x9 w9 h9 => k _ _ _ (((((((((x12.trans x16).trans x23).trans x32).trans x41).trans x50).trans x132).trans x162).trans x179).trans x9) w9.tail h9
    rw [if_neg (by rw [hb178]; exact Bool.false_ne_true)] at hm
    obtain ⟨t181, e182, hm⟩ := bindS hm
    obtain ⟨t183, e184, hm⟩ := bindS hm
    obtain ⟨t185, e186, hm⟩ := bindS hm
    obtain ⟨t193, e194, hm⟩ := bindS hm
    replace hm : some _ = some _ := hm
    obtain rfl := Option.some.inj hm
    exact q_ret w180 (ev_andV (d := t193) (ev_eqvD (ev_fldO TC (ev_ix (ev_seqL (ev_var rfl (((rLst rExc)).mono ((x132.trans x162).trans x180) h52))) (ev_int (i := 9)) e182) e184) (ev_dq (ev_varS rfl h25) dq_str) e186) (fun hb195 => by rw [if_pos hb195] at e194; obtain ⟨t187, e188, e194⟩ := bindS e194; obtain ⟨t189, e190, e194⟩ := bindS e194; obtain ⟨t191, e192, e194⟩ := bindS e194; obtain rfl := Option.some.inj e194; exact (ev_eqvD (ev_fldO TC (ev_ix (ev_seqL (ev_var rfl (((rLst rExc)).mono ((x132.trans x162).trans x180) h52))) (ev_int (i := 11)) e188) e190) (ev_dq (ev_varS rfl h25) dq_str) e192)) (fun hb195 => by rw [if_neg (by rw [hb195]; exact Bool.false_ne_true)] at e194; obtain rfl := Option.some.inj e194; exact ⟨rfl, rfl⟩)) fun v9 B9 H9 x9 w9 h9 => k _ _ _ (((((((((x12.trans x16).trans x23).trans x32).trans x41).trans x50).trans x132).trans x162).trans x180).trans x9) w9.tail h9
end
end L3

namespace L3
open PySem L2
theorem y_p {α : Type} {P : α → Prop} {b : Bool} {x y : Option α} (h : b = true) (k : Yes x P) : Yes (if b = true then x else y) P := by rw [if_pos h]; exact k
theorem y_n {α : Type} {P : α → Prop} {b : Bool} {x y : Option α} (h : b = false) (k : Yes y P) : Yes (if b = true then x else y) P := by rw [if_neg (by rw [h]; exact Bool.false_ne_true)]; exact k
end L3

namespace L3
open PySem L2
theorem ixL_lit {α : Type} {xs : List α} {i : Int} {P : α → Prop} (h0 : 0 ≤ i) (h1 : i < xs.length) (h : ∀ x ∈ xs, P x) : Yes (ixL xs i) P := by
  obtain ⟨n, hn⟩ := Int.eq_ofNat_of_zero_le h0
  have hl : n < xs.length := by omega
  exact ⟨xs[n], ixL_s (List.getElem?_eq_getElem hl) hn, h _ (List.getElem_mem hl)⟩
/-- comprehensions: they answer -/
theorem y_comp {S α β : Type} (f : S → α → Option (Option β × S)) (I : Nat → List β → S → Prop) {xs : List α} {s : S} (h0 : I 0 [] s) (hs : ∀ (i : Nat) x ys s, xs[i]? = some x → I i ys s → Yes (f s x) fun r => I (i + 1) (ys ++ r.1.toList) r.2) : Yes (compM f s xs) fun r => I xs.length r.1 r.2 := by
  have key : ∀ (xs : List α) (k : Nat) (pre : List β) (s : S), I k pre s → (∀ (i : Nat) x ys s, xs[i]? = some x → I (k + i) ys s → Yes (f s x) fun r => I (k + i + 1) (ys ++ r.1.toList) r.2) → Yes (compM f s xs) fun r => I (k + xs.length) (pre ++ r.1) r.2 := by
    intro xs
    induction xs with
    | nil => intro k pre s h _; exact ⟨([], s), rfl, by simpa using h⟩
    | cons x xs ih =>
      intro k pre s h hs
      obtain ⟨⟨o, s'⟩, h1, h2⟩ := hs 0 x pre s rfl h
      obtain ⟨⟨ys, s2⟩, h3, h4⟩ := ih (k + 1) (pre ++ o.toList) s' h2 fun i y zs s hy hI => by
        have := hs (i + 1) y zs s (by simpa using hy) (by rw [show k + (i + 1) = k + 1 + i by omega]; exact hI)
        rw [show k + (i + 1) + 1 = k + 1 + i + 1 by omega] at this
        exact this
      refine ⟨(o.toList ++ ys, s2), ?_, ?_⟩
      · unfold compM
        rw [h1]
        dsimp only
        rw [h3]
      · rw [show k + (x :: xs).length = k + 1 + xs.length by simp; omega]
        show I _ (pre ++ (o.toList ++ ys)) s2
        rw [← List.append_assoc]
        exact h4
  have := key xs 0 [] s h0 fun i x ys s hx hI => by
    rw [Nat.zero_add] at hI ⊢
    exact hs i x ys s hx hI
  simpa using this
end L3

namespace L3
open PySem L2
/-! ### the box -/
def BoxOk (s : List Int × Int) (n : Int) : Prop := (1 ≤ s.1.length ∧ s.1.length ≤ 4000) ∧ 0 ≤ s.2 ∧ s.2 ≤ n
theorem BoxOk.le {s : List Int × Int} {a b : Int} (h : BoxOk s a) (hab : a ≤ b) : BoxOk s b := ⟨h.1, h.2.1, Int.le_trans h.2.2 hab⟩
theorem draws_ok (x : Int) : Yes (m_l_draws x 1000003 6) fun r => r.length ≤ 6 := by
  unfold m_l_draws
  refine y_bind (Q := fun _ => True) (y_if (fun _ => y_some trivial) fun _ => y_some trivial) fun s _ => ?_
  refine y_eq (a := 1000000000000000000) (by decide +kernel) ?_
  refine y_if (fun _ => ?_) fun _ => ?_
  · refine y_eq (small62_s (by decide) (by decide)) ?_
    refine y_bind (Q := fun (p : Int × List Int) => p.2.length ≤ 6) ?_ fun p hp => y_some hp
    refine (y_foldI _ (fun i (p : Int × List Int) => p.2.length ≤ i) (by simp) ?_).mono fun p hp => by rw [rng_len] at hp; simpa using hp
    rintro i y ⟨a, t⟩ hy hI
    have hi := (rng_at hy).2
    have hI : t.length ≤ i := hI
    refine y_eq (modI_s (by decide)) (y_eq (room_s (by show t.length ≤ _; omega)) (y_eq (divI_s (by decide) (by decide)) (y_some ?_)))
    show (t ++ [_]).length ≤ _
    rw [List.length_append, List.length_singleton]; omega
  · refine y_eq (small62_s (by decide) (by decide)) ?_
    refine y_bind (Q := fun (p : List Int) => p.length ≤ 6) ?_ fun p hp => y_some hp
    refine (y_foldI _ (fun i (p : List Int) => p.length ≤ i) (by simp) ?_).mono fun p hp => by rw [rng_len] at hp; simpa using hp
    rintro i y t hy hI
    have hi := (rng_at hy).2
    refine y_eq (mulI_l (by decide) (by decide)) (y_eq (mulI_r (by decide) (by decide)) (y_eq (modI_s (by decide)) (y_eq (mulI_r (by decide) (by decide)) (y_eq (mulI_l (by decide) (by decide)) (y_eq (modI_s (by decide)) (y_eq (divI_s (by decide) (by decide)) (y_eq (modI_s (by decide)) (y_eq (room_s (by omega)) (y_some ?_)))))))))
    rw [List.length_append, List.length_singleton]; omega
theorem catT_s {α : Type} {xs ys : List α} (h : xs.length + ys.length ≤ 1000000) : catT xs ys = some (xs ++ ys) := if_pos h
theorem box_ok {ns : List Int} (h : ns.length ≤ 63) : Yes (m_l_box ns) fun b => BoxOk b 0 := by
  unfold m_l_box
  refine y_bind (Q := fun t => t.length ≤ 4000) ?_ fun t ht => ?_
  · refine (y_foldI _ (fun i (t : List Int) => t.length ≤ 6 * i) (by simp) ?_).mono fun t ht => by have : t.length ≤ 6 * ns.length := ht; omega
    intro i x t hx hI
    have hi : i < ns.length := (List.getElem?_eq_some_iff.mp hx).1
    refine y_bind (draws_ok x) fun d hd => y_eq (catT_s (by omega)) (y_some ?_)
    rw [List.length_append]; omega
  · refine y_bind (Q := fun t => 1 ≤ t.length ∧ t.length ≤ 4000) (y_if (fun _ => y_some (by decide)) fun c => y_some ⟨?_, ht⟩) fun t ht => y_some ⟨ht, Int.le_refl 0, Int.le_refl 0⟩
    have : ¬ ((t.length : Int) = 0) := fun z => c (decide_eq_true z)
    omega
theorem next_ok {s : List Int × Int} {n many : Int} (hs : BoxOk s n) (hn : n < 2 ^ 61) (hm : 0 < many) : Yes (m_l_next s many) fun r => (0 ≤ r.1 ∧ r.1 < many) ∧ BoxOk r.2 (n + 1) := by
  unfold m_l_next
  obtain ⟨⟨h1, h1'⟩, h2, h3⟩ := hs
  have hl : (0 : Int) < (s.1.length : Int) := by omega
  have a1 := Int.emod_nonneg s.2 (show (s.1.length : Int) ≠ 0 by omega)
  have a2 := Int.emod_lt_of_pos s.2 hl
  refine y_eq (modI_s hl) (y_bind (ixL_lit (P := fun _ => True) a1 a2 fun _ _ => trivial) fun t _ => ?_)
  refine y_eq (divI_s hl (by show (s.1.length : Int) < _; omega)) (y_eq (mulI_l (by decide) (by decide)) (y_eq (modI_s hm) (y_some ⟨⟨Int.emod_nonneg _ (by omega), Int.emod_lt_of_pos _ hm⟩, ⟨h1, h1'⟩, ?_, ?_⟩)))
  · show 0 ≤ s.2 + 1; omega
  · show s.2 + 1 ≤ _; omega
end L3

namespace L3
open PySem L2
theorem law_true (ns : List Int) (h : ns.length ≤ 63) : m_law ns = some true := by
  suffices hh : Yes (m_law ns) fun r => r = true by
    obtain ⟨r, h1, h2⟩ := hh
    rw [h1, h2]
  unfold m_law
  refine y_bind (box_ok h) fun b hb => ?_
  refine y_bind (next_ok hb (by decide) (by decide)) fun t14 h14 => ?_
  obtain ⟨⟨n0, n1⟩, s1⟩ := h14
  refine y_bind (next_ok s1 (by decide) (by decide)) fun t19 h19 => ?_
  obtain ⟨⟨j0, j1⟩, s2⟩ := h19
  obtain ⟨n, b1⟩ := t14
  obtain ⟨j, b2⟩ := t19
  dsimp only at n0 n1 j0 j1 ⊢
  obtain ⟨k, rfl⟩ : ∃ k : Fin 300, n = ((k.val : Nat) : Int) := ⟨⟨n.toNat, by omega⟩, (Int.toNat_of_nonneg n0).symm⟩
  obtain ⟨l, rfl⟩ : ∃ l : Fin 3, j = ((l.val : Nat) : Int) := ⟨⟨j.toNat, by omega⟩, (Int.toNat_of_nonneg j0).symm⟩
  refine ⟨true, ?_, rfl⟩
  clear n0 n1 j0 j1 s1 s2 hb b1 b2 h b ns
  revert k l
  decide +kernel
end L3

namespace L3
open PySem PySem.Spec PyProof.Rows L2
/-! ### the end -/
namespace End
theorem facts {w : World} {K : PySem.W.Frag} {h : Heap} {mg : Str → Option Value} {f : Addr} (X : K.In h) (G : h.Ns mainGlobals mg) (hfa : mg ("law" : Str) = some (.ref f)) (c : He.SaysX fa fn ts tfa ex w h K) (hm : ∀ ns : List Int, ns.length ≤ 63 → m_law ns = some true) :
    LamX.LawAtS PySem.Challenge.rw_bestodds_k37_errors w K CX0 3 63 "_law_script" mg f h := by
  obtain ⟨fd0, D0⟩ := c.t.d.def_ 0 (d := d__law_draws) rfl
  have n0 : mg "_law_draws" = some (.ref (He.fAd K ("_law_draws", none))) := He.glo_ok X G (c.t.d.fact 0 (f := .glo "_law_draws") rfl)
  have F0 : FunC K "_law_draws" s__law_draws (He.fAd K ("_law_draws", none)) fd0 (He.codeOf K ("_law_draws", none)) := funC_of D0
  obtain ⟨fd1, D1⟩ := c.t.d.def_ 1 (d := d__law_next) rfl
  have n1 : mg "_law_next" = some (.ref (He.fAd K ("_law_next", none))) := He.glo_ok X G (c.t.d.fact 1 (f := .glo "_law_next") rfl)
  have F1 : FunC K "_law_next" s__law_next (He.fAd K ("_law_next", none)) fd1 (He.codeOf K ("_law_next", none)) := funC_of D1
  obtain ⟨fd2, D2⟩ := c.t.d.def_ 2 (d := d__law_kinds) rfl
  have n2 : mg "_law_kinds" = some (.ref (He.fAd K ("_law_kinds", none))) := He.glo_ok X G (c.t.d.fact 2 (f := .glo "_law_kinds") rfl)
  have F2 : FunC K "_law_kinds" s__law_kinds (He.fAd K ("_law_kinds", none)) fd2 (He.codeOf K ("_law_kinds", none)) := funC_of D2
  obtain ⟨fd3, D3⟩ := c.t.d.def_ 3 (d := d__law_box) rfl
  have n3 : mg "_law_box" = some (.ref (He.fAd K ("_law_box", none))) := He.glo_ok X G (c.t.d.fact 3 (f := .glo "_law_box") rfl)
  have F3 : FunC K "_law_box" s__law_box (He.fAd K ("_law_box", none)) fd3 (He.codeOf K ("_law_box", none)) := funC_of D3
  obtain ⟨fd4, D4⟩ := c.t.d.def_ 4 (d := d_law) rfl
  have n4 : mg "law" = some (.ref (He.fAd K ("law", none))) := He.glo_ok X G (c.t.d.fact 4 (f := .glo "law") rfl)
  have F4 : FunC K "law" s_law (He.fAd K ("law", none)) fd4 (He.codeOf K ("law", none)) := funC_of D4
  have y_range : mg "range" = none := He.free_ok X G (c.t.d.fact 5 (f := .free "range") rfl)
  have y_int : mg "int" = none := He.free_ok X G (c.t.d.fact 6 (f := .free "int") rfl)
  have y_len : mg "len" = none := He.free_ok X G (c.t.d.fact 7 (f := .free "len") rfl)
  have y_isinstance : mg "isinstance" = none := He.free_ok X G (c.t.d.fact 8 (f := .free "isinstance") rfl)
  have y_ValueError : mg "ValueError" = none := He.free_ok X G (c.t.d.fact 9 (f := .free "ValueError") rfl)
  have TC : Errs PySem.Challenge.rw_bestodds_k37_errors.prog K mg ErI ErJ := errsB_ok X G (by kernel_rfl) (He.ba c.more).2
  have e := hfa.symm.trans n4
  cases e
  have mem : ∀ p ∈ tfa.map (He.cT K), ∃ q ∈ tfa, He.cT K q = p := fun p hp => List.mem_map.mp hp
  refine ⟨fd4, tfa.map (He.cT K), spV K ((tf.map (He.cT K)).map (·.2)) C_law, fun p hp => ?_, fun p hp => ?_, fun p hp => ?_, fun s v => ?_, fun H a ns hl _ hH hS => ?_, fun base KB GB hTB => ?_⟩
  · obtain ⟨q, hq, rfl⟩ := mem p hp; exact c.empty q hq
  · obtain ⟨q, hq, rfl⟩ := mem p hp; exact c.out q hq
  · obtain ⟨q, hq, rfl⟩ := mem p hp; exact PySem.W.codeHd_of_K X (c.hd q hq)
  · exact F4.bindsA (ps := ["_law_script"]) (fun _ _ _ _ _ _ us hl => match us, hl with | [_], _ => rfl) s [v] rfl
  · have hT : ∀ P ∈ (tf.map (He.cT K)).map (·.2), GxR.TabG H P := fun P hP => by
      obtain ⟨p, hp, rfl⟩ := List.mem_map.mp hP
      obtain ⟨q, hq, rfl⟩ := List.mem_map.mp hp
      exact ⟨#[], hH _ (List.mem_map.mpr ⟨q, hq, rfl⟩), trivial⟩
    exact ⟨noT H _, ⟨fun _ => none, _⟩, [], [⟨rScr rInt, ns⟩], ⟨rBool, true⟩, [], rfl, Own.start K H _ hT, ⟨⟨a, _, rfl, sq_noT hT hS, paired_ints ns⟩, trivial⟩, ⟨ns, true, rfl, rfl, hm ns hl, rfl, rfl⟩, fun v _ _ _ _ h => h⟩
  · have tbs : ∀ q ∈ tf, ∃ P0, GxR.TabB base mg (He.codeOf K q) P0 ∧ P0 ∈ (tf.map (He.cT K)).map (·.2) := fun q hq => by
      have t := hTB (He.cT K q) (List.mem_map.mpr ⟨q, hq, rfl⟩)
      exact ⟨(He.cT K q).2, ⟨t.code, t.bm, t.gP⟩, List.mem_map.mpr ⟨_, List.mem_map.mpr ⟨q, hq, rfl⟩, rfl⟩⟩
    have b0 := F0.binds (ps := ["_law_cell", "_law_modulus", "_law_count"]) fun _ _ _ _ _ _ us hl => match us, hl with | [_, _, _], _ => rfl
    have C_0 : Cl PySem.Challenge.rw_bestodds_k37_errors.prog w K mg base 1 "_law_draws" (spV K ((tf.map (He.cT K)).map (·.2)) C__law_draws) [] := ⟨_, _, ["_law_cell", "_law_modulus", "_law_count"], [], ok__law_draws F0 y_range y_int, n0, F0.kp, b0, .nil⟩
    have b1 := F1.binds (ps := ["_law_box_here", "_law_modulus"]) fun _ _ _ _ _ _ us hl => match us, hl with | [_, _], _ => rfl
    have C_1 : Cl PySem.Challenge.rw_bestodds_k37_errors.prog w K mg base 1 "_law_next" (spV K ((tf.map (He.cT K)).map (·.2)) C__law_next) [] := ⟨_, _, ["_law_box_here", "_law_modulus"], [], ok__law_next F1 y_len y_int, n1, F1.kp, b1, .nil⟩
    have b2 := F2.binds (ps := ["_law_e"]) fun _ _ _ _ _ _ us hl => match us, hl with | [_], _ => rfl
    have C_2 : Cl PySem.Challenge.rw_bestodds_k37_errors.prog w K mg base 1 "_law_kinds" (spV K ((tf.map (He.cT K)).map (·.2)) C__law_kinds) [] := ⟨_, _, ["_law_e"], [], ok__law_kinds F2 TC y_isinstance, n2, F2.kp, b2, .nil⟩
    have b3 := F3.binds (ps := ["_law_script"]) fun _ _ _ _ _ _ us hl => match us, hl with | [_], _ => rfl
    have C_3 : Cl PySem.Challenge.rw_bestodds_k37_errors.prog w K mg base 2 "_law_box" (spC K ((tf.map (He.cT K)).map (·.2)) cBox C__law_box) [] := ⟨_, _, ["_law_script"], [], ok__law_box F3 C_0 y_len, n3, F3.kp, b3, .nil⟩
    exact ok_law F4 TC C_3 C_1 C_2 y_range y_isinstance y_ValueError
end End
end L3
open PySem PySem.W PySem.Calls PyProof.Rows
set_option maxHeartbeats 0 in
theorem PySem.Challenge.cw_bestodds_k37_errors_holds : PySem.Challenge.rw_bestodds_k37_errors.Holds := by
  w_on; o_law
  refine HandSHeadRun.head_any (r := OpenLaw.row PySem.Challenge.rw_bestodds_k37_errors) (q := view (OpenLaw.row PySem.Challenge.rw_bestodds_k37_errors).prog [20]) (H := L3.End.hk) (ob := L3.End.ob) (M := 4000) (loose := L3.End.loose) (d := HandSHeadRun.topDef (OpenLaw.row PySem.Challenge.rw_bestodds_k37_errors).prog 20) (kwd := []) L3.End.ob_eq
    (by kernel_rfl) (fun s => by kernel_rfl) L3.End.run (by kernel_rfl) (by kernel_rfl) (by kernel_rfl) (by rfl) (by first | assumption | decide +kernel) (by decide +kernel) ⟨rfl, rfl, rfl, rfl, rfl, by decide +kernel⟩ ?hw ?hc
  case hw => w_witness2
  case hc =>
    refine LamX.walk_ofTsE (l := PySem.Challenge.rw_bestodds_k37_errors) (n := 63) (k := 3) (x := "_law_script") (CX := fun _ => L2.CX0) rfl (by decide) (by kernel_rfl) ⟨rfl, by decide, by decide⟩ ?F (fun _ _ _ _ _ z => z)
    intro w mg fa h Y G hmg0
    obtain ⟨K, KX, c⟩ := Y
    have hmg : mg ("law" : PySem.Str) = some (.ref fa) := by
      have e : (HandSHeadRun.topDef (OpenLaw.row PySem.Challenge.rw_bestodds_k37_errors).prog 20).name = ("law" : PySem.Str) := by kernel_rfl
      rw [← e]
      exact hmg0
    exact ⟨K, KX, L3.End.facts KX G hmg c L3.law_true⟩
#print axioms PySem.Challenge.cw_bestodds_k37_errors_holds

