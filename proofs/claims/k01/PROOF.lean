import PyProof.Rows.All
import Wide.All
import OpenK.AllK
import Wide.FinOn
import HandS.ForMost
import HandS.Evl
import HandS.Gcd
import HandS.Wide
import HandS.Conv
import HandS.IsInst
import HandS.Codes
import PySem.Challenge.RW_bestodds_k01_fractions
set_option Elab.async false
set_option linter.all false
set_option maxRecDepth 100000
set_option maxHeartbeats 4000000
namespace L3
open PySem L2
open Evl (Ex ex_rd ex_l ex_t sq_of st_of fresh_back)

abbrev Fg := PySem.W.Frag

/-! ### how data stands in the heap -/
structure Rep (α : Type) where
  is : Fg → Hp → V → α → Prop
  mono : ∀ {K : Fg} {B B' : Hp} {v : V} {a : α}, Ex B B' → is K B v a → is K B' v a
structure CRep (α : Type) where
  is : Fg → Hp → HO → α → Prop
  mono : ∀ {K : Fg} {B B' : Hp} {o : HO} {a : α}, Ex B B' → is K B o a → is K B' o a

theorem paired_mono {α : Type} {r : Rep α} {K : Fg} {B B' : Hp} (e : Ex B B') : ∀ {xs : List V} {as : List α}, Paired (r.is K B) xs as → Paired (r.is K B') xs as
  | _, _, .nil => .nil
  | _, _, .cons h t => .cons (r.mono e h) (paired_mono e t)
theorem paired_len {α β : Type} {F : α → β → Prop} : ∀ {xs : List α} {as : List β}, Paired F xs as → xs.length = as.length
  | _, _, .nil => rfl
  | _, _, .cons _ t => congrArg (· + 1) (paired_len t)
theorem paired_get {α β : Type} {F : α → β → Prop} : ∀ {xs : List α} {as : List β} {i : Nat} {a : β}, Paired F xs as → as[i]? = some a → ∃ x, xs[i]? = some x ∧ F x a
  | _, _, _, _, .nil, e => by simp at e
  | _, _, 0, _, .cons r _, e => by simp at e; subst e; exact ⟨_, rfl, r⟩
  | _, _, i + 1, a, .cons _ t, e => by
    obtain ⟨u, h1, h2⟩ := paired_get (i := i) (a := a) t (by simpa using e)
    exact ⟨u, by simpa using h1, h2⟩
theorem paired_app {α β : Type} {F : α → β → Prop} : ∀ {xs ys : List α} {as bs : List β}, Paired F xs as → Paired F ys bs → Paired F (xs ++ ys) (as ++ bs)
  | _, _, _, _, .nil, s => s
  | _, _, _, _, .cons r t, s => .cons r (paired_app t s)
theorem paired_set {α β : Type} {F : α → β → Prop} {x : α} {a : β} (r : F x a) : ∀ {xs : List α} {as : List β} (i : Nat), Paired F xs as → Paired F (xs.set i x) (as.set i a)
  | _, _, _, .nil => .nil
  | _, _, 0, .cons _ t => .cons r t
  | _, _, i + 1, .cons q t => .cons q (paired_set r i t)
theorem paired_drop {α β : Type} {F : α → β → Prop} : ∀ {xs : List α} {as : List β} (n : Nat), Paired F xs as → Paired F (xs.drop n) (as.drop n)
  | _, _, 0, r => r
  | _, _, _ + 1, .nil => .nil
  | _, _, n + 1, .cons _ t => paired_drop n t
theorem paired_take {α β : Type} {F : α → β → Prop} : ∀ {xs : List α} {as : List β} (n : Nat), Paired F xs as → Paired F (xs.take n) (as.take n)
  | _, _, 0, _ => .nil
  | _, _, _ + 1, .nil => .nil
  | _, _, n + 1, .cons r t => .cons r (paired_take n t)
theorem paired_rev {α β : Type} {F : α → β → Prop} : ∀ {xs : List α} {as : List β}, Paired F xs as → Paired F xs.reverse as.reverse
  | _, _, .nil => .nil
  | _, _, .cons r t => by
    rw [List.reverse_cons, List.reverse_cons]
    exact paired_app (paired_rev t) (.cons r .nil)
theorem paired_map {α β γ : Type} {F : γ → β → Prop} {f : α → γ} {g : α → β} (h : ∀ a, F (f a) (g a)) : ∀ (l : List α), Paired F (l.map f) (l.map g)
  | [] => .nil
  | a :: l => .cons (h a) (paired_map h l)
theorem paired_imp {α β : Type} {F G : α → β → Prop} (h : ∀ a b, F a b → G a b) : ∀ {xs : List α} {as : List β}, Paired F xs as → Paired G xs as
  | _, _, .nil => .nil
  | _, _, .cons r t => .cons (h _ _ r) (paired_imp h t)

def rInt : Rep Int := ⟨fun _ _ v a => v = .int a, fun _ h => h⟩
def rBool : Rep Bool := ⟨fun _ _ v a => v = .bl a, fun _ h => h⟩
def rStr : Rep Str := ⟨fun _ _ v a => v = .str a, fun _ h => h⟩
def rNon : Rep Unit := ⟨fun _ _ v _ => v = .non, fun _ h => h⟩
def rRef : Rep Addr := ⟨fun _ _ v a => v = .ref a, fun _ h => h⟩
def rVal : Rep V := ⟨fun _ _ v a => v = a, fun _ h => h⟩
def rOpt {α : Type} (r : Rep α) : Rep (Option α) := ⟨fun K B v a => match a with | none => v = .non | some x => r.is K B v x, fun {K B B' v a} e h => by
  cases a with
  | none => exact h
  | some x => exact r.mono e h⟩
def rTup {α : Type} (r : Rep α) : Rep (List α) := ⟨fun K B v as => ∃ p xs, v = .ref p ∧ SqT K B p xs ∧ Paired (r.is K B) xs as, fun e ⟨p, xs, h1, h2, h3⟩ => ⟨p, xs, h1, ex_t e h2, paired_mono e h3⟩⟩
def rLst {α : Type} (r : Rep α) : Rep (List α) := ⟨fun K B v as => ∃ p xs, v = .ref p ∧ SqL K B p xs ∧ Paired (r.is K B) xs as, fun e ⟨p, xs, h1, h2, h3⟩ => ⟨p, xs, h1, ex_l e h2, paired_mono e h3⟩⟩
def rSeq {α : Type} (r : Rep α) : Rep (List α) := ⟨fun K B v as => ∃ p xs, v = .ref p ∧ (SqL K B p xs ∨ SqT K B p xs) ∧ Paired (r.is K B) xs as, fun e ⟨p, xs, h1, h2, h3⟩ => ⟨p, xs, h1, h2.imp (ex_l e) (ex_t e), paired_mono e h3⟩⟩
def rT2 {α β : Type} (r : Rep α) (s : Rep β) : Rep (α × β) := ⟨fun K B v a => ∃ p x y, v = .ref p ∧ SqT K B p [x, y] ∧ r.is K B x a.1 ∧ s.is K B y a.2,
  fun e ⟨p, x, y, h1, h2, h3, h4⟩ => ⟨p, x, y, h1, ex_t e h2, r.mono e h3, s.mono e h4⟩⟩
def rT3 {α β γ : Type} (r : Rep α) (s : Rep β) (t : Rep γ) : Rep (α × β × γ) := ⟨fun K B v a => ∃ p x y z, v = .ref p ∧ SqT K B p [x, y, z] ∧ r.is K B x a.1 ∧ s.is K B y a.2.1 ∧ t.is K B z a.2.2,
  fun e ⟨p, x, y, z, h1, h2, h3, h4, h5⟩ => ⟨p, x, y, z, h1, ex_t e h2, r.mono e h3, s.mono e h4, t.mono e h5⟩⟩
def cLst {α : Type} (r : Rep α) : CRep (List α) := ⟨fun K B o as => ∃ xs, o = .lst xs ∧ Paired (r.is K B) xs as, fun e ⟨xs, h1, h2⟩ => ⟨xs, h1, paired_mono e h2⟩⟩
/-- a list [u, v] of two kinds -/
def cL2 {α β : Type} (r : Rep α) (s : Rep β) : CRep (α × β) := ⟨fun K B o a => ∃ x y, o = .lst [x, y] ∧ r.is K B x a.1 ∧ s.is K B y a.2, fun e ⟨x, y, h1, h2, h3⟩ => ⟨x, y, h1, r.mono e h2, s.mono e h3⟩⟩
theorem rTup_seq {α : Type} {r : Rep α} {K : Fg} {B : Hp} {v : V} {as : List α} (h : (rTup r).is K B v as) : (rSeq r).is K B v as := by
  obtain ⟨p, xs, h1, h2, h3⟩ := h
  exact ⟨p, xs, h1, .inr h2, h3⟩
theorem rLst_seq {α : Type} {r : Rep α} {K : Fg} {B : Hp} {v : V} {as : List α} (h : (rLst r).is K B v as) : (rSeq r).is K B v as := by
  obtain ⟨p, xs, h1, h2, h3⟩ := h
  exact ⟨p, xs, h1, .inl h2, h3⟩

/-! ### the heap in three: B stays, M is not ours, L may change -/
structure Cell : Type 1 where
  {α : Type}
  p : Addr
  c : CRep α
  a : α
def Cell.ok (K : Fg) (B H : Hp) (x : Cell) : Prop := ∃ o, H x.p = some o ∧ x.c.is K B o x.a
structure Own (K : Fg) (B M : Hp) (L : List Cell) (H : Hp) : Prop where
  b : Ex B H
  m : Ex M H
  bm : ∀ a, B a = none ∨ M a = none
  l : ∀ x ∈ L, x.ok K B H ∧ B x.p = none ∧ M x.p = none
  nd : (L.map (·.p)).Nodup
section
variable {K : Fg} {B B' M H H' : Hp} {L L' : List Cell} {p : Addr} {o : HO} {α : Type} {c : CRep α} {a a' : α}
theorem Cell.ok.mono {x : Cell} (e : Ex B B') (h : x.ok K B H) : x.ok K B' H := by
  obtain ⟨o, h1, h2⟩ := h
  exact ⟨o, h1, x.c.mono e h2⟩
theorem Own.start (K : Fg) (H : Hp) : Own K H (fun _ => none) [] H := ⟨fun _ _ h => h, fun _ _ h => (by cases h), fun _ => .inr rfl, fun _ h => absurd h (by simp), by simp⟩
/-- a new thing that stays -/
theorem Own.ext (w : Own K B M L H) (hp : H p = none) : Own K (upd B p o) M L (upd H p o) := by
  have hB : B p = none := fresh_back w.b hp
  have hM : M p = none := fresh_back w.m hp
  refine ⟨fun b u e => ?_, fun b u e => ?_, fun b => ?_, fun x hx => ?_, w.nd⟩
  · by_cases hb : b = p
    · rw [hb, upd_same] at e; rw [hb, upd_same]; exact e
    · rw [upd_ne hb] at e; rw [upd_ne hb]; exact w.b b u e
  · rw [upd_ne (ne_of_none e hM)]; exact w.m b u e
  · by_cases hb : b = p
    · right; rw [hb]; exact hM
    · rw [upd_ne hb]; exact w.bm b
  · obtain ⟨⟨u, h1, h2⟩, h3, h4⟩ := w.l x hx
    have ne : x.p ≠ p := ne_of_none h1 hp
    exact ⟨⟨u, by rw [upd_ne ne]; exact h1, x.c.mono (Ex.new hB) h2⟩, by rw [upd_ne ne]; exact h3, h4⟩
/-- a new thing that may change -/
theorem Own.new (w : Own K B M L H) (hp : H p = none) (h : c.is K B o a) : Own K B M (⟨p, c, a⟩ :: L) (upd H p o) := by
  have hB : B p = none := fresh_back w.b hp
  have hM : M p = none := fresh_back w.m hp
  refine ⟨fun b u e => ?_, fun b u e => ?_, w.bm, fun x hx => ?_, ?_⟩
  · rw [upd_ne (ne_of_none e hB)]; exact w.b b u e
  · rw [upd_ne (ne_of_none e hM)]; exact w.m b u e
  · rcases List.mem_cons.mp hx with rfl | hx
    · exact ⟨⟨o, upd_same, h⟩, hB, hM⟩
    · obtain ⟨⟨u, h1, h2⟩, h3, h4⟩ := w.l x hx
      exact ⟨⟨u, by rw [upd_ne (ne_of_none h1 hp)]; exact h1, h2⟩, h3, h4⟩
  · rw [List.map_cons, List.nodup_cons]
    refine ⟨fun hm => ?_, w.nd⟩
    obtain ⟨x, hx, e⟩ := List.mem_map.mp hm
    obtain ⟨⟨u, h1, _⟩, _⟩ := w.l x hx
    rw [e, show (Cell.mk p c a).p = p from rfl, hp] at h1
    cases h1
theorem nodup_at : ∀ {l : List Addr} {i j : Nat} {x : Addr}, l.Nodup → l[i]? = some x → l[j]? = some x → i = j := fun {l i j x} h a b => by
  obtain ⟨h1, e1⟩ := List.getElem?_eq_some_iff.mp a
  obtain ⟨h2, e2⟩ := List.getElem?_eq_some_iff.mp b
  exact (List.getElem_inj h).mp (e1.trans e2.symm)
theorem Own.at {i : Nat} {x : Cell} (w : Own K B M L H) (h : L[i]? = some x) : x.ok K B H ∧ B x.p = none ∧ M x.p = none := w.l x (List.mem_of_getElem? h)
theorem Own.ne {i j : Nat} {x y : Cell} (w : Own K B M L H) (h : L[i]? = some x) (h' : L[j]? = some y) (hij : i ≠ j) : x.p ≠ y.p := fun e => hij (nodup_at w.nd (by rw [List.getElem?_map, h]; rfl) (by rw [List.getElem?_map, h']; exact congrArg some e.symm))
/-- a change in place -/
theorem Own.set {i : Nat} (w : Own K B M L H) (h : L[i]? = some ⟨p, c, a⟩) {β : Type} {c' : CRep β} {a' : β} (h' : c'.is K B o a') : Own K B M (L.set i ⟨p, c', a'⟩) (upd H p o) := by
  obtain ⟨_, hB, hM⟩ := w.at h
  refine ⟨fun b u e => ?_, fun b u e => ?_, w.bm, fun x hx => ?_, ?_⟩
  · rw [upd_ne (ne_of_none e hB)]; exact w.b b u e
  · rw [upd_ne (ne_of_none e hM)]; exact w.m b u e
  · obtain ⟨j, hj⟩ := List.getElem?_of_mem hx
    by_cases hij : i = j
    · subst hij
      have hl : i < L.length := (List.getElem?_eq_some_iff.mp h).1
      rw [List.getElem?_set_self hl] at hj
      cases hj
      exact ⟨⟨o, upd_same, h'⟩, hB, hM⟩
    · rw [List.getElem?_set_ne hij] at hj
      obtain ⟨⟨u, h1, h2⟩, h3, h4⟩ := w.at hj
      have ne : x.p ≠ p := w.ne hj h (Ne.symm hij)
      exact ⟨⟨u, by rw [upd_ne ne]; exact h1, h2⟩, h3, h4⟩
  · have e : (L.set i ⟨p, c', a'⟩).map (·.p) = L.map (·.p) := by
      rw [List.map_set]
      refine List.ext_getElem? fun j => ?_
      by_cases hij : i = j
      · subst hij
        have hl : i < (L.map (·.p)).length := by rw [List.length_map]; exact (List.getElem?_eq_some_iff.mp h).1
        rw [List.getElem?_set_self hl, List.getElem?_map, h]; rfl
      · rw [List.getElem?_set_ne hij]
    rw [e]; exact w.nd
theorem Own.perm {L' : List Cell} (w : Own K B M L H) (h : ∀ x ∈ L', x ∈ L) (nd : (L'.map (·.p)).Nodup) : Own K B M L' H := ⟨w.b, w.m, w.bm, fun x hx => w.l x (h x hx), nd⟩
theorem Own.erase (w : Own K B M L H) (i : Nat) : Own K B M (L.eraseIdx i) H := by
  refine w.perm (fun x hx => List.mem_of_mem_eraseIdx hx) ?_
  exact w.nd.sublist ((List.eraseIdx_sublist L i).map _)
theorem Own.tail {x : Cell} (w : Own K B M (x :: L) H) : Own K B M L H := w.erase 0
theorem Own.nil (w : Own K B M L H) : Own K B M [] H := w.perm (fun _ h => absurd h (by simp)) (by simp)
/-- what may change stays from now on -/
theorem Own.freeze {i : Nat} {x : Cell} (w : Own K B M L H) (h : L[i]? = some x) : ∃ o, H x.p = some o ∧ x.c.is K B o x.a ∧ B x.p = none ∧ Own K (upd B x.p o) M (L.eraseIdx i) H := by
  obtain ⟨⟨o, h1, h2⟩, hB, hM⟩ := w.at h
  refine ⟨o, h1, h2, hB, fun b u e => ?_, w.m, fun b => ?_, fun y hy => ?_, w.nd.sublist ((List.eraseIdx_sublist L i).map _)⟩
  · by_cases hb : b = x.p
    · rw [hb, upd_same] at e; rw [hb, h1]; exact e
    · rw [upd_ne hb] at e; exact w.b b u e
  · by_cases hb : b = x.p
    · right; rw [hb]; exact hM
    · rw [upd_ne hb]; exact w.bm b
  · obtain ⟨⟨u, h3, h4⟩, h5, h6⟩ := w.l y (List.mem_of_mem_eraseIdx hy)
    have ne : y.p ≠ x.p := by
      obtain ⟨j, hj, hne⟩ := List.mem_eraseIdx_iff_getElem?.mp hy
      exact w.ne hne h hj
    exact ⟨⟨u, h3, y.c.mono (Ex.new hB) h4⟩, by rw [upd_ne ne]; exact h5, h6⟩
/-- what is ours as a part of what is not ours -/
def absorb (M : Hp) (L : List Cell) (H : Hp) : Hp := fun a => if a ∈ L.map (·.p) then H a else M a
theorem absorb_in {x : Cell} (h : x ∈ L) : absorb M L H x.p = H x.p := by
  unfold absorb
  rw [if_pos (List.mem_map.mpr ⟨x, h, rfl⟩)]
theorem absorb_out (h : p ∉ L.map (·.p)) : absorb M L H p = M p := by
  unfold absorb
  rw [if_neg h]
/-- L1 is lent, L2 is set aside -/
theorem Own.lend {L1 L2 : List Cell} (w : Own K B M L H) (h1 : ∀ x ∈ L1, x ∈ L) (h2 : ∀ x ∈ L2, x ∈ L) (nd1 : (L1.map (·.p)).Nodup) (dj : ∀ x ∈ L1, x.p ∉ L2.map (·.p)) : Own K B (absorb M L2 H) L1 H := by
  refine ⟨w.b, fun b u e => ?_, fun b => ?_, fun x hx => ?_, nd1⟩
  · by_cases hb : b ∈ L2.map (·.p)
    · unfold absorb at e; rw [if_pos hb] at e; exact e
    · rw [absorb_out hb] at e; exact w.m b u e
  · by_cases hb : b ∈ L2.map (·.p)
    · left
      obtain ⟨x, hx, rfl⟩ := List.mem_map.mp hb
      exact (w.l x (h2 x hx)).2.1
    · rw [absorb_out hb]; exact w.bm b
  · obtain ⟨a1, a2, a3⟩ := w.l x (h1 x hx)
    refine ⟨a1, a2, ?_⟩
    rw [absorb_out (dj x hx)]; exact a3
/-- it comes back changed -/
theorem Own.back {L1' L2 : List Cell} (w : Own K B M L H) (h2 : ∀ x ∈ L2, x ∈ L) (nd2 : (L2.map (·.p)).Nodup) (e : Ex B B') (w' : Own K B' (absorb M L2 H) L1' H') (dj : ∀ x ∈ L1', x.p ∉ L2.map (·.p)) : Own K B' M (L1' ++ L2) H' := by
  have inL : ∀ x ∈ L2, ∃ o, H x.p = some o ∧ H' x.p = some o ∧ x.c.is K B o x.a := fun x hx => by
    obtain ⟨⟨o, a1, a2⟩, _⟩ := w.l x (h2 x hx)
    exact ⟨o, a1, w'.m x.p o (by rw [absorb_in hx]; exact a1), a2⟩
  have Min : ∀ b u, M b = some u → b ∉ L2.map (·.p) := fun b u hm hb => by
    obtain ⟨x, hx, rfl⟩ := List.mem_map.mp hb
    rw [(w.l x (h2 x hx)).2.2] at hm
    cases hm
  refine ⟨w'.b, fun b u hm => w'.m b u (by rw [absorb_out (Min b u hm)]; exact hm), fun b => ?_, fun x hx => ?_, ?_⟩
  · rcases w'.bm b with h | h
    · exact .inl h
    · right
      by_cases hb : b ∈ L2.map (·.p)
      · obtain ⟨x, hx, rfl⟩ := List.mem_map.mp hb
        exact (w.l x (h2 x hx)).2.2
      · rw [absorb_out hb] at h; exact h
  · rcases List.mem_append.mp hx with hx | hx
    · obtain ⟨a1, a2, a3⟩ := w'.l x hx
      refine ⟨a1, a2, ?_⟩
      rw [absorb_out (dj x hx)] at a3; exact a3
    · obtain ⟨o, a1, a2, a3⟩ := inL x hx
      refine ⟨⟨o, a2, x.c.mono e a3⟩, ?_, (w.l x (h2 x hx)).2.2⟩
      rcases w'.bm x.p with h | h
      · exact h
      · rw [absorb_in hx, a1] at h; cases h
  · rw [List.map_append, List.nodup_append]
    refine ⟨w'.nd, nd2, fun a ha b hb hab => ?_⟩
    obtain ⟨x, hx, rfl⟩ := List.mem_map.mp ha
    exact dj x hx (by rw [hab]; exact hb)
end
end L3

namespace L3
open PySem L2
open Evl (Ex ex_rd ex_l ex_t sq_of st_of fresh_back)

/-! ### what an expression gives -/
def EV (K : Fg) (M : Hp) {α : Type} (te : TE) (σ : St) (B : Hp) (L : List Cell) (r : Rep α) (a : α) (L' : List Cell) : Prop :=
  ∀ B1 H, Ex B B1 → Own K B1 M L H → ∀ Q : VK, (∀ v B2 H2, Ex B1 B2 → Own K B2 M L' H2 → r.is K B2 v a → Q v H2) → te σ H Q
/-- a new list that may change -/
def EVL (K : Fg) (M : Hp) {α : Type} (te : TE) (σ : St) (B : Hp) (L : List Cell) (r : Rep α) (as : List α) (L' : List Cell) : Prop :=
  ∀ B1 H, Ex B B1 → Own K B1 M L H → ∀ Q : VK, (∀ p B2 H2, Ex B1 B2 → Own K B2 M (⟨p, cLst r, as⟩ :: L') H2 → Q (.ref p) H2) → te σ H Q
def ET (K : Fg) (M : Hp) (tt : TT) (σ : St) (B : Hp) (L : List Cell) (b : Bool) (L' : List Cell) : Prop :=
  ∀ B1 H, Ex B B1 → Own K B1 M L H → ∀ Q : Bool → Hp → Prop, (∀ B2 H2, Ex B1 B2 → Own K B2 M L' H2 → Q b H2) → tt σ H Q
structure Arg : Type 1 where
  {α : Type}
  r : Rep α
  a : α
def Arg.is (K : Fg) (B : Hp) (v : V) (x : Arg) : Prop := x.r.is K B v x.a
def ArgsIs (K : Fg) (B : Hp) : List V → List Arg → Prop
  | [], [] => True
  | v :: vs, a :: as => a.is K B v ∧ ArgsIs K B vs as
  | _, _ => False
theorem args_mono {K : Fg} {B B' : Hp} (e : Ex B B') : ∀ {vs : List V} {as : List Arg}, ArgsIs K B vs as → ArgsIs K B' vs as
  | [], [], _ => trivial
  | _ :: _, a :: _, h => ⟨a.r.mono e h.1, args_mono e h.2⟩
  | [], _ :: _, h => h
  | _ :: _, [], h => h
def EA (K : Fg) (M : Hp) (ta : TA) (σ : St) (B : Hp) (L : List Cell) (as : List Arg) (L' : List Cell) : Prop :=
  ∀ B1 H, Ex B B1 → Own K B1 M L H → ∀ Q : List V → Hp → Prop, (∀ vs B2 H2, Ex B1 B2 → Own K B2 M L' H2 → ArgsIs K B2 vs as → Q vs H2) → ta σ H Q

/-! ### partial operations of the mirrors -/
theorem bindS {α β : Type} {o : Option α} {f : α → Option β} {b : β} (h : Option.bind o f = some b) : ∃ a, o = some a ∧ f a = some b := by
  cases o with
  | none => cases h
  | some a => exact ⟨a, rfl, h⟩
def CMulX (i j : Int) : Prop := ((-(2 ^ 64) < i ∧ i < 2 ^ 64) ∨ (-(2 ^ 64) < j ∧ j < 2 ^ 64)) ∨ i.natAbs.log2 + j.natAbs.log2 < 1000000
instance (i j : Int) : Decidable (CMulX i j) := by unfold CMulX; infer_instance
theorem op_mulX {X : Cx} : OpR X (binaryOp .Mult) (rI CMulX fun i j => .int (i * j)) := opI fun _ _ _ _ _ _ _ hc q => PyProof.Rows.mul_int q (Or.elim hc CMul.ok CMulW.ok)
def mulI (i j : Int) : Option Int := if CMulX i j then some (i * j) else none
def divI (i j : Int) : Option Int := if 0 < j ∧ j.natAbs.log2 < 9000 then some (i / j) else none
def modI (i j : Int) : Option Int := if 0 < j then some (i % j) else none
def powI (i j : Int) : Option Int := if 0 ≤ j ∧ j ≤ 1000000 ∧ i.natAbs < 2 ^ 64 then some (i ^ j.toNat) else none
def ixL {α : Type} (xs : List α) (i : Int) : Option α := atI xs i
def room (n : Nat) : Option Unit := if n < sizeLine then some () else none
theorem mulI_some {i j k : Int} (h : mulI i j = some k) : CMulX i j ∧ k = i * j := by
  unfold mulI at h
  split at h
  · rename_i hc; exact ⟨hc, (Option.some.inj h).symm⟩
  · cases h
theorem divI_some {i j k : Int} (h : divI i j = some k) : CDivW i j ∧ k = i / j := by
  unfold divI at h
  split at h
  · rename_i hc; exact ⟨hc, (Option.some.inj h).symm⟩
  · cases h
theorem modI_some {i j k : Int} (h : modI i j = some k) : 0 < j ∧ k = i % j := by
  unfold modI at h
  split at h
  · rename_i hc; exact ⟨hc, (Option.some.inj h).symm⟩
  · cases h
theorem powI_some {i j k : Int} (h : powI i j = some k) : CPow i j ∧ k = i ^ j.toNat := by
  unfold powI at h
  split at h
  · rename_i hc; exact ⟨hc, (Option.some.inj h).symm⟩
  · cases h
theorem room_some {n : Nat} {u : Unit} (h : room n = some u) : n < sizeLine := by
  unfold room at h
  split at h
  · rename_i hc; exact hc
  · cases h
/-- an index in the mirror's list is one in the heap's -/
theorem atI_paired {α : Type} {F : V → α → Prop} {xs : List V} {as : List α} {i : Int} {a : α} (h : Paired F xs as) (e : atI as i = some a) : ∃ x, atI xs i = some x ∧ F x a := by
  unfold atI at e ⊢
  rw [paired_len h]
  revert e
  cases ixN as.length i with
  | none => intro e; simp at e
  | some j => intro e; exact paired_get h (by simpa using e)

section
variable {K : Fg} {M : Hp} {σ : St} {B : Hp} {L L1 L2 L' : List Cell} {α β γ δ : Type} {r : Rep α} {s : Rep β} {t : Rep γ} {ta tb tc te : TE} {tt tu : TT} {tA : TA} {i j k : Int} {b c : Bool}
/-! ### expressions -/
theorem ev_var {n : Nat} {v : V} {a : α} (h : σ[n]? = some (some v)) (hr : r.is K B v a) : EV K M (tVar n) σ B L r a L := fun B1 H e w Q q => ⟨v, h, q v B1 H (Ex.refl _) w (r.mono e hr)⟩
theorem ev_varI {n : Nat} {v : V} (h : σ[n]? = some (some v)) (hr : v = .int i) : EV K M (tVar n) σ B L rInt i L := ev_var h hr
theorem ev_varB {n : Nat} {v : V} (h : σ[n]? = some (some v)) (hr : v = .bl b) : EV K M (tVar n) σ B L rBool b L := ev_var h hr
theorem ev_varS {n : Nat} {v : V} {x : Str} (h : σ[n]? = some (some v)) (hr : v = .str x) : EV K M (tVar n) σ B L rStr x L := ev_var h hr
theorem ev_varR {n : Nat} {p : Addr} (h : σ[n]? = some (some (.ref p))) : EV K M (tVar n) σ B L rRef p L := ev_var h rfl
theorem ev_k {v : V} {a : α} (hr : ∀ B, r.is K B v a) : EV K M (tC v) σ B L r a L := fun B1 H e w Q q => q v B1 H (Ex.refl _) w (hr B1)
theorem ev_int : EV K M (tC (.int i)) σ B L rInt i L := ev_k fun _ => rfl
theorem ev_bl : EV K M (tC (.bl b)) σ B L rBool b L := ev_k fun _ => rfl
theorem ev_str {x : Str} : EV K M (tC (.str x)) σ B L rStr x L := ev_k fun _ => rfl
theorem ev_non : EV K M (tC .non) σ B L (rOpt r) none L := ev_k fun _ => rfl
theorem ev_as {a : α} {b : β} (h : EV K M te σ B L r a L') (f : ∀ B v, r.is K B v a → s.is K B v b) : EV K M te σ B L s b L' := fun B1 H e w Q q => h B1 H e w Q fun v B2 H2 e2 w2 h2 => q v B2 H2 e2 w2 (f _ _ h2)
theorem ev_seqT {as : List α} (h : EV K M te σ B L (rTup r) as L') : EV K M te σ B L (rSeq r) as L' := ev_as h fun _ _ => rTup_seq
theorem ev_seqL {as : List α} (h : EV K M te σ B L (rLst r) as L') : EV K M te σ B L (rSeq r) as L' := ev_as h fun _ _ => rLst_seq
theorem ev_sm {a : α} (h : EV K M te σ B L r a L') : EV K M te σ B L (rOpt r) (some a) L' := ev_as h fun _ _ h => h
/-- a new list, left as it is -/
theorem ev_frz {as : List α} (h : EVL K M te σ B L r as L') : EV K M te σ B L (rLst r) as L' := fun B1 H e w Q q => h B1 H e w Q fun p B2 H2 e2 w2 => by
  obtain ⟨o, h1, ⟨xs, h2, h3⟩, h4, w3⟩ := w2.freeze (i := 0) rfl
  have h4 : B2 p = none := h4
  have e3 : Ex B2 (upd B2 p o) := Ex.new h4
  refine q _ (upd B2 p o) H2 (e2.trans e3) w3 ⟨p, xs, rfl, .inl (.inl ?_), paired_mono e3 h3⟩
  rw [upd_same, h2]
/-- two values, one operation -/
theorem ev_op {R : R2} {a : α} {b : β} {c : γ} (ha : EV K M ta σ B L r a L1) (hb : EV K M tb σ B L1 s b L2)
    (h : ∀ B1 H1 x y (Q : VK), Own K B1 M L2 H1 → r.is K B1 x a → s.is K B1 y b → (∀ v, t.is K B1 v c → Q v H1) → R x y H1 Q) : EV K M (tOp R ta tb) σ B L t c L2 := fun B1 H e w Q q =>
  ha B1 H e w _ fun x B2 H2 e2 w2 hx => hb B2 H2 (e.trans e2) w2 _ fun y B3 H3 e3 w3 hy => h B3 H3 x y Q w3 (r.mono e3 hx) hy fun v hv => q v B3 H3 (e2.trans e3) w3 hv
theorem ev_un {R : V → Hp → VK → Prop} {a : α} {c : γ} (ha : EV K M ta σ B L r a L1) (h : ∀ B1 H1 x (Q : VK), Own K B1 M L1 H1 → r.is K B1 x a → (∀ v, t.is K B1 v c → Q v H1) → R x H1 Q) : EV K M (tUn R ta) σ B L t c L1 := fun B1 H e w Q q =>
  ha B1 H e w _ fun x B2 H2 e2 w2 hx => h B2 H2 x Q w2 hx fun v hv => q v B2 H2 e2 w2 hv
theorem ev_I0 {g : Int → Int → Int} (ha : EV K M ta σ B L rInt i L1) (hb : EV K M tb σ B L1 rInt j L2) : EV K M (tOp (rI0 fun i j => .int (g i j)) ta tb) σ B L rInt (g i j) L2 :=
  ev_op ha hb fun _ _ _ _ _ _ hx hy q => ⟨i, j, hx, hy, q _ rfl⟩
theorem ev_B0 {g : Int → Int → Bool} (ha : EV K M ta σ B L rInt i L1) (hb : EV K M tb σ B L1 rInt j L2) : EV K M (tOp (rI0 fun i j => .bl (g i j)) ta tb) σ B L rBool (g i j) L2 :=
  ev_op ha hb fun _ _ _ _ _ _ hx hy q => ⟨i, j, hx, hy, q _ rfl⟩
theorem ev_mul (ha : EV K M ta σ B L rInt i L1) (hb : EV K M tb σ B L1 rInt j L2) (h : mulI i j = some k) : EV K M (tOp (rI CMulX fun i j => .int (i * j)) ta tb) σ B L rInt k L2 :=
  ev_op ha hb fun _ _ _ _ _ _ hx hy q => ⟨i, j, hx, hy, (mulI_some h).1, q _ (by rw [(mulI_some h).2]; rfl)⟩
theorem ev_div (ha : EV K M ta σ B L rInt i L1) (hb : EV K M tb σ B L1 rInt j L2) (h : divI i j = some k) : EV K M (tOp (rI CDivW fun i j => .int (i / j)) ta tb) σ B L rInt k L2 :=
  ev_op ha hb fun _ _ _ _ _ _ hx hy q => ⟨i, j, hx, hy, (divI_some h).1, q _ (by rw [(divI_some h).2]; rfl)⟩
theorem ev_mod (ha : EV K M ta σ B L rInt i L1) (hb : EV K M tb σ B L1 rInt j L2) (h : modI i j = some k) : EV K M (tOp (rI (fun _ j => 0 < j) fun i j => .int (i % j)) ta tb) σ B L rInt k L2 :=
  ev_op ha hb fun _ _ _ _ _ _ hx hy q => ⟨i, j, hx, hy, (modI_some h).1, q _ (by rw [(modI_some h).2]; rfl)⟩
theorem ev_pow (ha : EV K M ta σ B L rInt i L1) (hb : EV K M tb σ B L1 rInt j L2) (h : powI i j = some k) : EV K M (tOp (rI CPow fun i j => .int (i ^ j.toNat)) ta tb) σ B L rInt k L2 :=
  ev_op ha hb fun _ _ _ _ _ _ hx hy q => ⟨i, j, hx, hy, (powI_some h).1, q _ (by rw [(powI_some h).2]; rfl)⟩
theorem ev_neg (ha : EV K M ta σ B L rInt i L1) : EV K M (tUn (rU fun i => .int (-i)) ta) σ B L rInt (-i) L1 := ev_un ha fun _ _ _ _ _ hx q => ⟨i, hx, q _ rfl⟩
theorem ev_eqI (ha : EV K M ta σ B L rInt i L1) (hb : EV K M tb σ B L1 rInt j L2) : EV K M (tOp rEq ta tb) σ B L rBool (decide (i = j)) L2 :=
  ev_op ha hb fun _ _ _ _ _ _ hx hy q => by
    have hx : _ = V.int i := hx
    have hy : _ = V.int j := hy
    subst hx hy
    exact ⟨rfl, q _ (by show V.bl _ = V.bl _; congr 1; simp)⟩
theorem ev_neI (ha : EV K M ta σ B L rInt i L1) (hb : EV K M tb σ B L1 rInt j L2) : EV K M (tOp rNe ta tb) σ B L rBool (!decide (i = j)) L2 :=
  ev_op ha hb fun _ _ _ _ _ _ hx hy q => by
    have hx : _ = V.int i := hx
    have hy : _ = V.int j := hy
    subst hx hy
    exact ⟨rfl, q _ (by show V.bl _ = V.bl _; congr 1; simp)⟩
theorem ev_eqS {x y : Str} (ha : EV K M ta σ B L rStr x L1) (hb : EV K M tb σ B L1 rStr y L2) : EV K M (tOp rEq ta tb) σ B L rBool (decide (x = y)) L2 :=
  ev_op ha hb fun _ _ _ _ _ _ hx hy q => by
    have hx : _ = V.str x := hx
    have hy : _ = V.str y := hy
    subst hx hy
    exact ⟨rfl, q _ (by show V.bl _ = V.bl _; congr 1; simp)⟩
theorem ev_neS {x y : Str} (ha : EV K M ta σ B L rStr x L1) (hb : EV K M tb σ B L1 rStr y L2) : EV K M (tOp rNe ta tb) σ B L rBool (!decide (x = y)) L2 :=
  ev_op ha hb fun _ _ _ _ _ _ hx hy q => by
    have hx : _ = V.str x := hx
    have hy : _ = V.str y := hy
    subst hx hy
    exact ⟨rfl, q _ (by show V.bl _ = V.bl _; congr 1; simp)⟩
theorem ev_eqB {x y : Bool} (ha : EV K M ta σ B L rBool x L1) (hb : EV K M tb σ B L1 rBool y L2) : EV K M (tOp rEq ta tb) σ B L rBool (decide (x = y)) L2 :=
  ev_op ha hb fun _ _ _ _ _ _ hx hy q => by
    have hx : _ = V.bl x := hx
    have hy : _ = V.bl y := hy
    subst hx hy
    exact ⟨rfl, q _ (by show V.bl _ = V.bl _; congr 1; simp)⟩
/-- x is None -/
theorem ev_isN {a : Option α} (ha : EV K M ta σ B L (rOpt r) a L1) (hn : ∀ B v x, r.is K B v x → v ≠ .non) : EV K M (tIsN ta) σ B L rBool a.isNone L1 := fun B1 H e w Q q =>
  ha B1 H e w _ fun x B2 H2 e2 w2 hx => q _ B2 H2 e2 w2 (by
    show V.bl _ = V.bl _
    congr 1
    cases a with
    | none => exact decide_eq_true (show x = V.non from hx)
    | some a => exact decide_eq_false (hn _ _ _ hx))
theorem ev_notN {a : Option α} (ha : EV K M ta σ B L (rOpt r) a L1) (hn : ∀ B v x, r.is K B v x → v ≠ .non) : EV K M (tNotN ta) σ B L rBool a.isSome L1 := fun B1 H e w Q q =>
  ha B1 H e w _ fun x B2 H2 e2 w2 hx => q _ B2 H2 e2 w2 (by
    show V.bl _ = V.bl _
    congr 1
    cases a with
    | none => rw [decide_eq_true (show x = V.non from hx)]; rfl
    | some a => rw [decide_eq_false (hn _ _ _ hx)]; rfl)
/-! ### tuples and lists -/
theorem ea_nil : EA K M tNil σ B L [] L := fun B1 H e w Q q => q [] B1 H (Ex.refl _) w trivial
theorem ea_cons {a : α} {as : List Arg} (ha : EV K M ta σ B L r a L1) (hr : EA K M tA σ B L1 as L2) : EA K M (tCons ta tA) σ B L (⟨r, a⟩ :: as) L2 := fun B1 H e w Q q =>
  ha B1 H e w _ fun x B2 H2 e2 w2 hx => hr B2 H2 (e.trans e2) w2 _ fun vs B3 H3 e3 w3 hvs => q (x :: vs) B3 H3 (e2.trans e3) w3 ⟨r.mono e3 hx, hvs⟩
theorem ev_T2 {a : α} {b : β} (h : EA K M tA σ B L [⟨r, a⟩, ⟨s, b⟩] L') : EV K M (tTup tA) σ B L (rT2 r s) (a, b) L' := fun B1 H e w Q q =>
  h B1 H e w _ fun vs B2 H2 e2 w2 hv => by
    match vs, hv with
    | [_, _], ⟨h1, h2, _⟩ => exact ⟨by show 2 ≤ sizeLine; decide, fun p hp => q _ (upd B2 p _) _ (e2.trans (Ex.new (fresh_back w2.b hp))) (w2.ext hp) ⟨p, _, _, rfl, st_of upd_same, r.mono (Ex.new (fresh_back w2.b hp)) h1, s.mono (Ex.new (fresh_back w2.b hp)) h2⟩⟩
theorem ev_T3 {a : α} {b : β} {c : γ} (h : EA K M tA σ B L [⟨r, a⟩, ⟨s, b⟩, ⟨t, c⟩] L') : EV K M (tTup tA) σ B L (rT3 r s t) (a, b, c) L' := fun B1 H e w Q q =>
  h B1 H e w _ fun vs B2 H2 e2 w2 hv => by
    match vs, hv with
    | [_, _, _], ⟨h1, h2, h3, _⟩ => exact ⟨by show 3 ≤ sizeLine; decide, fun p hp => q _ (upd B2 p _) _ (e2.trans (Ex.new (fresh_back w2.b hp))) (w2.ext hp) ⟨p, _, _, _, rfl, st_of upd_same, r.mono (Ex.new (fresh_back w2.b hp)) h1, s.mono (Ex.new (fresh_back w2.b hp)) h2, t.mono (Ex.new (fresh_back w2.b hp)) h3⟩⟩
theorem homog : ∀ {as : List α} {vs : List V}, ArgsIs K B vs (as.map (Arg.mk r)) → Paired (r.is K B) vs as
  | [], [], _ => .nil
  | _ :: _, _ :: _, h => .cons h.1 (homog h.2)
  | [], _ :: _, h => h.elim
  | _ :: _, [], h => h.elim
theorem ev_tup (as : List α) (h : EA K M tA σ B L (as.map (Arg.mk r)) L') (hl : Nat.ble as.length 100000 = true := by rfl) : EV K M (tTup tA) σ B L (rTup r) as L' := fun B1 H e w Q q =>
  h B1 H e w _ fun vs B2 H2 e2 w2 hv => ⟨by rw [paired_len (homog hv)]; exact Evl.sz_of (Nat.le_of_ble_eq_true hl), fun p hp => q _ (upd B2 p _) _ (e2.trans (Ex.new (fresh_back w2.b hp))) (w2.ext hp) ⟨p, _, rfl, st_of upd_same, paired_mono (Ex.new (fresh_back w2.b hp)) (homog hv)⟩⟩
theorem el_lst (as : List α) (h : EA K M tA σ B L (as.map (Arg.mk r)) L') (hl : Nat.ble as.length 100000 = true := by rfl) : EVL K M (tLst tA) σ B L r as L' := fun B1 H e w Q q =>
  h B1 H e w _ fun vs B2 H2 e2 w2 hv => ⟨by rw [paired_len (homog hv)]; exact Evl.sz_of (Nat.le_of_ble_eq_true hl), fun p hp => q p B2 _ e2 (w2.new hp ⟨vs, rfl, homog hv⟩)⟩
theorem ev_fst {a : α × β} (ha : EV K M ta σ B L (rT2 r s) a L1) : EV K M (tOp (rIx K) ta (tC (.int 0))) σ B L r a.1 L1 := fun B1 H e w Q q =>
  ha B1 H e w _ fun x B2 H2 e2 w2 hx => by
    obtain ⟨p, x0, x1, rfl, hs, h0, h1⟩ := hx
    exact .inr (.inl ⟨p, _, 0, x0, rfl, rfl, ex_t w2.b hs, rfl, q _ B2 H2 e2 w2 h0⟩)
theorem ev_snd {a : α × β} (ha : EV K M ta σ B L (rT2 r s) a L1) : EV K M (tOp (rIx K) ta (tC (.int 1))) σ B L s a.2 L1 := fun B1 H e w Q q =>
  ha B1 H e w _ fun x B2 H2 e2 w2 hx => by
    obtain ⟨p, x0, x1, rfl, hs, h0, h1⟩ := hx
    exact .inr (.inl ⟨p, _, 1, x1, rfl, rfl, ex_t w2.b hs, rfl, q _ B2 H2 e2 w2 h1⟩)
theorem ev_ix {xs : List α} {a : α} (ha : EV K M ta σ B L (rSeq r) xs L1) (hb : EV K M tb σ B L1 rInt i L2) (h : ixL xs i = some a) : EV K M (tOp (rIx K) ta tb) σ B L r a L2 :=
  ev_op ha hb fun B1 H1 x y Q w hx hy q => by
    obtain ⟨p, vs, rfl, hs, hv⟩ := hx
    obtain ⟨x, e, hx⟩ := atI_paired hv h
    rcases hs with hs | hs
    · exact .inl ⟨p, vs, i, x, rfl, hy, ex_l w.b hs, e, q _ hx⟩
    · exact .inr (.inl ⟨p, vs, i, x, rfl, hy, ex_t w.b hs, e, q _ hx⟩)
/-- of a list that may change -/
theorem ev_ixC {n : Nat} {p : Addr} {xs : List α} {a : α} (ha : EV K M ta σ B L rRef p L1) (hb : EV K M tb σ B L1 rInt i L2) (hc : L2[n]? = some ⟨p, cLst r, xs⟩) (h : ixL xs i = some a) : EV K M (tOp (rIx K) ta tb) σ B L r a L2 :=
  ev_op ha hb fun B1 H1 x y Q w hx hy q => by
    obtain ⟨⟨o, h1, vs, h2, hv⟩, _⟩ := w.at hc
    obtain ⟨x, e, hx'⟩ := atI_paired hv h
    exact .inl ⟨p, vs, i, x, hx, hy, sq_of (by rw [h1, h2]), e, q _ hx'⟩
def rLen (K : Fg) : List V → Hp → VK → Prop := fun xs H Q => ∃ p ys, xs = [.ref p] ∧ (SqL K H p ys ∨ SqT K H p ys) ∧ Q (.int ys.length) H
theorem ev_cb {R : List V → Hp → VK → Prop} {as : List Arg} {c : γ} (ha : EA K M tA σ B L as L1) (h : ∀ B1 H1 vs (Q : VK), Own K B1 M L1 H1 → ArgsIs K B1 vs as → (∀ v, t.is K B1 v c → Q v H1) → R vs H1 Q) : EV K M (tCB R tA) σ B L t c L1 := fun B1 H e w Q q =>
  ha B1 H e w _ fun vs B2 H2 e2 w2 hv => h B2 H2 vs Q w2 hv fun v hr => q v B2 H2 e2 w2 hr
theorem ev_cb1 {R : List V → Hp → VK → Prop} {a : α} {c : γ} (ha : EV K M ta σ B L r a L1) (h : ∀ B1 H1 x (Q : VK), Own K B1 M L1 H1 → r.is K B1 x a → (∀ v, t.is K B1 v c → Q v H1) → R [x] H1 Q) : EV K M (tCB R (tCons ta tNil)) σ B L t c L1 := fun B1 H e w Q q =>
  ha B1 H e w _ fun v B2 H2 e2 w2 hv => h B2 H2 v Q w2 hv fun v hr => q v B2 H2 e2 w2 hr
theorem ev_len {xs : List α} (ha : EV K M ta σ B L (rSeq r) xs L1) : EV K M (tCB (rLen K) (tCons ta tNil)) σ B L rInt (xs.length : Int) L1 :=
  ev_cb1 ha fun B1 H1 x Q w hx q => by
    obtain ⟨p, vs, rfl, hs, hv⟩ := hx
    exact ⟨p, vs, rfl, hs.imp (ex_l w.b) (ex_t w.b), q _ (by rw [paired_len hv]; rfl)⟩
theorem ev_lenC {n : Nat} {p : Addr} {xs : List α} (ha : EV K M ta σ B L rRef p L1) (hc : L1[n]? = some ⟨p, cLst r, xs⟩) : EV K M (tCB (rLen K) (tCons ta tNil)) σ B L rInt (xs.length : Int) L1 :=
  ev_cb1 ha fun B1 H1 x Q w hx q => by
    obtain ⟨⟨o, h1, vs, h2, hv⟩, _⟩ := w.at hc
    have h1 : H1 p = some o := h1
    exact ⟨p, vs, congrArg (fun z => [z]) hx, .inl (sq_of (by rw [h1, h2])), q _ (by rw [paired_len hv]; rfl)⟩
theorem ev_abs (ha : EV K M ta σ B L rInt i L1) : EV K M (tCB (fun xs H Q => ∃ i, xs = [.int i] ∧ Q (.int (if i < 0 then -i else i)) H) (tCons ta tNil)) σ B L rInt (if i < 0 then -i else i) L1 :=
  ev_cb1 ha fun B1 H1 x Q w hx q => ⟨i, congrArg (fun z => [z]) hx, q _ rfl⟩
def rInt1 : List V → Hp → VK → Prop := fun xs H Q => (∃ i, xs = [.int i] ∧ Q (.int i) H) ∨ ∃ k, xs = [.bl k] ∧ Q (.int (if k then 1 else 0)) H
theorem ev_intI (ha : EV K M ta σ B L rInt i L1) : EV K M (tCB rInt1 (tCons ta tNil)) σ B L rInt i L1 := ev_cb1 ha fun B1 H1 x Q w hx q => .inl ⟨i, congrArg (fun z => [z]) hx, q _ rfl⟩
theorem ev_intB (ha : EV K M ta σ B L rBool b L1) : EV K M (tCB rInt1 (tCons ta tNil)) σ B L rInt (if b then 1 else 0) L1 := ev_cb1 ha fun B1 H1 x Q w hx q => .inr ⟨b, congrArg (fun z => [z]) hx, q _ rfl⟩
theorem ev_gcd (ha : EV K M ta σ B L rInt i L1) (hb : EV K M tb σ B L1 rInt j L2) : EV K M (tCB rGcd (tCons ta (tCons tb tNil))) σ B L rInt ((Nat.gcd i.natAbs j.natAbs : Nat) : Int) L2 :=
  ev_cb (ea_cons ha (ea_cons hb ea_nil)) fun B1 H1 vs Q w hv q => by
    match vs, hv with
    | [_, _], ⟨h1, h2, _⟩ => exact ⟨i, j, by rw [show _ = V.int i from h1, show _ = V.int j from h2], q _ rfl⟩
/-! ### tests, and, or, not -/
theorem et_test (h : EV K M te σ B L rBool b L') : ET K M (tTest te) σ B L b L' := fun B1 H e w Q q => h B1 H e w _ fun v B2 H2 e2 w2 hv => ⟨b, hv, q B2 H2 e2 w2⟩
theorem et_B (h : EV K M te σ B L rBool b L') : ET K M (tB te) σ B L b L' := fun B1 H e w Q q => h B1 H e w _ fun v B2 H2 e2 w2 hv => ⟨b, hv, q B2 H2 e2 w2⟩
theorem et_not (h : ET K M tt σ B L b L') : ET K M (tNot tt) σ B L (!b) L' := fun B1 H e w Q q => h B1 H e w _ fun B2 H2 e2 w2 => q B2 H2 e2 w2
theorem et_and {b c : Bool} (h1 : ET K M tt σ B L b L) (h2 : b = true → ET K M tu σ B L c L) : ET K M (tAnd tt tu) σ B L (b && c) L := fun B1 H e w Q q => h1 B1 H e w _ fun B2 H2 e2 w2 => by
  cases b with
  | true => exact h2 rfl B2 H2 (e.trans e2) w2 Q fun B3 H3 e3 w3 => q B3 H3 (e2.trans e3) w3
  | false => exact q B2 H2 e2 w2
theorem et_or {b c : Bool} (h1 : ET K M tt σ B L b L) (h2 : b = false → ET K M tu σ B L c L) : ET K M (tOr tt tu) σ B L (b || c) L := fun B1 H e w Q q => h1 B1 H e w _ fun B2 H2 e2 w2 => by
  cases b with
  | true => exact q B2 H2 e2 w2
  | false => exact h2 rfl B2 H2 (e.trans e2) w2 Q fun B3 H3 e3 w3 => q B3 H3 (e2.trans e3) w3
/-- where the right side changes things -/
theorem et_and' {b d : Bool} (h1 : ET K M tt σ B L b L1) (h2 : b = true → ET K M tu σ B L1 d L2) (h3 : b = false → d = false ∧ L2 = L1) : ET K M (tAnd tt tu) σ B L d L2 := fun B1 H e w Q q => h1 B1 H e w _ fun B2 H2 e2 w2 => by
  cases b with
  | true => exact h2 rfl B2 H2 (e.trans e2) w2 Q fun B3 H3 e3 w3 => q B3 H3 (e2.trans e3) w3
  | false => obtain ⟨rfl, rfl⟩ := h3 rfl; exact q B2 H2 e2 w2
theorem et_or' {b d : Bool} (h1 : ET K M tt σ B L b L1) (h2 : b = false → ET K M tu σ B L1 d L2) (h3 : b = true → d = true ∧ L2 = L1) : ET K M (tOr tt tu) σ B L d L2 := fun B1 H e w Q q => h1 B1 H e w _ fun B2 H2 e2 w2 => by
  cases b with
  | true => obtain ⟨rfl, rfl⟩ := h3 rfl; exact q B2 H2 e2 w2
  | false => exact h2 rfl B2 H2 (e.trans e2) w2 Q fun B3 H3 e3 w3 => q B3 H3 (e2.trans e3) w3
theorem ev_andV {b d : Bool} (h1 : EV K M ta σ B L rBool b L1) (h2 : b = true → EV K M tb σ B L1 rBool d L2) (h3 : b = false → d = false ∧ L2 = L1) : EV K M (tAndV ta tb) σ B L rBool d L2 := fun B1 H e w Q q => h1 B1 H e w _ fun x B2 H2 e2 w2 hx => ⟨b, hx, by
  cases b with
  | true => exact h2 rfl B2 H2 (e.trans e2) w2 Q fun v B3 H3 e3 w3 hv => q v B3 H3 (e2.trans e3) w3 hv
  | false => obtain ⟨rfl, rfl⟩ := h3 rfl; exact q _ B2 H2 e2 w2 rfl⟩
theorem ev_orV {b d : Bool} (h1 : EV K M ta σ B L rBool b L1) (h2 : b = false → EV K M tb σ B L1 rBool d L2) (h3 : b = true → d = true ∧ L2 = L1) : EV K M (tOrV ta tb) σ B L rBool d L2 := fun B1 H e w Q q => h1 B1 H e w _ fun x B2 H2 e2 w2 hx => ⟨b, hx, by
  cases b with
  | true => obtain ⟨rfl, rfl⟩ := h3 rfl; exact q _ B2 H2 e2 w2 rfl
  | false => exact h2 rfl B2 H2 (e.trans e2) w2 Q fun v B3 H3 e3 w3 hv => q v B3 H3 (e2.trans e3) w3 hv⟩
theorem ev_notV (h : EV K M ta σ B L rBool b L1) : EV K M (tNotV ta) σ B L rBool (!b) L1 := fun B1 H e w Q q => h B1 H e w _ fun x B2 H2 e2 w2 hx => ⟨b, hx, q _ B2 H2 e2 w2 rfl⟩
theorem ev_if {a : α} (h : ET K M tt σ B L b L1) (h1 : b = true → EV K M ta σ B L1 r a L2) (h2 : b = false → EV K M tb σ B L1 r a L2) : EV K M (tIf tt ta tb) σ B L r a L2 := fun B1 H e w Q q => h B1 H e w _ fun B2 H2 e2 w2 => by
  cases b with
  | true => exact h1 rfl B2 H2 (e.trans e2) w2 Q fun v B3 H3 e3 w3 hv => q v B3 H3 (e2.trans e3) w3 hv
  | false => exact h2 rfl B2 H2 (e.trans e2) w2 Q fun v B3 H3 e3 w3 hv => q v B3 H3 (e2.trans e3) w3 hv
end
end L3

namespace L3
open PySem L2
open Evl (Ex ex_rd ex_l ex_t sq_of st_of fresh_back)

/-! ### promises -/
def spV (K : Fg) (C : List Arg → List Cell → Arg → List Cell → Prop) : Sp := fun vs H Q _ => ∃ B M L as r L', Own K B M L H ∧ ArgsIs K B vs as ∧ C as L r L' ∧
  ∀ v B' H', Ex B B' → Own K B' M L' H' → r.is K B' v → Q v H'
theorem args_len {K : Fg} {B : Hp} : ∀ {vs : List V} {as : List Arg}, ArgsIs K B vs as → vs.length = as.length
  | [], [], _ => rfl
  | _ :: _, _ :: _, h => congrArg (· + 1) (args_len h.2)
  | [], _ :: _, h => h.elim
  | _ :: _, [], h => h.elim
theorem FnScope.of {N ps : List Str} {sc : Scope} (h1 : sc.kind = .function) (h2 : sc.isCoroutine = false) (h3 : sc.isGenerator = false) (h : FnScope N ps sc) : FnScope N ps sc := h

section
variable {K : Fg} {M : Hp} {σ : St} {B : Hp} {L L1 L2 L' : List Cell} {α β γ δ : Type} {r : Rep α} {s : Rep β} {t : Rep γ} {ta tb tc te : TE} {tt tu : TT} {tA : TA} {i j k : Int} {b c : Bool}
theorem nodup_one {x : Cell} : ([x].map (·.p)).Nodup := by simp
/-- a def that changes nothing of ours -/
theorem ev_call {C : List Arg → List Cell → Arg → List Cell → Prop} {E : XK} {as : List Arg} {a : α} (ha : EA K M tA σ B L as L1) (h : C as [] ⟨r, a⟩ []) : EV K M (tCall (spV K C) [] E tA) σ B L r a L1 := fun B1 H e w Q q =>
  ha B1 H e w _ fun vs B2 H2 e2 w2 hv => by
    show spV K C (vs ++ []) H2 Q E
    rw [List.append_nil]
    refine ⟨B2, absorb M L1 H2, [], as, ⟨r, a⟩, [], w2.lend (L1 := []) (L2 := L1) (fun _ h => absurd h (by simp)) (fun _ h => h) (by simp) (fun _ h => absurd h (by simp)), hv, h, fun v B' H' e3 w3 hr => ?_⟩
    exact q v B' H' (e2.trans e3) (w2.back (L1' := []) (fun _ h => h) w2.nd e3 w3 (fun _ h => absurd h (by simp))) hr
theorem erase_mem {x : Cell} {n : Nat} (w : (L.map (·.p)).Nodup) (h : L[n]? = some x) : x.p ∉ (L.eraseIdx n).map (·.p) := fun hm => by
  obtain ⟨y, hy, e⟩ := List.mem_map.mp hm
  obtain ⟨j, hj, hne⟩ := List.mem_eraseIdx_iff_getElem?.mp hy
  exact hj (nodup_at w (by rw [List.getElem?_map, hne]; rfl) (by rw [List.getElem?_map, h]; exact congrArg some e.symm))
theorem set_perm {x x' : Cell} {n : Nat} (h : L[n]? = some x) : ∀ y ∈ L.set n x', y ∈ x' :: L.eraseIdx n := fun y hy => by
  obtain ⟨m, hm⟩ := List.getElem?_of_mem hy
  by_cases e : n = m
  · subst e
    rw [List.getElem?_set_self (List.getElem?_eq_some_iff.mp h).1] at hm
    cases hm
    exact List.mem_cons_self
  · rw [List.getElem?_set_ne e] at hm
    exact List.mem_cons_of_mem _ (List.mem_eraseIdx_iff_getElem?.mpr ⟨m, Ne.symm e, hm⟩)
theorem set_keys {x x' : Cell} {n : Nat} (h : L[n]? = some x) (hp : x'.p = x.p) : (L.set n x').map (·.p) = L.map (·.p) := by
  rw [List.map_set, hp]
  refine List.ext_getElem? fun j => ?_
  by_cases hij : n = j
  · subst hij
    have hl : n < (L.map (·.p)).length := by rw [List.length_map]; exact (List.getElem?_eq_some_iff.mp h).1
    rw [List.getElem?_set_self hl, List.getElem?_map, h]; rfl
  · rw [List.getElem?_set_ne hij]
/-- a def that changes the one at n -/
theorem ev_callC {C : List Arg → List Cell → Arg → List Cell → Prop} {E : XK} {as : List Arg} {a : α} (n : Nat) {x x' : Cell} (ha : EA K M tA σ B L as L1) (hx : L1[n]? = some x) (h : C as [x] ⟨r, a⟩ [x']) (hp : x'.p = x.p) : EV K M (tCall (spV K C) [] E tA) σ B L r a (L1.set n x') := fun B1 H e w Q q =>
  ha B1 H e w _ fun vs B2 H2 e2 w2 hv => by
    show spV K C (vs ++ []) H2 Q E
    rw [List.append_nil]
    have nd := w2.nd
    have hn := erase_mem nd hx
    have sub : ∀ y ∈ L1.eraseIdx n, y ∈ L1 := fun y hy => List.mem_of_mem_eraseIdx hy
    refine ⟨B2, absorb M (L1.eraseIdx n) H2, [x], as, ⟨r, a⟩, [x'], w2.lend (L1 := [x]) (L2 := L1.eraseIdx n) (fun y h => by rw [List.mem_singleton.mp h]; exact List.mem_of_getElem? hx) sub nodup_one (fun y h => by rw [List.mem_singleton.mp h]; exact hn), hv, h, fun v B' H' e3 w3 hr => ?_⟩
    have w4 : Own K B' M ([x'] ++ L1.eraseIdx n) H' := w2.back (L1' := [x']) sub (nd.sublist ((List.eraseIdx_sublist L1 n).map _)) e3 w3 (fun y h => by rw [List.mem_singleton.mp h, hp]; exact hn)
    exact q v B' H' (e2.trans e3) (w4.perm (set_perm hx) (by rw [set_keys hx hp]; exact nd)) hr

/-! ### statements -/
variable {D : Ends} {tz t1 t2 : TS} {H : Hp}
theorem q_asg {n : Nat} {a : α} (w : Own K B M L H) (h : EV K M te σ B L r a L') (q : ∀ v B' H', Ex B B' → Own K B' M L' H' → r.is K B' v a → tz D (σ.set n (some v)) H') : tSeq (tAsg te (gName n)) tz D σ H := h B H (Ex.refl _) w _ q
theorem q_asgL {n : Nat} {as : List α} (w : Own K B M L H) (h : EVL K M te σ B L r as L') (q : ∀ p B' H', Ex B B' → Own K B' M (⟨p, cLst r, as⟩ :: L') H' → tz D (σ.set n (some (.ref p))) H') : tSeq (tAsg te (gName n)) tz D σ H := h B H (Ex.refl _) w _ q
theorem q_drop {a : α} (w : Own K B M L H) (h : EV K M te σ B L r a L') (q : ∀ B' H', Ex B B' → Own K B' M L' H' → tz D σ H') : tSeq (tDrop te) tz D σ H := h B H (Ex.refl _) w _ fun _ B' H' e w' _ => q B' H' e w'
theorem q_ret {a : α} (w : Own K B M L H) (h : EV K M te σ B L r a L') (q : ∀ v B' H', Ex B B' → Own K B' M L' H' → r.is K B' v a → D.rt v H') : tSeq (tRet te) tz D σ H := h B H (Ex.refl _) w _ q
theorem q_retN (w : Own K B M L H) (q : D.rt .non H) : tSeq tRetN tz D σ H := q
/-- a list of ours goes out -/
theorem q_retC {n m : Nat} {p : Addr} {as : List α} (w : Own K B M L H) (hs : σ[m]? = some (some (.ref p))) (hc : L[n]? = some ⟨p, cLst r, as⟩) (q : ∀ v B', Ex B B' → Own K B' M (L.eraseIdx n) H → (rLst r).is K B' v as → D.rt v H) : tSeq (tRet (tVar m)) tz D σ H := by
  obtain ⟨o, h1, ⟨xs, h2, h3⟩, h4, w'⟩ := w.freeze hc
  have h4 : B p = none := h4
  refine ⟨_, hs, q _ _ (Ex.new h4) w' ⟨p, xs, rfl, sq_of ?_, paired_mono (Ex.new h4) h3⟩⟩
  show upd B p o p = _
  rw [upd_same, h2]
theorem q_if (w : Own K B M L H) (h : ET K M tt σ B L b L') (h1 : b = true → ∀ B' H', Ex B B' → Own K B' M L' H' → t1 { D with nx := tz D } σ H') (h2 : b = false → ∀ B' H', Ex B B' → Own K B' M L' H' → t2 { D with nx := tz D } σ H') : tSeq (tIfS tt t1 t2) tz D σ H :=
  h B H (Ex.refl _) w _ fun B' H' e w' => by
    cases b with
    | true => exact h1 rfl B' H' e w'
    | false => exact h2 rfl B' H' e w'
theorem q_ifc (w : Own K B M L H) (h : ET K M tt σ B L b L') (h1 : b = true → ∀ B' H', Ex B B' → Own K B' M L' H' → t1 D σ H') (h2 : b = false → ∀ B' H', Ex B B' → Own K B' M L' H' → t2 D σ H') : tIfS tt t1 t2 D σ H :=
  h B H (Ex.refl _) w _ fun B' H' e w' => by
    cases b with
    | true => exact h1 rfl B' H' e w'
    | false => exact h2 rfl B' H' e w'
theorem q_cut {t : TS} (Mid : St → Hp → Prop) (h : t { D with nx := Mid } σ H) (k : ∀ σ' H', Mid σ' H' → tz D σ' H') : Evl.tCut t tz D σ H := ⟨Mid, h, k⟩
theorem q_app {n m : Nat} {p : Addr} {as : List α} {a : α} (w : Own K B M L H) (hs : σ[m]? = some (some (.ref p))) (h : EV K M te σ B L r a L') (hc : L'[n]? = some ⟨p, cLst r, as⟩) (hc0 : ∃ n0 : Nat, ∃ a0 : List α, L[n0]? = some ⟨p, cLst r, a0⟩) (hr : room as.length = some ())
    (q : ∀ B' H', Ex B B' → Own K B' M (L'.set n ⟨p, cLst r, as ++ [a]⟩) H' → tz D σ H') : tSeq (tDrop (tBM K "list" rAppend (tVar m) (tCons te tNil))) tz D σ H := by
  obtain ⟨n0, a0, hc0⟩ := hc0
  obtain ⟨⟨o, h1, ys, h2, h3⟩, _⟩ := w.at hc0
  have h1 : H p = some o := h1
  refine ⟨_, hs, .inl ⟨rfl, _, sq_of (xs := ys) (by rw [h1, h2])⟩, h B H (Ex.refl _) w _ fun v B' H' e w' hv => ?_⟩
  obtain ⟨⟨o', g1, xs, g2, g3⟩, _⟩ := w'.at hc
  have g1 : H' p = some o' := g1
  exact ⟨p, xs, v, rfl, rfl, by rw [g1, g2], by rw [paired_len g3]; exact room_some hr, q B' _ e (w'.set hc ⟨_, rfl, paired_app g3 (.cons hv .nil)⟩)⟩
/-- l[i] = e -/
theorem q_setC {n m : Nat} {p : Addr} {as : List α} {a : α} {l : Nat} (w : Own K B M L H) (h : EV K M te σ B L r a L1) (hs : σ[m]? = some (some (.ref p))) (hb : EV K M tb σ B L1 rInt i L2) (hc : L2[n]? = some ⟨p, cLst r, as⟩) (hi : ixN as.length i = some l)
    (q : ∀ B' H', Ex B B' → Own K B' M (L2.set n ⟨p, cLst r, as.set l a⟩) H' → tz D σ H') : tSeq (tAsg te (gSub (tVar m) tb rSetL)) tz D σ H :=
  h B H (Ex.refl _) w _ fun v B1 H1 e1 w1 hv => ⟨_, hs, hb B1 H1 e1 w1 _ fun y B2 H2 e2 w2 hy => by
    obtain ⟨⟨o', g1, xs, g2, g3⟩, _⟩ := w2.at hc
    have g1 : H2 p = some o' := g1
    refine ⟨p, xs, i, l, rfl, hy, by rw [g1, g2], by rw [paired_len g3]; exact hi, q B2 _ (e1.trans e2) (w2.set hc ⟨_, rfl, paired_set (r.mono e2 hv) l g3⟩)⟩⟩
/-- l[1] = e of a list [u, v] -/
theorem q_set1 {n m : Nat} {p : Addr} {a : α × β} {x : β} (w : Own K B M L H) (h : EV K M te σ B L s x L1) (hs : σ[m]? = some (some (.ref p))) (hc : L1[n]? = some ⟨p, cL2 r s, a⟩)
    (q : ∀ B' H', Ex B B' → Own K B' M (L1.set n ⟨p, cL2 r s, (a.1, x)⟩) H' → tz D σ H') : tSeq (tAsg te (gSub (tVar m) (tC (.int 1)) rSetL)) tz D σ H :=
  h B H (Ex.refl _) w _ fun v B1 H1 e1 w1 hv => ⟨_, hs, by
    obtain ⟨⟨o', g1, x0, x1, g2, g3, g4⟩, _⟩ := w1.at hc
    have g1 : H1 p = some o' := g1
    exact ⟨p, [x0, x1], 1, 1, rfl, rfl, by rw [g1, g2], rfl, q B1 _ e1 (w1.set hc ⟨x0, v, rfl, g3, hv⟩)⟩⟩
theorem ev_l2fst {n m : Nat} {p : Addr} {a : α × β} (hs : σ[m]? = some (some (.ref p))) (hc : L[n]? = some ⟨p, cL2 r s, a⟩) : EV K M (tOp (rIx K) (tVar m) (tC (.int 0))) σ B L r a.1 L := fun B1 H e w Q q => by
  obtain ⟨⟨o', g1, x0, x1, g2, g3, g4⟩, _⟩ := w.at hc
  have g1 : H p = some o' := g1
  exact ⟨_, hs, .inl ⟨p, [x0, x1], 0, x0, rfl, rfl, sq_of (by rw [g1, g2]), rfl, q _ B1 H (Ex.refl _) w g3⟩⟩
theorem ev_l2snd {n m : Nat} {p : Addr} {a : α × β} (hs : σ[m]? = some (some (.ref p))) (hc : L[n]? = some ⟨p, cL2 r s, a⟩) : EV K M (tOp (rIx K) (tVar m) (tC (.int 1))) σ B L s a.2 L := fun B1 H e w Q q => by
  obtain ⟨⟨o', g1, x0, x1, g2, g3, g4⟩, _⟩ := w.at hc
  have g1 : H p = some o' := g1
  exact ⟨_, hs, .inl ⟨p, [x0, x1], 1, x1, rfl, rfl, sq_of (by rw [g1, g2]), rfl, q _ B1 H (Ex.refl _) w g4⟩⟩
/-- a new list [u, v] -/
theorem q_asgL2 {n : Nat} {a : α} {b : β} (w : Own K B M L H) (h : EA K M tA σ B L [⟨r, a⟩, ⟨s, b⟩] L') (q : ∀ p B' H', Ex B B' → Own K B' M (⟨p, cL2 r s, (a, b)⟩ :: L') H' → tz D (σ.set n (some (.ref p))) H') : tSeq (tAsg (tLst tA) (gName n)) tz D σ H :=
  h B H (Ex.refl _) w _ fun vs B' H' e w' hv => by
    match vs, hv with
    | [_, _], ⟨h1, h2, _⟩ => exact ⟨by show 2 ≤ sizeLine; decide, fun p hp => q p B' _ e (w'.new hp ⟨_, _, rfl, h1, h2⟩)⟩
theorem q_par {n m : Nat} {a : α} {b : β} (w : Own K B M L H) (h : EA K M tA σ B L [⟨r, a⟩, ⟨s, b⟩] L') (q : ∀ u v B' H', Ex B B' → Own K B' M L' H' → r.is K B' u a → s.is K B' v b → tz D ((σ.set n (some u)).set m (some v)) H') : tSeq (tPar n m tA) tz D σ H :=
  h B H (Ex.refl _) w _ fun vs B' H' e w' hv => by
    match vs, hv with
    | [_, _], ⟨h1, h2, _⟩ => exact ⟨_, _, rfl, q _ _ B' H' e w' h1 h2⟩

/-! ### loops -/
inductive Stp (S R : Type) where
  | nx (s : S)
  | bk (s : S)
  | rt (r : R)
def loopM {S R α : Type} (f : S → α → Option (Stp S R)) : S → List α → Option (Stp S R)
  | s, [] => some (.nx s)
  | s, x :: xs => match f s x with
    | some (.nx s') => loopM f s' xs
    | o => o
def foldO {S α : Type} (f : S → α → Option S) : S → List α → Option S
  | s, [] => some s
  | s, x :: xs => match f s x with
    | some s' => foldO f s' xs
    | none => none
theorem loop_fold {S R α : Type} (f : S → α → Option S) : ∀ (xs : List α) (s : S), loopM (R := R) (fun s x => (f s x).map Stp.nx) s xs = (foldO f s xs).map Stp.nx
  | [], _ => rfl
  | x :: xs, s => by
    unfold loopM foldO
    cases f s x with
    | none => rfl
    | some s' => exact loop_fold f xs s'
/-- what is walked: xs, item by item, whatever is ours -/
structure Wk (K : Fg) (M : Hp) (J : It) (B : Hp) (r : Rep α) (xs : List α) : Prop where
  go : ∀ (i : Nat) a B' L' H', Ex B B' → Own K B' M L' H' → xs[i]? = some a → J.go i H' ∧ ∀ x H2, J.yld i H' x H2 → ∃ B2, Ex B' B2 ∧ Own K B2 M L' H2 ∧ r.is K B2 x a
  stop : ∀ B' L' H', Ex B B' → Own K B' M L' H' → J.stop xs.length H'
def EI (K : Fg) (M : Hp) (wi : TI) (σ : St) (B : Hp) (L : List Cell) (r : Rep α) (xs : List α) (L' : List Cell) : Prop :=
  ∀ B1 H, Ex B B1 → Own K B1 M L H → ∀ R : It → Hp → Prop, (∀ J B2 H2, Ex B1 B2 → Own K B2 M L' H2 → Wk K M J B2 r xs → R J H2) → wi σ H R
theorem ei_tup {xs : List α} (h : EV K M te σ B L (rTup r) xs L') : EI K M (iTup K te) σ B L r xs L' := fun B1 H e w R q => h B1 H e w _ fun v B2 H2 e2 w2 hv => by
  obtain ⟨p, vs, rfl, hs, hp⟩ := hv
  refine ⟨p, rfl, ⟨vs, ex_t w2.b hs⟩, q _ B2 H2 e2 w2 ⟨fun i a B' L' H' e' w' hi => ?_, fun B' L' H' e' w' => ⟨vs, ex_t (e'.trans w'.b) hs, by rw [paired_len hp]; exact Nat.le_refl _⟩⟩⟩
  obtain ⟨x, hx, hr⟩ := paired_get hp hi
  refine ⟨⟨vs, x, ex_t (e'.trans w'.b) hs, hx⟩, fun y H3 hy => ?_⟩
  obtain ⟨rfl, hy⟩ := hy
  have := hy vs (ex_t (e'.trans w'.b) hs)
  rw [hx] at this
  cases this
  exact ⟨B', Ex.refl _, w', r.mono e' hr⟩
theorem ei_lst {xs : List α} (h : EV K M te σ B L (rLst r) xs L') : EI K M (iList K te) σ B L r xs L' := fun B1 H e w R q => h B1 H e w _ fun v B2 H2 e2 w2 hv => by
  obtain ⟨p, vs, rfl, hs, hp⟩ := hv
  refine ⟨p, rfl, ⟨vs, ex_l w2.b hs⟩, q _ B2 H2 e2 w2 ⟨fun i a B' L' H' e' w' hi => ?_, fun B' L' H' e' w' => ⟨vs, ex_l (e'.trans w'.b) hs, by rw [paired_len hp]; exact Nat.le_refl _⟩⟩⟩
  obtain ⟨x, hx, hr⟩ := paired_get hp hi
  refine ⟨⟨vs, x, ex_l (e'.trans w'.b) hs, hx⟩, fun y H3 hy => ?_⟩
  obtain ⟨rfl, hy⟩ := hy
  have := hy vs (ex_l (e'.trans w'.b) hs)
  rw [hx] at this
  cases this
  exact ⟨B', Ex.refl _, w', r.mono e' hr⟩
/-- lo, lo + 1, .. below hi -/
def rng (lo hi : Int) : List Int := (List.range (hi - lo).toNat).map fun (k : Nat) => lo + (k : Int)
theorem rng_len (lo hi : Int) : (rng lo hi).length = (hi - lo).toNat := by simp [rng]
theorem rng_get {lo hi : Int} {i : Nat} {a : Int} (h : (rng lo hi)[i]? = some a) : i < (hi - lo).toNat ∧ a = lo + (i : Int) := by
  unfold rng at h
  rw [List.getElem?_map] at h
  cases e : (List.range (hi - lo).toNat)[i]? with
  | none => rw [e] at h; cases h
  | some k =>
    rw [e] at h
    obtain ⟨h1, h2⟩ := List.getElem?_eq_some_iff.mp e
    rw [List.getElem_range] at h2
    rw [List.length_range] at h1
    subst h2
    exact ⟨h1, (Option.some.inj h).symm⟩
def small62 (i : Int) : Option Unit := if -(2 ^ 62) ≤ i ∧ i < 2 ^ 62 then some () else none
theorem small62_some {u : Unit} (h : small62 i = some u) : -(2 ^ 62) ≤ i ∧ i < 2 ^ 62 := by
  unfold small62 at h
  split at h
  · assumption
  · cases h
theorem wk_rng {lo hi : Int} : Wk K M (Itr lo (hi - lo).toNat) B rInt (rng lo hi) :=
  ⟨fun i a B' L' H' e' w' hi => by
    obtain ⟨h1, rfl⟩ := rng_get hi
    exact ⟨h1, fun x H2 hy => ⟨B', Ex.refl _, by rw [hy.1]; exact w', hy.2⟩⟩, fun B' L' H' e' w' => by rw [rng_len]; exact Nat.le_refl _⟩
theorem ei_rng1 (h : EA K M tA σ B L [⟨rInt, j⟩] L') (hj : small62 j = some ()) : EI K M (iRng1 tA) σ B L rInt (rng 0 j) L' := fun B1 H e w R q => h B1 H e w _ fun vs B2 H2 e2 w2 hv => by
  match vs, hv with
  | [_], ⟨h1, _⟩ =>
    refine ⟨j, by rw [show _ = V.int j from h1], (small62_some hj).1, (small62_some hj).2, q _ B2 H2 e2 w2 ?_⟩
    have := wk_rng (K := K) (M := M) (B := B2) (lo := 0) (hi := j)
    rw [show j - 0 = j by omega] at this
    exact this
theorem ei_rng2 (h : EA K M tA σ B L [⟨rInt, i⟩, ⟨rInt, j⟩] L') (hi : small62 i = some ()) (hj : small62 j = some ()) : EI K M (iRng2 tA) σ B L rInt (rng i j) L' := fun B1 H e w R q => h B1 H e w _ fun vs B2 H2 e2 w2 hv => by
  match vs, hv with
  | [_, _], ⟨h1, h2, _⟩ => exact ⟨i, j, by rw [show _ = V.int i from h1, show _ = V.int j from h2], ⟨(small62_some hi).1, (small62_some hi).2, (small62_some hj).1, (small62_some hj).2⟩, q _ B2 H2 e2 w2 wk_rng⟩

theorem loopM_drop {S R : Type} {f : S → α → Option (Stp S R)} {s s' : S} {xs : List α} {i : Nat} {a : α} (h : xs[i]? = some a) : loopM f s (xs.drop i) = (match f s a with | some (.nx s') => loopM f s' (xs.drop (i + 1)) | o => o) := by
  obtain ⟨h1, h2⟩ := List.getElem?_eq_some_iff.mp h
  rw [List.drop_eq_getElem_cons h1, h2]
  rfl
theorem q_for {S R : Type} {wi : TI} {g : TG} {tb : TS} {xs : List α} (w : Own K B M L H) (hi : EI K M wi σ B L r xs L1) (f : S → α → Option (Stp S R)) (P : S → Hp → St → Prop) (Lf : S → List Cell) (s0 : S) {o : Stp S R} (hm : loopM f s0 xs = some o)
    (h0 : ∀ B', Ex B B' → P s0 B' σ) (hL : Lf s0 = L1)
    (hs : ∀ s x st v B0 B' H' σ', f s x = some st → Ex B B0 → P s B0 σ' → Ex B0 B' → Own K B' M (Lf s) H' → r.is K B' v x → (∀ q, st = .rt q → o = .rt q) → ∀ (N : St → Hp → Prop) (BK : St → Hp → Prop),
      (∀ s3 B3 H3 σ3, st = .nx s3 → Ex B' B3 → Own K B3 M (Lf s3) H3 → P s3 B3 σ3 → N σ3 H3) → (∀ s3 B3 H3 σ3, st = .bk s3 → Ex B' B3 → Own K B3 M (Lf s3) H3 → P s3 B3 σ3 → BK σ3 H3) →
      g v σ' H' fun σ2 H2 => tb { D with nx := N, ct := N, bk := BK } σ2 H2)
    (hd : ∀ s B' H' σ', (o = .nx s ∨ o = .bk s) → Ex B B' → Own K B' M (Lf s) H' → P s B' σ' → tz D σ' H') : tSeq (tFor wi g tb) tz D σ H :=
  hi B H (Ex.refl _) w _ fun J B1 H1 e1 w1 k => by
    refine ⟨fun i m σ' H' => m = xs.length - i ∧ i ≤ xs.length ∧ ∃ s B', Ex B1 B' ∧ Own K B' M (Lf s) H' ∧ P s B' σ' ∧ loopM f s (xs.drop i) = some o, ⟨xs.length, by simp, Nat.zero_le _, s0, B1, Ex.refl _, by rw [hL]; exact w1, h0 B1 e1, hm⟩, ?_⟩
    rintro i m σ' H' ⟨rfl, hle, s, B', e', w', hP, hl⟩
    by_cases hlt : i < xs.length
    · right
      obtain ⟨a, ha⟩ : ∃ a, xs[i]? = some a := ⟨xs[i], List.getElem?_eq_getElem hlt⟩
      obtain ⟨hgo, hy⟩ := k.go i a B' _ H' e' w' ha
      rw [loopM_drop (s' := s) ha] at hl
      cases hst : f s a with
      | none => rw [hst] at hl; cases hl
      | some st =>
        rw [hst] at hl
        refine ⟨hgo, fun σ3 H3 => ∃ s3 B3, st = .nx s3 ∧ Ex B1 B3 ∧ Own K B3 M (Lf s3) H3 ∧ P s3 B3 σ3, fun σ3 H3 ⟨s3, B3, e3, a1, a2, a3⟩ => ?_, fun x H2 hy2 => ?_⟩
        · subst e3
          exact ⟨_, (by omega : xs.length - (i + 1) < xs.length - i), rfl, hlt, s3, B3, a1, a2, a3, hl⟩
        · obtain ⟨B2, e2, w2, hr⟩ := hy x H2 hy2
          refine hs s a st x B' B2 H2 σ' hst (e1.trans e') hP e2 w2 hr (fun q e => by rw [e] at hl; exact (Option.some.inj hl).symm) _ _ (fun s3 B3 H3 σ3 e3 e4 w3 p3 => ⟨s3, B3, e3, (e'.trans e2).trans e4, w3, p3⟩) (fun s3 B3 H3 σ3 e3 e4 w3 p3 => ?_)
          rw [e3] at hl
          exact hd s3 B3 H3 σ3 (.inr (Option.some.inj hl).symm) (((e1.trans e').trans e2).trans e4) w3 p3
    · left
      have : i = xs.length := by omega
      subst this
      rw [List.drop_length] at hl
      have ho : o = .nx s := (Option.some.inj hl).symm
      exact ⟨k.stop B' _ H' e' w', hd s B' H' σ' (.inl ho) (e1.trans e') w' hP⟩
end
end L3

namespace L3
open PySem L2
open Evl (Ex ex_rd ex_l ex_t sq_of st_of fresh_back)

theorem args1 {K : Fg} {B : Hp} {vs : List V} {x : Arg} (h : ArgsIs K B vs [x]) : ∃ u, vs = [u] ∧ x.is K B u := by
  match vs, h with
  | [_], ⟨h1, _⟩ => exact ⟨_, rfl, h1⟩
theorem args2 {K : Fg} {B : Hp} {vs : List V} {x y : Arg} (h : ArgsIs K B vs [x, y]) : ∃ u v, vs = [u, v] ∧ x.is K B u ∧ y.is K B v := by
  match vs, h with
  | [_, _], ⟨h1, h2, _⟩ => exact ⟨_, _, rfl, h1, h2⟩
theorem args3 {K : Fg} {B : Hp} {vs : List V} {x y z : Arg} (h : ArgsIs K B vs [x, y, z]) : ∃ u v w, vs = [u, v, w] ∧ x.is K B u ∧ y.is K B v ∧ z.is K B w := by
  match vs, h with
  | [_, _, _], ⟨h1, h2, h3, _⟩ => exact ⟨_, _, _, rfl, h1, h2, h3⟩
theorem args4 {K : Fg} {B : Hp} {vs : List V} {x y z a : Arg} (h : ArgsIs K B vs [x, y, z, a]) : ∃ u v w t, vs = [u, v, w, t] ∧ x.is K B u ∧ y.is K B v ∧ z.is K B w ∧ a.is K B t := by
  match vs, h with
  | [_, _, _, _], ⟨h1, h2, h3, h4, _⟩ => exact ⟨_, _, _, _, rfl, h1, h2, h3, h4⟩
theorem args5 {K : Fg} {B : Hp} {vs : List V} {x y z a b : Arg} (h : ArgsIs K B vs [x, y, z, a, b]) : ∃ u v w t s, vs = [u, v, w, t, s] ∧ x.is K B u ∧ y.is K B v ∧ z.is K B w ∧ a.is K B t ∧ b.is K B s := by
  match vs, h with
  | [_, _, _, _, _], ⟨h1, h2, h3, h4, h5, _⟩ => exact ⟨_, _, _, _, _, rfl, h1, h2, h3, h4, h5⟩
theorem args6 {K : Fg} {B : Hp} {vs : List V} {x y z a b c : Arg} (h : ArgsIs K B vs [x, y, z, a, b, c]) : ∃ u v w t s r, vs = [u, v, w, t, s, r] ∧ x.is K B u ∧ y.is K B v ∧ z.is K B w ∧ a.is K B t ∧ b.is K B s ∧ c.is K B r := by
  match vs, h with
  | [_, _, _, _, _, _], ⟨h1, h2, h3, h4, h5, h6, _⟩ => exact ⟨_, _, _, _, _, _, rfl, h1, h2, h3, h4, h5, h6⟩
/-- a constant of the module -/
structure GV (K : Fg) (mg : Str → Option Value) (x : Str) {α : Type} (r : Rep α) (a : α) : Prop where
  ex : ∃ (u : Value) (v : V), mg x = some u ∧ RelV v u ∧ ∀ B, r.is K B v a
def absI (i : Int) : Int := if i < 0 then -i else i
def gcdI (i j : Int) : Int := ((Nat.gcd i.natAbs j.natAbs : Nat) : Int)
def ixO (n : Nat) (i : Int) : Option Nat := ixN n i

section
variable {K : Fg} {M : Hp} {σ : St} {B : Hp} {L L1 L2 L' : List Cell} {α β γ δ : Type} {r : Rep α} {s : Rep β} {t : Rep γ} {ta tb tc te : TE} {tt tu : TT} {tA : TA} {i j k : Int} {b c : Bool}
theorem ev_add (ha : EV K M ta σ B L rInt i L1) (hb : EV K M tb σ B L1 rInt j L2) : EV K M (tOp (rI0 fun i j => .int (i + j)) ta tb) σ B L rInt (i + j) L2 := ev_I0 (g := fun i j => i + j) ha hb
theorem ev_sub (ha : EV K M ta σ B L rInt i L1) (hb : EV K M tb σ B L1 rInt j L2) : EV K M (tOp (rI0 fun i j => .int (i - j)) ta tb) σ B L rInt (i - j) L2 := ev_I0 (g := fun i j => i - j) ha hb
theorem ev_bitand (ha : EV K M ta σ B L rInt i L1) (hb : EV K M tb σ B L1 rInt j L2) : EV K M (tOp (rI0 fun i j => .int (Builtin.bitAnd i j)) ta tb) σ B L rInt (Builtin.bitAnd i j) L2 := ev_I0 (g := fun i j => Builtin.bitAnd i j) ha hb
abbrev rLt : R2 := rI0 fun i j => .bl (decide (i < j))
abbrev rLe : R2 := rI0 fun i j => .bl (decide (i ≤ j))
abbrev rGt : R2 := rI0 fun i j => .bl (decide (j < i))
abbrev rGe : R2 := rI0 fun i j => .bl (decide (j ≤ i))
theorem ev_lt (ha : EV K M ta σ B L rInt i L1) (hb : EV K M tb σ B L1 rInt j L2) : EV K M (tOp rLt ta tb) σ B L rBool (decide (i < j)) L2 := ev_B0 (g := fun i j => decide (i < j)) ha hb
theorem ev_le (ha : EV K M ta σ B L rInt i L1) (hb : EV K M tb σ B L1 rInt j L2) : EV K M (tOp rLe ta tb) σ B L rBool (decide (i ≤ j)) L2 := ev_B0 (g := fun i j => decide (i ≤ j)) ha hb
theorem ev_gt (ha : EV K M ta σ B L rInt i L1) (hb : EV K M tb σ B L1 rInt j L2) : EV K M (tOp rGt ta tb) σ B L rBool (decide (i > j)) L2 := ev_B0 (g := fun i j => decide (j < i)) ha hb
theorem ev_ge (ha : EV K M ta σ B L rInt i L1) (hb : EV K M tb σ B L1 rInt j L2) : EV K M (tOp rGe ta tb) σ B L rBool (decide (i ≥ j)) L2 := ev_B0 (g := fun i j => decide (j ≤ i)) ha hb
theorem ev_ch {g g' : Int → Int → Bool} (ha : EV K M ta σ B L rInt i L1) (hb : EV K M tb σ B L1 rInt j L2) (hc : EV K M tc σ B L2 rInt k L2) : EV K M (tChain (rI0 fun i j => .bl (g i j)) (rI0 fun i j => .bl (g' i j)) ta tb tc) σ B L rBool (g i j && g' j k) L2 := fun B1 H e w Q q =>
  ha B1 H e w _ fun x B2 H2 e2 w2 hx => hb B2 H2 (e.trans e2) w2 _ fun y B3 H3 e3 w3 hy => ⟨i, j, hx, hy, g i j, rfl, by
    cases hg : g i j with
    | true => exact hc B3 H3 ((e.trans e2).trans e3) w3 _ fun z B4 H4 e4 w4 hz => ⟨j, k, hy, hz, q _ B4 H4 ((e2.trans e3).trans e4) w4 (by show V.bl _ = V.bl _; rw [hg]; rfl)⟩
    | false => exact q _ B3 H3 (e2.trans e3) w3 (by show V.bl _ = V.bl _; rw [hg]; rfl)⟩
theorem ev_ch_lt_lt (ha : EV K M ta σ B L rInt i L1) (hb : EV K M tb σ B L1 rInt j L2) (hc : EV K M tc σ B L2 rInt k L2) : EV K M (tChain rLt rLt ta tb tc) σ B L rBool (decide (i < j) && decide (j < k)) L2 := ev_ch (g := fun i j => decide (i < j)) (g' := fun i j => decide (i < j)) ha hb hc
theorem ev_ch_le_lt (ha : EV K M ta σ B L rInt i L1) (hb : EV K M tb σ B L1 rInt j L2) (hc : EV K M tc σ B L2 rInt k L2) : EV K M (tChain rLe rLt ta tb tc) σ B L rBool (decide (i ≤ j) && decide (j < k)) L2 := ev_ch (g := fun i j => decide (i ≤ j)) (g' := fun i j => decide (i < j)) ha hb hc
theorem ev_ch_lt_le (ha : EV K M ta σ B L rInt i L1) (hb : EV K M tb σ B L1 rInt j L2) (hc : EV K M tc σ B L2 rInt k L2) : EV K M (tChain rLt rLe ta tb tc) σ B L rBool (decide (i < j) && decide (j ≤ k)) L2 := ev_ch (g := fun i j => decide (i < j)) (g' := fun i j => decide (i ≤ j)) ha hb hc
theorem ev_ch_le_le (ha : EV K M ta σ B L rInt i L1) (hb : EV K M tb σ B L1 rInt j L2) (hc : EV K M tc σ B L2 rInt k L2) : EV K M (tChain rLe rLe ta tb tc) σ B L rBool (decide (i ≤ j) && decide (j ≤ k)) L2 := ev_ch (g := fun i j => decide (i ≤ j)) (g' := fun i j => decide (i ≤ j)) ha hb hc
theorem ev_and0 {d : Bool} (h1 : EV K M ta σ B L rBool b L1) (h2 : b = true → EV K M tb σ B L1 rBool d L1) : EV K M (tAndV ta tb) σ B L rBool (b && d) L1 := fun B1 H e w Q q => h1 B1 H e w _ fun x B2 H2 e2 w2 hx => ⟨b, hx, by
  cases b with
  | true => exact h2 rfl B2 H2 (e.trans e2) w2 Q fun v B3 H3 e3 w3 hv => q v B3 H3 (e2.trans e3) w3 hv
  | false => exact q _ B2 H2 e2 w2 rfl⟩
theorem ev_or0 {d : Bool} (h1 : EV K M ta σ B L rBool b L1) (h2 : b = false → EV K M tb σ B L1 rBool d L1) : EV K M (tOrV ta tb) σ B L rBool (b || d) L1 := fun B1 H e w Q q => h1 B1 H e w _ fun x B2 H2 e2 w2 hx => ⟨b, hx, by
  cases b with
  | true => exact q _ B2 H2 e2 w2 rfl
  | false => exact h2 rfl B2 H2 (e.trans e2) w2 Q fun v B3 H3 e3 w3 hv => q v B3 H3 (e2.trans e3) w3 hv⟩
/-! ### targets -/
variable {H : Hp} {Qs : St → Hp → Prop} {g : TG} {gs : TGs}
theorem g_T2 {a : α × β} {v : V} {gs : TGs} (h : (rT2 r s).is K B v a) (w : Own K B M L H) (q : ∀ x y, r.is K B x a.1 → s.is K B y a.2 → gs [x, y] σ H Qs) : gTup K 2 gs v σ H Qs := by
  obtain ⟨p, x, y, rfl, h1, h2, h3⟩ := h
  exact ⟨p, _, rfl, ex_t w.b h1, rfl, q x y h2 h3⟩
theorem g_T3 {a : α × β × γ} {v : V} {gs : TGs} (h : (rT3 r s t).is K B v a) (w : Own K B M L H) (q : ∀ x y z, r.is K B x a.1 → s.is K B y a.2.1 → t.is K B z a.2.2 → gs [x, y, z] σ H Qs) : gTup K 3 gs v σ H Qs := by
  obtain ⟨p, x, y, z, rfl, h1, h2, h3, h4⟩ := h
  exact ⟨p, _, rfl, ex_t w.b h1, rfl, q x y z h2 h3 h4⟩
theorem g_cons {v : V} {vs : List V} (h : g v σ H fun σ' H' => gs vs σ' H' Qs) : gCons g gs (v :: vs) σ H Qs := ⟨v, vs, rfl, h⟩
theorem g_name {n : Nat} {v : V} (h : Qs (σ.set n (some v)) H) : gName n v σ H Qs := h
theorem g_nil (h : Qs σ H) : gNil [] σ H Qs := ⟨rfl, h⟩
/-! ### more statements -/
variable {D : Ends} {tz t1 t2 : TS}
theorem q_aug {n : Nat} {v : V} {f : Int → Int → Int} (w : Own K B M L H) (hs : σ[n]? = some (some v)) (hv : v = .int i) (h : EV K M te σ B L rInt j L') (q : ∀ v B' H', Ex B B' → Own K B' M L' H' → rInt.is K B' v (f i j) → tz D (σ.set n (some v)) H') : tSeq (tAug n te (ipI f)) tz D σ H :=
  ⟨v, hs, h B H (Ex.refl _) w _ fun y B' H' e w' hy => ⟨i, j, hv, hy, q _ B' H' e w' rfl⟩⟩
theorem q_unp {a : α} (w : Own K B M L H) (h : EV K M te σ B L r a L') (q : ∀ v B' H', Ex B B' → Own K B' M L' H' → r.is K B' v a → g v σ H' (tz D)) : tSeq (tAsg te g) tz D σ H := h B H (Ex.refl _) w _ q
def Stp.out {S R : Type} : Stp S R → S ⊕ R
  | .nx s => .inl s
  | .bk s => .inl s
  | .rt q => .inr q
def Stp.st {S : Type} : Stp S Empty → S
  | .nx s => s
  | .bk s => s
  | .rt q => nomatch q
def loopR {S R α : Type} (f : S → α → Option (Stp S R)) (s : S) (xs : List α) : Option (S ⊕ R) := (loopM f s xs).map Stp.out
def loopB {S α : Type} (f : S → α → Option (Stp S Empty)) (s : S) (xs : List α) : Option S := (loopM f s xs).map Stp.st
theorem q_forR {S R : Type} {wi : TI} {g : TG} {tb : TS} {xs : List α} (w : Own K B M L H) (hi : EI K M wi σ B L r xs L1) (f : S → α → Option (Stp S R)) (P : S → Hp → St → Prop) (Lf : S → List Cell) (s0 : S) {o : S ⊕ R} (hm : loopR f s0 xs = some o)
    (h0 : ∀ B', Ex B B' → P s0 B' σ) (hL : Lf s0 = L1)
    (hs : ∀ s x st v B0 B' H' σ', f s x = some st → Ex B B0 → P s B0 σ' → Ex B0 B' → Own K B' M (Lf s) H' → r.is K B' v x → (∀ q, st = .rt q → o = .inr q) → ∀ (N : St → Hp → Prop) (BK : St → Hp → Prop),
      (∀ s3 B3 H3 σ3, st = .nx s3 → Ex B' B3 → Own K B3 M (Lf s3) H3 → P s3 B3 σ3 → N σ3 H3) → (∀ s3 B3 H3 σ3, st = .bk s3 → Ex B' B3 → Own K B3 M (Lf s3) H3 → P s3 B3 σ3 → BK σ3 H3) →
      g v σ' H' fun σ2 H2 => tb { D with nx := N, ct := N, bk := BK } σ2 H2)
    (hd : ∀ s B' H' σ', o = .inl s → Ex B B' → Own K B' M (Lf s) H' → P s B' σ' → tz D σ' H') : tSeq (tFor wi g tb) tz D σ H := by
  unfold loopR at hm
  cases h : loopM f s0 xs with
  | none => rw [h] at hm; cases hm
  | some o' =>
    rw [h] at hm
    have hm : o'.out = o := Option.some.inj hm
    refine q_for w hi f P Lf s0 h h0 hL (fun s x st v B0 B' H' σ' a1 a2 a3 a4 a5 a6 a7 => hs s x st v B0 B' H' σ' a1 a2 a3 a4 a5 a6 fun q e => ?_) fun s B' H' σ' a1 => hd s B' H' σ' ?_
    · rw [← hm, a7 q e]; rfl
    · rcases a1 with rfl | rfl
      · exact hm.symm
      · exact hm.symm
theorem q_forB {S : Type} {wi : TI} {g : TG} {tb : TS} {xs : List α} (w : Own K B M L H) (hi : EI K M wi σ B L r xs L1) (f : S → α → Option (Stp S Empty)) (P : S → Hp → St → Prop) (Lf : S → List Cell) (s0 : S) {s1 : S} (hm : loopB f s0 xs = some s1)
    (h0 : ∀ B', Ex B B' → P s0 B' σ) (hL : Lf s0 = L1)
    (hs : ∀ s x st v B0 B' H' σ', f s x = some st → Ex B B0 → P s B0 σ' → Ex B0 B' → Own K B' M (Lf s) H' → r.is K B' v x → ∀ (N : St → Hp → Prop) (BK : St → Hp → Prop),
      (∀ s3 B3 H3 σ3, st = .nx s3 → Ex B' B3 → Own K B3 M (Lf s3) H3 → P s3 B3 σ3 → N σ3 H3) → (∀ s3 B3 H3 σ3, st = .bk s3 → Ex B' B3 → Own K B3 M (Lf s3) H3 → P s3 B3 σ3 → BK σ3 H3) →
      g v σ' H' fun σ2 H2 => tb { D with nx := N, ct := N, bk := BK } σ2 H2)
    (hd : ∀ B' H' σ', Ex B B' → Own K B' M (Lf s1) H' → P s1 B' σ' → tz D σ' H') : tSeq (tFor wi g tb) tz D σ H := by
  unfold loopB at hm
  cases h : loopM f s0 xs with
  | none => rw [h] at hm; cases hm
  | some o' =>
    rw [h] at hm
    have hm : o'.st = s1 := Option.some.inj hm
    refine q_for w hi f P Lf s0 h h0 hL (fun s x st v B0 B' H' σ' a1 a2 a3 a4 a5 a6 _ => hs s x st v B0 B' H' σ' a1 a2 a3 a4 a5 a6) fun s B' H' σ' a1 => ?_
    have e : s1 = s := by
      rcases a1 with rfl | rfl
      · exact hm.symm
      · exact hm.symm
    subst e
    exact hd B' H' σ'
theorem q_fold {S : Type} {wi : TI} {g : TG} {tb : TS} {xs : List α} (w : Own K B M L H) (hi : EI K M wi σ B L r xs L1) (f : S → α → Option S) (P : S → Hp → St → Prop) (Lf : S → List Cell) (s0 : S) {s1 : S} (hm : foldO f s0 xs = some s1)
    (h0 : ∀ B', Ex B B' → P s0 B' σ) (hL : Lf s0 = L1)
    (hs : ∀ s x s' v B0 B' H' σ', f s x = some s' → Ex B B0 → P s B0 σ' → Ex B0 B' → Own K B' M (Lf s) H' → r.is K B' v x → ∀ (N : St → Hp → Prop) (BK : St → Hp → Prop),
      (∀ B3 H3 σ3, Ex B' B3 → Own K B3 M (Lf s') H3 → P s' B3 σ3 → N σ3 H3) →
      g v σ' H' fun σ2 H2 => tb { D with nx := N, ct := N, bk := BK } σ2 H2)
    (hd : ∀ B' H' σ', Ex B B' → Own K B' M (Lf s1) H' → P s1 B' σ' → tz D σ' H') : tSeq (tFor wi g tb) tz D σ H := by
  have h := loop_fold (R := Empty) f xs s0
  rw [hm] at h
  refine q_for w hi _ P Lf s0 h h0 hL (fun s x st v B0 B' H' σ' a1 a2 a3 a4 a5 a6 _ N BK hN hB => ?_) fun s B' H' σ' a1 => ?_
  · cases e : f s x with
    | none => rw [e] at a1; cases a1
    | some s' =>
      rw [e] at a1
      have a1 : st = .nx s' := (Option.some.inj a1).symm
      exact hs s x s' v B0 B' H' σ' e a2 a3 a4 a5 a6 N BK fun B3 H3 σ3 => hN s' B3 H3 σ3 a1
  · have e : s1 = s := by
      rcases a1 with h | h
      · cases h; rfl
      · cases h
    subst e
    exact hd B' H' σ'
end
/-- a def that may be called by its name -/
structure Cl (P : Program) (w : World) (K : Fg) (mg : Str → Option Value) (base : Heap) (k : Nat) (x : Str) (sp : Sp) (dvs : List V) : Prop where
  ex : ∃ (f : Addr) (fd : FuncData) (ps : List Str) (ds : List Value), FnOk P w K mg base CX0 k f fd ps sp ∧ mg x = some (.ref f) ∧ PySem.W.keepIn K (.ref f) = true ∧ Binds K fd ps ds ∧ Vals dvs ds
theorem pe_c {X : Cx} {k j : Nat} {x : Str} {sp : Sp} {dvs : List V} {p pos : Pos} {e : Expr} {es : List Expr} {t : TA} (c : Cl X.prog X.w X.K X.mg X.base k x sp dvs) (hr : Room j X.A) (hk : k ≤ j) (hg : Gl X x) (ha : PA X (e :: es) t)
    (hdb : (x == ("__debug__" : Str)) = false := by decide) (he : starEach (e :: es) X.env = (false, eval e X.env) :: starEach es X.env := by rfl) (hpl : (backTo pos (starEach es X.env)).any (·.1) = false := by rfl) :
    PE X (.Call (.Name x p) (e :: es) [] pos) (tCall sp dvs E0 t) := by
  obtain ⟨f, fd, ps, ds, F, hm, kp, b, d⟩ := c.ex
  exact pe_call F (hr.mono hk) hg hm kp b d pass0 ha hdb he hpl
theorem bt_len : bootBuiltins "len" = some (.builtin "len") := by decide +kernel
theorem bt_abs : bootBuiltins "abs" = some (.builtin "abs") := by decide +kernel
theorem bt_int : bootBuiltins "int" = some (.type "int") := by decide +kernel
theorem bt_isinstance : bootBuiltins "isinstance" = some (.builtin "isinstance") := by decide +kernel
theorem bt_sum : bootBuiltins "sum" = some (.builtin "sum") := by decide +kernel
theorem bt_any : bootBuiltins "any" = some (.builtin "any") := by decide +kernel
theorem bt_all : bootBuiltins "all" = some (.builtin "all") := by decide +kernel
theorem bt_list : bootBuiltins "list" = some (.type "list") := by decide +kernel
theorem bt_bool : bootBuiltins "bool" = some (.type "bool") := by decide +kernel
theorem bt_tuple : bootBuiltins "tuple" = some (.type "tuple") := by decide +kernel
theorem bt_sorted : bootBuiltins "sorted" = some (.builtin "sorted") := by decide +kernel
theorem bt_set : bootBuiltins "set" = some (.type "set") := by decide +kernel
theorem bt_str : bootBuiltins "str" = some (.type "str") := by decide +kernel
theorem bt_max : bootBuiltins "max" = some (.builtin "max") := by decide +kernel
theorem bt_min : bootBuiltins "min" = some (.builtin "min") := by decide +kernel
theorem bt_enumerate : bootBuiltins "enumerate" = some (.type "enumerate") := by decide +kernel
theorem bt_zip : bootBuiltins "zip" = some (.type "zip") := by decide +kernel
theorem bt_dict : bootBuiltins "dict" = some (.type "dict") := by decide +kernel
theorem room_hu {A : Around} {k : Nat} (hr : Room k A) : A.units + 64 < cLine := hr.units
theorem nn_rInt {K : Fg} {B : Hp} {v : V} {x : Int} (h : rInt.is K B v x) : v ≠ .non := by
  have h : v = .int x := h
  subst h; intro e; cases e
end L3

namespace L3
open PySem L2
open Evl (Ex ex_rd ex_l ex_t sq_of st_of fresh_back)

/-! ### data of any form -/
theorem exl {K : Fg} {B B' : Hp} {a : Addr} {xs : List V} (e : Ex B B') (h : SqL K B a xs) : SqL K B' a xs := ex_l e h
mutual
theorem dp_mono {K : Fg} {B B' : Hp} (e : Ex B B') : ∀ {v : V} {d : PyData}, Dp K B v d → Dp K B' v d
  | _, _, .non => .non
  | _, _, .bl b => .bl b
  | _, _, .int i => .int i
  | _, _, .str x => .str x
  | _, _, .lst h t => .lst (ex_l e h) (dpAll_mono e t)
  | _, _, .tup h t => .tup (ex_t e h) (dpAll_mono e t)
theorem dpAll_mono {K : Fg} {B B' : Hp} (e : Ex B B') : ∀ {vs : List V} {ds : List PyData}, DpAll K B vs ds → DpAll K B' vs ds
  | _, _, .nil => .nil
  | _, _, .cons h t => .cons (dp_mono e h) (dpAll_mono e t)
end
def rDat : Rep PyData := ⟨fun K B v d => Dp K B v d, fun e h => dp_mono e h⟩
theorem dpAll_paired {K : Fg} {B : Hp} : ∀ {vs : List V} {ds : List PyData}, DpAll K B vs ds → Paired (rDat.is K B) vs ds
  | _, _, .nil => .nil
  | _, _, .cons h t => .cons h (dpAll_paired t)
theorem dpAll_of {K : Fg} {B : Hp} {α : Type} {r : Rep α} {f : α → PyData} (h : ∀ v a, r.is K B v a → Dp K B v (f a)) : ∀ {vs : List V} {as : List α}, Paired (r.is K B) vs as → DpAll K B vs (as.map f)
  | _, _, .nil => .nil
  | _, _, .cons r t => .cons (h _ _ r) (dpAll_of h t)
/-- typed data as data -/
structure DR {α : Type} (r : Rep α) (f : α → PyData) (n : Nat) : Prop where
  dp : ∀ K B v a, r.is K B v a → Dp K B v (f a)
  lay : ∀ a, (f a).canLay0 = true
  dep : ∀ a, (f a).depth ≤ n
  eqv : ∀ a b, PyData.eqv (f a) (f b) = true ↔ a = b
  inj : ∀ a b, f a = f b → a = b
theorem layAll {α : Type} {f : α → PyData} (h : ∀ a, (f a).canLay0 = true) : ∀ l : List α, PyData.canLayAll0 (l.map f) = true
  | [] => rfl
  | a :: l => by simp only [List.map_cons, PyData.canLayAll0, h a, layAll h l, Bool.and_self]
theorem depAll {α : Type} {f : α → PyData} {n : Nat} (h : ∀ a, (f a).depth ≤ n) : ∀ l : List α, PyData.depthAll (l.map f) ≤ n
  | [] => by simp [PyData.depthAll]
  | a :: l => by simp only [List.map_cons, PyData.depthAll]; have := h a; have := depAll h l; omega
theorem eqvAll {α : Type} {f : α → PyData} (h : ∀ a b, PyData.eqv (f a) (f b) = true ↔ a = b) : ∀ l m : List α, PyData.eqvAll (l.map f) (m.map f) = true ↔ l = m
  | [], [] => by simp [PyData.eqvAll]
  | [], b :: m => by simp [PyData.eqvAll]
  | a :: l, [] => by simp [PyData.eqvAll]
  | a :: l, b :: m => by simp only [List.map_cons, PyData.eqvAll, Bool.and_eq_true, h a b, eqvAll h l m, List.cons.injEq]
theorem map_inj {α β : Type} {f : α → β} (h : ∀ a b, f a = f b → a = b) : ∀ l m : List α, l.map f = m.map f → l = m
  | [], [], _ => rfl
  | [], _ :: _, e => by simp at e
  | _ :: _, [], e => by simp at e
  | a :: l, b :: m, e => by
    rw [List.map_cons, List.map_cons, List.cons.injEq] at e
    rw [h _ _ e.1, map_inj h l m e.2]
theorem dr_int : DR rInt PyData.int 1 := ⟨fun _ _ _ a h => by have h : _ = V.int a := h; subst h; exact .int a, fun _ => rfl, fun _ => by simp [PyData.depth], fun a b => by simp [PyData.eqv], fun a b h => by injection h⟩
theorem dr_bool : DR rBool PyData.bool 1 := ⟨fun _ _ _ a h => by have h : _ = V.bl a := h; subst h; exact .bl a, fun _ => rfl, fun _ => by simp [PyData.depth], fun a b => by simp [PyData.eqv], fun a b h => by injection h⟩
def dNon : Unit → PyData := fun _ => .none
theorem dr_non : DR rNon dNon 1 := ⟨fun _ _ _ a h => by have h : _ = V.non := h; subst h; exact .non, fun _ => rfl, fun _ => by simp [PyData.depth, dNon], fun a b => by simp [PyData.eqv, dNon], fun a b h => rfl⟩
def dTup {α : Type} (f : α → PyData) (l : List α) : PyData := .tuple (l.map f)
def dLst {α : Type} (f : α → PyData) (l : List α) : PyData := .list (l.map f)
def dT2 {α β : Type} (f : α → PyData) (g : β → PyData) (a : α × β) : PyData := .tuple [f a.1, g a.2]
def dT3 {α β γ : Type} (f : α → PyData) (g : β → PyData) (h : γ → PyData) (a : α × β × γ) : PyData := .tuple [f a.1, g a.2.1, h a.2.2]
def dOpt {α : Type} (f : α → PyData) : Option α → PyData
  | none => .none
  | some a => f a
section
variable {α β γ : Type} {r : Rep α} {s : Rep β} {t : Rep γ} {f : α → PyData} {g : β → PyData} {h : γ → PyData} {n m k : Nat}
theorem dr_tup (d : DR r f n) : DR (rTup r) (dTup f) (n + 1) := ⟨fun K B v a ⟨p, xs, h1, h2, h3⟩ => by subst h1; exact .tup h2 (dpAll_of (d.dp K B) h3), fun a => by simpa [dTup, PyData.canLay0] using layAll d.lay a,
  fun a => by have := depAll d.dep a; simp only [dTup, PyData.depth]; omega, fun a b => by simpa [dTup, PyData.eqv] using eqvAll d.eqv a b, fun a b e => by unfold dTup at e; injection e with e; exact map_inj d.inj a b e⟩
theorem dr_lst (d : DR r f n) : DR (rLst r) (dLst f) (n + 1) := ⟨fun K B v a ⟨p, xs, h1, h2, h3⟩ => by subst h1; exact .lst h2 (dpAll_of (d.dp K B) h3), fun a => by simpa [dLst, PyData.canLay0] using layAll d.lay a,
  fun a => by have := depAll d.dep a; simp only [dLst, PyData.depth]; omega, fun a b => by simpa [dLst, PyData.eqv] using eqvAll d.eqv a b, fun a b e => by unfold dLst at e; injection e with e; exact map_inj d.inj a b e⟩
theorem dr_T2 (d : DR r f n) (e : DR s g m) : DR (rT2 r s) (dT2 f g) (max n m + 1) := ⟨fun K B v a ⟨p, x, y, h1, h2, h3, h4⟩ => by subst h1; exact .tup h2 (.cons (d.dp _ _ _ _ h3) (.cons (e.dp _ _ _ _ h4) .nil)),
  fun a => by simp [dT2, PyData.canLay0, PyData.canLayAll0, d.lay, e.lay], fun a => by have := d.dep a.1; have := e.dep a.2; simp only [dT2, PyData.depth, PyData.depthAll]; omega,
  fun a b => by simp only [dT2, PyData.eqv, PyData.eqvAll, Bool.and_true, Bool.and_eq_true, d.eqv, e.eqv]; exact ⟨fun ⟨x, y⟩ => Prod.ext x y, fun e => by rw [e]; exact ⟨rfl, rfl⟩⟩,
  fun a b q => by unfold dT2 at q; injection q with q; injection q with q1 q2; injection q2 with q2 _; exact Prod.ext (d.inj _ _ q1) (e.inj _ _ q2)⟩
theorem dr_T3 (d : DR r f n) (e : DR s g m) (c : DR t h k) : DR (rT3 r s t) (dT3 f g h) (max n (max m k) + 1) := ⟨fun K B v a ⟨p, x, y, z, h1, h2, h3, h4, h5⟩ => by subst h1; exact .tup h2 (.cons (d.dp _ _ _ _ h3) (.cons (e.dp _ _ _ _ h4) (.cons (c.dp _ _ _ _ h5) .nil))),
  fun a => by simp [dT3, PyData.canLay0, PyData.canLayAll0, d.lay, e.lay, c.lay], fun a => by have := d.dep a.1; have := e.dep a.2.1; have := c.dep a.2.2; simp only [dT3, PyData.depth, PyData.depthAll]; omega,
  fun a b => by simp only [dT3, PyData.eqv, PyData.eqvAll, Bool.and_true, Bool.and_eq_true, d.eqv, e.eqv, c.eqv]; exact ⟨fun ⟨x, y, z⟩ => Prod.ext x (Prod.ext y z), fun e => by rw [e]; exact ⟨rfl, rfl, rfl⟩⟩,
  fun a b q => by unfold dT3 at q; injection q with q; injection q with q1 q2; injection q2 with q2 q3; injection q3 with q3 _; exact Prod.ext (d.inj _ _ q1) (Prod.ext (e.inj _ _ q2) (c.inj _ _ q3))⟩
theorem DR.dec [DecidableEq α] (d : DR r f n) (a b : α) : PyData.eqv (f a) (f b) = decide (a = b) := by
  rw [Bool.eq_iff_iff, d.eqv, decide_eq_true_iff]
theorem DR.sh (d : DR r f n) (hn : n ≤ 64) (a : α) : SeqAt.shaped (f a) = true := by
  unfold SeqAt.shaped
  rw [d.lay a, decide_eq_true (Nat.le_trans (d.dep a) hn)]; rfl
end
/-! ### operations on data -/
def isNoneD : PyData → Bool
  | .none => true
  | _ => false
def isBoolD : PyData → Bool
  | .bool _ => true
  | _ => false
def isIntD : PyData → Bool
  | .bool _ => true
  | .int _ => true
  | _ => false
def isStrD : PyData → Bool
  | .str _ => true
  | _ => false
def isTupD : PyData → Bool
  | .tuple _ => true
  | _ => false
def isLstD : PyData → Bool
  | .list _ => true
  | _ => false
def tyName : PyData → String
  | .none => "NoneType"
  | .bool _ => "bool"
  | .int _ => "int"
  | .str _ => "str"
  | .list _ => "list"
  | .tuple _ => "tuple"
  | .dict _ => "dict"
def eqvD (a b : PyData) : Option Bool := if SeqAt.shaped a = true ∧ SeqAt.shaped b = true then some (PyData.eqv a b) else none
def lenD : PyData → Option Int
  | .list xs => some xs.length
  | .tuple xs => some xs.length
  | _ => none
def ixD : PyData → Int → Option PyData
  | .list xs, i => atI xs i
  | .tuple xs, i => atI xs i
  | _, _ => none
theorem dp_ty {K : Fg} {B H : Hp} {v : V} {d : PyData} (e : Ex B H) (h : Dp K B v d) : TyX K H v (.type (tyName d)) := by
  cases h with
  | non => exact .base .non
  | bl b => exact .base (.bl b)
  | int i => exact .base (.int i)
  | str x => exact .base (.str x)
  | lst h t =>
    rcases ex_l e h with (h | ⟨o, h⟩) | ⟨o, its, n, h, hc, _⟩
    · exact .base (.lst h)
    · exact .base (.frz h)
    · exact .kList h hc
  | tup h t =>
    rcases ex_t e h with (h | ⟨o, h⟩) | ⟨o, its, n, h, hc, _⟩
    · exact .base (.tup h)
    · exact .fTuple h
    · exact .kTuple h hc
section
variable {K : Fg} {M : Hp} {σ : St} {B : Hp} {L L1 L2 L' : List Cell} {α β γ δ : Type} {r : Rep α} {s : Rep β} {t : Rep γ} {ta tb tc te : TE} {tt tu : TT} {tA : TA} {i j k : Int} {b c : Bool} {d d' : PyData}
theorem ev_dat {f : α → PyData} {n : Nat} {a : α} (h : EV K M te σ B L r a L') (D : DR r f n) : EV K M te σ B L rDat (f a) L' := ev_as h fun _ _ h => D.dp _ _ _ _ h
theorem ev_isND (ha : EV K M ta σ B L rDat d L1) : EV K M (tIsN ta) σ B L rBool (isNoneD d) L1 := fun B1 H e w Q q =>
  ha B1 H e w _ fun x B2 H2 e2 w2 hx => q _ B2 H2 e2 w2 (by
    show V.bl _ = V.bl _
    congr 1
    have hx : Dp K B2 x d := hx
    cases hx <;> rfl)
theorem ev_isi (T : String) (g : PyData → Bool) (hg : ∀ n d, tyName d = n → kitB n T = some (g d)) (ha : EV K M ta σ B L rDat d L1) : EV K M (tCB (rIsi K) (tCons ta (tCons (tC (.ty T)) tNil))) σ B L rBool (g d) L1 := fun B1 H e w Q q =>
  ha B1 H e w _ fun x B2 H2 e2 w2 hx => ⟨x, .ty T, .type (tyName d), .type T, g d, rfl, .ty T, dp_ty w2.b hx, kit_ty (hg _ d rfl), q _ B2 H2 e2 w2 rfl⟩
def kt (T : String) (g : String → Bool) : Bool := (kitB "NoneType" T == some (g "NoneType")) && (kitB "bool" T == some (g "bool")) && (kitB "int" T == some (g "int")) && (kitB "str" T == some (g "str")) && (kitB "list" T == some (g "list")) && (kitB "tuple" T == some (g "tuple")) && (kitB "dict" T == some (g "dict"))
theorem kt_of {T : String} {g : String → Bool} (h : kt T g = true) (d : PyData) : kitB (tyName d) T = some (g (tyName d)) := by
  unfold kt at h
  simp only [Bool.and_eq_true, beq_iff_eq] at h
  cases d <;> simp only [tyName] <;> simp_all
theorem isi_bool : ∀ n d, tyName d = n → kitB n "bool" = some (isBoolD d) := fun n d e => by
  subst e
  rw [kt_of (g := fun n => n == "bool") (by decide +kernel) d]
  cases d <;> rfl
theorem isi_int : ∀ n d, tyName d = n → kitB n "int" = some (isIntD d) := fun n d e => by
  subst e
  rw [kt_of (g := fun n => n == "bool" || n == "int") (by decide +kernel) d]
  cases d <;> rfl
theorem isi_str : ∀ n d, tyName d = n → kitB n "str" = some (isStrD d) := fun n d e => by
  subst e
  rw [kt_of (g := fun n => n == "str") (by decide +kernel) d]
  cases d <;> rfl
theorem isi_tuple : ∀ n d, tyName d = n → kitB n "tuple" = some (isTupD d) := fun n d e => by
  subst e
  rw [kt_of (g := fun n => n == "tuple") (by decide +kernel) d]
  cases d <;> rfl
theorem isi_list : ∀ n d, tyName d = n → kitB n "list" = some (isLstD d) := fun n d e => by
  subst e
  rw [kt_of (g := fun n => n == "list") (by decide +kernel) d]
  cases d <;> rfl
theorem ev_eqvD (ha : EV K M ta σ B L rDat d L1) (hb : EV K M tb σ B L1 rDat d' L2) (h : eqvD d d' = some b) : EV K M (tOp (rEqD K) ta tb) σ B L rBool b L2 :=
  ev_op ha hb fun B1 H1 x y Q w hx hy q => by
    unfold eqvD at h
    split at h
    · rename_i hc
      exact ⟨d, d', dp_mono w.b hx, dp_mono w.b hy, hc.1, hc.2, q _ (by rw [Option.some.inj h]; rfl)⟩
    · cases h
/-- == of typed data -/
theorem ev_eqT {f : α → PyData} {n : Nat} {a a' : α} [DecidableEq α] (D : DR r f n) (hn : n ≤ 64) (ha : EV K M ta σ B L r a L1) (hb : EV K M tb σ B L1 r a' L2) : EV K M (tOp (rEqD K) ta tb) σ B L rBool (decide (a = a')) L2 :=
  ev_op ha hb fun B1 H1 x y Q w hx hy q => ⟨f a, f a', dp_mono w.b (D.dp _ _ _ _ hx), dp_mono w.b (D.dp _ _ _ _ hy), D.sh hn a, D.sh hn a', q _ (by rw [D.dec]; rfl)⟩
theorem ev_neT {f : α → PyData} {n : Nat} {a a' : α} [DecidableEq α] (D : DR r f n) (hn : n ≤ 64) (ha : EV K M ta σ B L r a L1) (hb : EV K M tb σ B L1 r a' L2) : EV K M (tOp (rNeD K) ta tb) σ B L rBool (!decide (a = a')) L2 :=
  ev_op ha hb fun B1 H1 x y Q w hx hy q => ⟨f a, f a', dp_mono w.b (D.dp _ _ _ _ hx), dp_mono w.b (D.dp _ _ _ _ hy), D.sh hn a, D.sh hn a', q _ (by rw [D.dec]; rfl)⟩
theorem dpAll_len {vs : List V} {ds : List PyData} (h : DpAll K B vs ds) : vs.length = ds.length := paired_len (dpAll_paired h)
theorem ev_lenD (ha : EV K M ta σ B L rDat d L1) (h : lenD d = some i) : EV K M (tCB (rLen K) (tCons ta tNil)) σ B L rInt i L1 :=
  ev_cb1 ha fun B1 H1 x Q w hx q => by
    have hx : Dp K B1 x d := hx
    cases hx with
    | lst h1 t =>
      rw [← (Option.some.inj h : _ = i)] at q
      exact ⟨_, _, rfl, .inl (ex_l w.b h1), q _ (by rw [dpAll_len t]; rfl)⟩
    | tup h1 t =>
      rw [← (Option.some.inj h : _ = i)] at q
      exact ⟨_, _, rfl, .inr (ex_t w.b h1), q _ (by rw [dpAll_len t]; rfl)⟩
    | _ => cases h
theorem ev_ixD (ha : EV K M ta σ B L rDat d L1) (hb : EV K M tb σ B L1 rInt i L2) (h : ixD d i = some d') : EV K M (tOp (rIx K) ta tb) σ B L rDat d' L2 :=
  ev_op ha hb fun B1 H1 x y Q w hx hy q => by
    have hx : Dp K B1 x d := hx
    cases hx with
    | lst h1 t =>
      obtain ⟨z, e, hz⟩ := atI_paired (dpAll_paired t) h
      exact .inl ⟨_, _, i, z, rfl, hy, ex_l w.b h1, e, q _ hz⟩
    | tup h1 t =>
      obtain ⟨z, e, hz⟩ := atI_paired (dpAll_paired t) h
      exact .inr (.inl ⟨_, _, i, z, rfl, hy, ex_t w.b h1, e, q _ hz⟩)
    | _ => cases h
end
/-- nothing is promised: at any level -/
theorem fn_none {P : Program} {w : World} {K : Fg} {mg : Str → Option Value} {base : Heap} {k : Nat} {f : Addr} {fd : FuncData} {ps : List Str} {C : List Arg → List Cell → Arg → List Cell → Prop} (h : ∀ as L r L', ¬ C as L r L') : FnOk P w K mg base CX0 k f fd ps (spV K C) :=
  ⟨fun vs H Q E ⟨_, _, _, _, _, _, _, _, c, _⟩ => (h _ _ _ _ c).elim, fun A outer s H args us vs Q E _ _ _ _ ⟨_, _, _, _, _, _, _, _, c, _⟩ => (h _ _ _ _ c).elim⟩
end L3

namespace L3
open PySem L2

/-! ### the mirrors: they answer, and the answer is as told -/
def Yes {α : Type} (o : Option α) (P : α → Prop) : Prop := ∃ a, o = some a ∧ P a
section
variable {α β S R : Type} {o : Option α} {P Q : α → Prop} {i j : Int}
theorem Yes.mono (h : Yes o P) (f : ∀ a, P a → Q a) : Yes o Q := by obtain ⟨a, h1, h2⟩ := h; exact ⟨a, h1, f a h2⟩
theorem y_some {a : α} (h : P a) : Yes (some a) P := ⟨a, rfl, h⟩
theorem y_bind {f : α → Option β} {T : β → Prop} (h : Yes o Q) (k : ∀ a, Q a → Yes (f a) T) : Yes (Option.bind o f) T := by
  obtain ⟨a, rfl, h2⟩ := h
  exact k a h2
theorem y_eq {a : α} {f : α → Option β} {T : β → Prop} (h : o = some a) (k : Yes (f a) T) : Yes (Option.bind o f) T := by
  subst h; exact k
theorem y_if {c : Prop} [Decidable c] {p q : Option α} (h1 : c → Yes p P) (h2 : ¬ c → Yes q P) : Yes (if c then p else q) P := by
  split
  · exact h1 (by assumption)
  · exact h2 (by assumption)
theorem y_and {c : Prop} [Decidable c] {p q : Option α} (h1 : c → p = q) : (if c then p else q) = q := by
  split
  · exact h1 (by assumption)
  · rfl
theorem mulI_l (h1 : -(2 ^ 64) < i) (h2 : i < 2 ^ 64) : mulI i j = some (i * j) := if_pos (Or.inl (Or.inl ⟨h1, h2⟩))
theorem mulI_r (h1 : -(2 ^ 64) < j) (h2 : j < 2 ^ 64) : mulI i j = some (i * j) := if_pos (Or.inl (Or.inr ⟨h1, h2⟩))
theorem mulI_w {a b : Nat} (ha : i.natAbs < 2 ^ a) (hb : j.natAbs < 2 ^ b) (h0 : 0 < a) (h1 : 0 < b) (h : a + b ≤ 1000000) : mulI i j = some (i * j) := if_pos (Or.inr (wide_mul ha hb h0 h1 h))
theorem divI_s (h1 : 0 < j) (h2 : j < 2 ^ 64) : divI i j = some (i / j) := if_pos ⟨h1, by
  have : j.natAbs < 2 ^ 64 := by omega
  have := PySem.Flt.log2_lt_of (by decide) this
  omega⟩
theorem divI_w {b : Nat} (h1 : 0 < j) (hb : j.natAbs < 2 ^ b) (h0 : 0 < b) (h9 : b ≤ 9000) : divI i j = some (i / j) := if_pos (wide_div (i := i) h1 hb h0 h9)
theorem modI_s (h : 0 < j) : modI i j = some (i % j) := if_pos h
theorem room_s {n : Nat} (h : n ≤ 1000000) : room n = some () := if_pos (Nat.lt_of_le_of_lt h (by decide))
theorem small62_s (h1 : -(2 ^ 62) ≤ i) (h2 : i < 2 ^ 62) : small62 i = some () := if_pos ⟨h1, h2⟩
theorem ixL_s {xs : List α} {n : Nat} {a : α} (h : xs[n]? = some a) (hi : i = n) : ixL xs i = some a := by
  subst hi
  unfold ixL atI
  have hl := (List.getElem?_eq_some_iff.mp h).1
  simp [ixN]
  have h2 := (List.getElem?_eq_some_iff.mp h).2
  simp_all
/-- with a number of the item -/
theorem y_foldI (f : S → α → Option S) (I : Nat → S → Prop) {xs : List α} {s : S} (h0 : I 0 s) (hs : ∀ (i : Nat) x s, xs[i]? = some x → I i s → Yes (f s x) (I (i + 1))) : Yes (foldO f s xs) (I xs.length) := by
  induction xs generalizing s I with
  | nil => exact ⟨s, rfl, h0⟩
  | cons x xs ih =>
    obtain ⟨s', h1, h2⟩ := hs 0 x s rfl h0
    unfold foldO
    rw [h1]
    exact ih (fun i => I (i + 1)) h2 fun i y s hy hI => hs (i + 1) y s (by simpa using hy) hI
theorem y_fold (f : S → α → Option S) (I : S → Prop) {xs : List α} {s : S} (h0 : I s) (hs : ∀ x s, x ∈ xs → I s → Yes (f s x) I) : Yes (foldO f s xs) I :=
  y_foldI f (fun _ => I) h0 fun i x s hx hI => hs x s (List.mem_of_getElem? hx) hI
/-- a loop that may return -/
theorem y_loopI (f : S → α → Option (Stp S R)) (I : Nat → S → Prop) (E : Stp S R → Prop) {xs : List α} {s : S} (h0 : I 0 s)
    (hs : ∀ (i : Nat) x s, xs[i]? = some x → I i s → Yes (f s x) fun t => match t with | .nx s' => I (i + 1) s' | t => E t) (hE : ∀ s, I xs.length s → E (.nx s)) : Yes (loopM f s xs) E := by
  induction xs generalizing s I with
  | nil => exact ⟨.nx s, rfl, hE s h0⟩
  | cons x xs ih =>
    obtain ⟨t, h1, h2⟩ := hs 0 x s rfl h0
    unfold loopM
    rw [h1]
    match t, h2 with
    | .nx s', h2 => exact ih (fun i => I (i + 1)) h2 (fun i y s hy hI => hs (i + 1) y s (by simpa using hy) hI) hE
    | .bk s', h2 => exact ⟨_, rfl, h2⟩
    | .rt r, h2 => exact ⟨_, rfl, h2⟩
theorem rng_mem {lo hi : Int} {x : Int} (h : x ∈ rng lo hi) : lo ≤ x ∧ x < hi := by
  obtain ⟨i, hi⟩ := List.getElem?_of_mem h
  obtain ⟨h1, h2⟩ := rng_get hi
  omega
theorem rng_at {lo hi : Int} {i : Nat} {x : Int} (h : (rng lo hi)[i]? = some x) : x = lo + i ∧ lo + i < hi := by
  obtain ⟨h1, h2⟩ := rng_get h
  exact ⟨h2, by omega⟩
theorem y_loopR (f : S → α → Option (Stp S R)) (I : Nat → S → Prop) (E : S ⊕ R → Prop) {xs : List α} {s : S} (h0 : I 0 s)
    (hs : ∀ (i : Nat) x s, xs[i]? = some x → I i s → Yes (f s x) fun t => match t with | .nx s' => I (i + 1) s' | .bk s' => E (.inl s') | .rt r => E (.inr r)) (hE : ∀ s, I xs.length s → E (.inl s)) : Yes (loopR f s xs) E := by
  obtain ⟨t, h1, h2⟩ := y_loopI f I (fun t => match t with | .nx s' => E (.inl s') | .bk s' => E (.inl s') | .rt r => E (.inr r)) h0 (fun i x s hx hI => (hs i x s hx hI).mono fun t ht => by
    cases t <;> exact ht) hE
  unfold loopR
  rw [h1]
  cases t <;> exact ⟨_, rfl, h2⟩
theorem y_loopB (f : S → α → Option (Stp S Empty)) (I : Nat → S → Prop) (E : S → Prop) {xs : List α} {s : S} (h0 : I 0 s)
    (hs : ∀ (i : Nat) x s, xs[i]? = some x → I i s → Yes (f s x) fun t => match t with | .nx s' => I (i + 1) s' | .bk s' => E s' | .rt r => False) (hE : ∀ s, I xs.length s → E s) : Yes (loopB f s xs) E := by
  obtain ⟨t, h1, h2⟩ := y_loopI f I (fun t => match t with | .nx s' => E s' | .bk s' => E s' | .rt r => False) h0 (fun i x s hx hI => (hs i x s hx hI).mono fun t ht => by
    cases t <;> exact ht) hE
  unfold loopB
  rw [h1]
  cases t with
  | nx s => exact ⟨_, rfl, h2⟩
  | bk s => exact ⟨_, rfl, h2⟩
  | rt r => exact h2.elim
end
end L3
namespace L3
open PySem L2
theorem paired_ints {K : Fg} {B : Hp} : ∀ ns : List Int, Paired (rInt.is K B) (ns.map V.int) ns
  | [] => .nil
  | _ :: l => .cons rfl (paired_ints l)
end L3

namespace L3
open PySem L2
open Evl (Ex ex_rd ex_l ex_t sq_of st_of fresh_back)
def top (i : Nat) : Stmt := PySem.Challenge.pw_bestodds_k01_fractions.main.body.getD i (.Pass ⟨0, 0, 0, 0⟩)
abbrev s_ratio : Stmt := top 2
abbrev s_plus : Stmt := top 3
abbrev s_minus : Stmt := top 4
abbrev s_times : Stmt := top 5
abbrev s_over : Stmt := top 6
abbrev s_is_less : Stmt := top 7
abbrev s__law_tape : Stmt := top 9
abbrev s__law_draw : Stmt := top 10
abbrev s__law_take : Stmt := top 12
abbrev s__law_ratio : Stmt := top 13
abbrev s__law_plus : Stmt := top 14
abbrev s__law_times : Stmt := top 15
abbrev s__law_over : Stmt := top 16
abbrev s__law_equal : Stmt := top 11
abbrev s__law_number : Stmt := top 17
abbrev s_law : Stmt := top 18
section
variable {P : Program} {w : World} {K : PySem.W.Frag} {mg : Str → Option Value} {base : Heap} {f : Addr} {fd : FuncData}
noncomputable def m_ratio (a0 : Int) (a1 : Int) : Option (Int × Int) :=
  Option.bind (if (decide (a1 < (0 : Int))) = true then
    some (((-a0), (-a1)))
  else
    some ((a0, a1))
  ) fun (s2 : (Int × Int)) =>
  Option.bind (divI s2.1 ((gcdI s2.1 s2.2))) fun t20 =>
  Option.bind (divI s2.2 ((gcdI s2.1 s2.2))) fun t22 =>
  some (t20, t22)
def C_ratio : List Arg → List Cell → Arg → List Cell → Prop := fun as L r L' => ∃ a0 a1 c, as = [⟨rInt, a0⟩, ⟨rInt, a1⟩] ∧ L = [] ∧ m_ratio a0 a1 = some c ∧ r = ⟨(rT2 rInt rInt), c⟩ ∧ L' = []
theorem sc_ratio : FnScope ["n", "d", "common"] ["n", "d"] (defScope s_ratio) := ⟨rfl, rfl, rfl, by decide +kernel, rfl, by decide +kernel, by decide +kernel⟩
set_option maxHeartbeats 4000000 in
theorem ok_ratio (F : Fun K "ratio" "ratio" s_ratio f fd) (z_gcd : mg "gcd" = some (.builtin "math.gcd")) : FnOk P w K mg base CX0 1 f fd ["n", "d"] (spV K C_ratio) := by
  refine F.ok sc_ratio (fun vs H Q E h => ?_) (fun cdv A outer s H vs Q E hr h => ?_)
  · obtain ⟨B, M, L, as, r, L', w, ha, ⟨_, _, _, rfl, _⟩, k⟩ := h
    exact args_len ha
  · skip
    obtain ⟨B, M, L, as, r, L', w, ha, ⟨a0, a1, c, rfl, rfl, hm, rfl, rfl⟩, k⟩ := h
    obtain ⟨u0, u1, rfl, f0, f1⟩ := args2 ha
    replace f0 : (rInt).is K B u0 a0 := f0
    replace f1 : (rInt).is K B u1 a1 := f1
    unfold m_ratio at hm
    refine ⟨_, (Evl.pss_cut (ps_if (pt_cmpR op_lt (pv 1) pe_int (nomark _)) (pss_cons (ps_par (i := 0) (j := 1) rfl sc_ratio.nd rfl rfl (by decide) rfl rfl (pa_cons (pe_un un_neg (pv 0)) (pa_cons (pe_un un_neg (pv 1)) pa_nil)) rfl) pss_nil) pss_nil) (pss_cons (ps_set (i := 2) sc_ratio.nd rfl (by first | exact Or.inl rfl | exact Or.inr rfl) (pe_callBfun cr_gcd rfl z_gcd (pa_cons (pv 0) (pa_cons (pv 1) pa_nil)))) (pss_cons (ps_ret (pe_tup (pa_cons (pe_op op_fdivW (pv 0) (pv 2)) (pa_cons (pe_op op_fdivW (pv 1) (pv 2)) pa_nil)))) pss_nil))), ?_⟩
    rw [show start ["n", "d", "common"] [u0, u1] = ([some u0, some u1, none] : L2.St) from rfl]
    obtain ⟨s2, e3, hm⟩ := bindS hm
    refine q_cut (fun σ16 H11 => ∃ v12 v14 B11, Ex B B11 ∧ Own K B11 M [] H11 ∧ σ16 = [some v12, some v14, none] ∧ (rInt).is K B11 v12 s2.1 ∧ (rInt).is K B11 v14 s2.2) ?_ ?_
    · skip
      refine q_ifc w (et_test (ev_lt (ev_varI rfl f1) (ev_int (i := 0)))) (fun hb1 B4 H4 x4 (w4 : Own K B4 M [] H4) => ?_) (fun hb1 B10 H10 x10 (w10 : Own K B10 M [] H10) => ?_)
      · skip
        rw [if_pos hb1] at e3
        refine q_par (n := 0) (m := 1) w4 (ea_cons (ev_neg (ev_varI rfl f0)) (ea_cons (ev_neg (ev_varI rfl f1)) ea_nil)) fun v6 v8 B5 H5 x5 (w5 : Own K B5 M [] H5) h7 h9 => ?_
        replace e3 : some _ = some _ := e3
        cases e3
        exact ⟨v6, v8, _, (x4.trans x5), w5, rfl, h7, h9⟩
      rw [if_neg (by rw [hb1]; exact Bool.false_ne_true)] at e3
      replace e3 : some _ = some _ := e3
      cases e3
      exact ⟨u0, u1, _, x10, w10, rfl, ((rInt).mono x10 f0), ((rInt).mono x10 f1)⟩
    rintro σ16' H11 ⟨v12, v14, B11, x11, w11, rfl, h13, h15⟩
    refine q_asg (n := 2) w11 (ev_gcd (ev_varI rfl h13) (ev_varI rfl h15)) fun v18 B17 H17 x17 (w17 : Own K B17 M [] H17) h19 => ?_
    obtain ⟨t20, e21, hm⟩ := bindS hm
    obtain ⟨t22, e23, hm⟩ := bindS hm
    replace hm : some _ = some _ := hm
    obtain rfl := Option.some.inj hm
    exact q_ret w17 (ev_T2 (ea_cons (ev_div (ev_varI rfl h13) (ev_varI rfl h19) e21) (ea_cons (ev_div (ev_varI rfl h15) (ev_varI rfl h19) e23) ea_nil))) fun v9 B9 H9 x9 w9 h9 => k _ _ _ ((x11.trans x17).trans x9) w9 h9
noncomputable def m_plus (a0 : (Int × Int)) (a1 : (Int × Int)) : Option (Int × Int) :=
  Option.bind (mulI a0.1 a1.2) fun t1 =>
  Option.bind (mulI a1.1 a0.2) fun t3 =>
  Option.bind (mulI a0.2 a1.2) fun t5 =>
  Option.bind (m_ratio ((t1 + t3)) t5) fun t7 =>
  some t7
def C_plus : List Arg → List Cell → Arg → List Cell → Prop := fun as L r L' => ∃ a0 a1 c, as = [⟨(rT2 rInt rInt), a0⟩, ⟨(rT2 rInt rInt), a1⟩] ∧ L = [] ∧ m_plus a0 a1 = some c ∧ r = ⟨(rT2 rInt rInt), c⟩ ∧ L' = []
theorem sc_plus : FnScope ["a", "b"] ["a", "b"] (defScope s_plus) := ⟨rfl, rfl, rfl, by decide +kernel, rfl, by decide +kernel, by decide +kernel⟩
set_option maxHeartbeats 4000000 in
theorem ok_plus (F : Fun K "plus" "plus" s_plus f fd) (c_ratio : Cl P w K mg base 1 "ratio" (spV K C_ratio) []) : FnOk P w K mg base CX0 2 f fd ["a", "b"] (spV K C_plus) := by
  refine F.ok sc_plus (fun vs H Q E h => ?_) (fun cdv A outer s H vs Q E hr h => ?_)
  · obtain ⟨B, M, L, as, r, L', w, ha, ⟨_, _, _, rfl, _⟩, k⟩ := h
    exact args_len ha
  · skip
    obtain ⟨B, M, L, as, r, L', w, ha, ⟨a0, a1, c, rfl, rfl, hm, rfl, rfl⟩, k⟩ := h
    obtain ⟨u0, u1, rfl, f0, f1⟩ := args2 ha
    replace f0 : ((rT2 rInt rInt)).is K B u0 a0 := f0
    replace f1 : ((rT2 rInt rInt)).is K B u1 a1 := f1
    unfold m_plus at hm
    refine ⟨_, (pss_cons (ps_ret (pe_c c_ratio hr (by omega) rfl (pa_cons (pe_op op_add (pe_op op_mulX (pe_ix ix_seq (pv 0) pe_int (fun _ _ => rfl)) (pe_ix ix_seq (pv 1) pe_int (fun _ _ => rfl))) (pe_op op_mulX (pe_ix ix_seq (pv 1) pe_int (fun _ _ => rfl)) (pe_ix ix_seq (pv 0) pe_int (fun _ _ => rfl)))) (pa_cons (pe_op op_mulX (pe_ix ix_seq (pv 0) pe_int (fun _ _ => rfl)) (pe_ix ix_seq (pv 1) pe_int (fun _ _ => rfl))) pa_nil)))) pss_nil), ?_⟩
    rw [show start ["a", "b"] [u0, u1] = ([some u0, some u1] : L2.St) from rfl]
    obtain ⟨t1, e2, hm⟩ := bindS hm
    obtain ⟨t3, e4, hm⟩ := bindS hm
    obtain ⟨t5, e6, hm⟩ := bindS hm
    obtain ⟨t7, e8, hm⟩ := bindS hm
    replace hm : some _ = some _ := hm
    obtain rfl := Option.some.inj hm
    exact q_ret w (ev_call (ea_cons (ev_add (ev_mul (ev_fst (ev_var rfl f0)) (ev_snd (ev_var rfl f1)) e2) (ev_mul (ev_fst (ev_var rfl f1)) (ev_snd (ev_var rfl f0)) e4)) (ea_cons (ev_mul (ev_snd (ev_var rfl f0)) (ev_snd (ev_var rfl f1)) e6) ea_nil)) ⟨_, _, _, rfl, rfl, e8, rfl, rfl⟩) fun v9 B9 H9 x9 w9 h9 => k _ _ _ ((Ex.refl _).trans x9) w9 h9
noncomputable def m_minus (a0 : (Int × Int)) (a1 : (Int × Int)) : Option (Int × Int) :=
  Option.bind (mulI a0.1 a1.2) fun t1 =>
  Option.bind (mulI a1.1 a0.2) fun t3 =>
  Option.bind (mulI a0.2 a1.2) fun t5 =>
  Option.bind (m_ratio ((t1 - t3)) t5) fun t7 =>
  some t7
def C_minus : List Arg → List Cell → Arg → List Cell → Prop := fun as L r L' => ∃ a0 a1 c, as = [⟨(rT2 rInt rInt), a0⟩, ⟨(rT2 rInt rInt), a1⟩] ∧ L = [] ∧ m_minus a0 a1 = some c ∧ r = ⟨(rT2 rInt rInt), c⟩ ∧ L' = []
theorem sc_minus : FnScope ["a", "b"] ["a", "b"] (defScope s_minus) := ⟨rfl, rfl, rfl, by decide +kernel, rfl, by decide +kernel, by decide +kernel⟩
set_option maxHeartbeats 4000000 in
theorem ok_minus (F : Fun K "minus" "minus" s_minus f fd) (c_ratio : Cl P w K mg base 1 "ratio" (spV K C_ratio) []) : FnOk P w K mg base CX0 2 f fd ["a", "b"] (spV K C_minus) := by
  refine F.ok sc_minus (fun vs H Q E h => ?_) (fun cdv A outer s H vs Q E hr h => ?_)
  · obtain ⟨B, M, L, as, r, L', w, ha, ⟨_, _, _, rfl, _⟩, k⟩ := h
    exact args_len ha
  · skip
    obtain ⟨B, M, L, as, r, L', w, ha, ⟨a0, a1, c, rfl, rfl, hm, rfl, rfl⟩, k⟩ := h
    obtain ⟨u0, u1, rfl, f0, f1⟩ := args2 ha
    replace f0 : ((rT2 rInt rInt)).is K B u0 a0 := f0
    replace f1 : ((rT2 rInt rInt)).is K B u1 a1 := f1
    unfold m_minus at hm
    refine ⟨_, (pss_cons (ps_ret (pe_c c_ratio hr (by omega) rfl (pa_cons (pe_op op_sub (pe_op op_mulX (pe_ix ix_seq (pv 0) pe_int (fun _ _ => rfl)) (pe_ix ix_seq (pv 1) pe_int (fun _ _ => rfl))) (pe_op op_mulX (pe_ix ix_seq (pv 1) pe_int (fun _ _ => rfl)) (pe_ix ix_seq (pv 0) pe_int (fun _ _ => rfl)))) (pa_cons (pe_op op_mulX (pe_ix ix_seq (pv 0) pe_int (fun _ _ => rfl)) (pe_ix ix_seq (pv 1) pe_int (fun _ _ => rfl))) pa_nil)))) pss_nil), ?_⟩
    rw [show start ["a", "b"] [u0, u1] = ([some u0, some u1] : L2.St) from rfl]
    obtain ⟨t1, e2, hm⟩ := bindS hm
    obtain ⟨t3, e4, hm⟩ := bindS hm
    obtain ⟨t5, e6, hm⟩ := bindS hm
    obtain ⟨t7, e8, hm⟩ := bindS hm
    replace hm : some _ = some _ := hm
    obtain rfl := Option.some.inj hm
    exact q_ret w (ev_call (ea_cons (ev_sub (ev_mul (ev_fst (ev_var rfl f0)) (ev_snd (ev_var rfl f1)) e2) (ev_mul (ev_fst (ev_var rfl f1)) (ev_snd (ev_var rfl f0)) e4)) (ea_cons (ev_mul (ev_snd (ev_var rfl f0)) (ev_snd (ev_var rfl f1)) e6) ea_nil)) ⟨_, _, _, rfl, rfl, e8, rfl, rfl⟩) fun v9 B9 H9 x9 w9 h9 => k _ _ _ ((Ex.refl _).trans x9) w9 h9
noncomputable def m_times (a0 : (Int × Int)) (a1 : (Int × Int)) : Option (Int × Int) :=
  Option.bind (mulI a0.1 a1.1) fun t1 =>
  Option.bind (mulI a0.2 a1.2) fun t3 =>
  Option.bind (m_ratio t1 t3) fun t5 =>
  some t5
def C_times : List Arg → List Cell → Arg → List Cell → Prop := fun as L r L' => ∃ a0 a1 c, as = [⟨(rT2 rInt rInt), a0⟩, ⟨(rT2 rInt rInt), a1⟩] ∧ L = [] ∧ m_times a0 a1 = some c ∧ r = ⟨(rT2 rInt rInt), c⟩ ∧ L' = []
theorem sc_times : FnScope ["a", "b"] ["a", "b"] (defScope s_times) := ⟨rfl, rfl, rfl, by decide +kernel, rfl, by decide +kernel, by decide +kernel⟩
set_option maxHeartbeats 4000000 in
theorem ok_times (F : Fun K "times" "times" s_times f fd) (c_ratio : Cl P w K mg base 1 "ratio" (spV K C_ratio) []) : FnOk P w K mg base CX0 2 f fd ["a", "b"] (spV K C_times) := by
  refine F.ok sc_times (fun vs H Q E h => ?_) (fun cdv A outer s H vs Q E hr h => ?_)
  · obtain ⟨B, M, L, as, r, L', w, ha, ⟨_, _, _, rfl, _⟩, k⟩ := h
    exact args_len ha
  · skip
    obtain ⟨B, M, L, as, r, L', w, ha, ⟨a0, a1, c, rfl, rfl, hm, rfl, rfl⟩, k⟩ := h
    obtain ⟨u0, u1, rfl, f0, f1⟩ := args2 ha
    replace f0 : ((rT2 rInt rInt)).is K B u0 a0 := f0
    replace f1 : ((rT2 rInt rInt)).is K B u1 a1 := f1
    unfold m_times at hm
    refine ⟨_, (pss_cons (ps_ret (pe_c c_ratio hr (by omega) rfl (pa_cons (pe_op op_mulX (pe_ix ix_seq (pv 0) pe_int (fun _ _ => rfl)) (pe_ix ix_seq (pv 1) pe_int (fun _ _ => rfl))) (pa_cons (pe_op op_mulX (pe_ix ix_seq (pv 0) pe_int (fun _ _ => rfl)) (pe_ix ix_seq (pv 1) pe_int (fun _ _ => rfl))) pa_nil)))) pss_nil), ?_⟩
    rw [show start ["a", "b"] [u0, u1] = ([some u0, some u1] : L2.St) from rfl]
    obtain ⟨t1, e2, hm⟩ := bindS hm
    obtain ⟨t3, e4, hm⟩ := bindS hm
    obtain ⟨t5, e6, hm⟩ := bindS hm
    replace hm : some _ = some _ := hm
    obtain rfl := Option.some.inj hm
    exact q_ret w (ev_call (ea_cons (ev_mul (ev_fst (ev_var rfl f0)) (ev_fst (ev_var rfl f1)) e2) (ea_cons (ev_mul (ev_snd (ev_var rfl f0)) (ev_snd (ev_var rfl f1)) e4) ea_nil)) ⟨_, _, _, rfl, rfl, e6, rfl, rfl⟩) fun v9 B9 H9 x9 w9 h9 => k _ _ _ ((Ex.refl _).trans x9) w9 h9
noncomputable def m_over (a0 : (Int × Int)) (a1 : (Int × Int)) : Option (Int × Int) :=
  Option.bind (mulI a0.1 a1.2) fun t1 =>
  Option.bind (mulI a0.2 a1.1) fun t3 =>
  Option.bind (m_ratio t1 t3) fun t5 =>
  some t5
def C_over : List Arg → List Cell → Arg → List Cell → Prop := fun as L r L' => ∃ a0 a1 c, as = [⟨(rT2 rInt rInt), a0⟩, ⟨(rT2 rInt rInt), a1⟩] ∧ L = [] ∧ m_over a0 a1 = some c ∧ r = ⟨(rT2 rInt rInt), c⟩ ∧ L' = []
theorem sc_over : FnScope ["a", "b"] ["a", "b"] (defScope s_over) := ⟨rfl, rfl, rfl, by decide +kernel, rfl, by decide +kernel, by decide +kernel⟩
set_option maxHeartbeats 4000000 in
theorem ok_over (F : Fun K "over" "over" s_over f fd) (c_ratio : Cl P w K mg base 1 "ratio" (spV K C_ratio) []) : FnOk P w K mg base CX0 2 f fd ["a", "b"] (spV K C_over) := by
  refine F.ok sc_over (fun vs H Q E h => ?_) (fun cdv A outer s H vs Q E hr h => ?_)
  · obtain ⟨B, M, L, as, r, L', w, ha, ⟨_, _, _, rfl, _⟩, k⟩ := h
    exact args_len ha
  · skip
    obtain ⟨B, M, L, as, r, L', w, ha, ⟨a0, a1, c, rfl, rfl, hm, rfl, rfl⟩, k⟩ := h
    obtain ⟨u0, u1, rfl, f0, f1⟩ := args2 ha
    replace f0 : ((rT2 rInt rInt)).is K B u0 a0 := f0
    replace f1 : ((rT2 rInt rInt)).is K B u1 a1 := f1
    unfold m_over at hm
    refine ⟨_, (pss_cons (ps_ret (pe_c c_ratio hr (by omega) rfl (pa_cons (pe_op op_mulX (pe_ix ix_seq (pv 0) pe_int (fun _ _ => rfl)) (pe_ix ix_seq (pv 1) pe_int (fun _ _ => rfl))) (pa_cons (pe_op op_mulX (pe_ix ix_seq (pv 0) pe_int (fun _ _ => rfl)) (pe_ix ix_seq (pv 1) pe_int (fun _ _ => rfl))) pa_nil)))) pss_nil), ?_⟩
    rw [show start ["a", "b"] [u0, u1] = ([some u0, some u1] : L2.St) from rfl]
    obtain ⟨t1, e2, hm⟩ := bindS hm
    obtain ⟨t3, e4, hm⟩ := bindS hm
    obtain ⟨t5, e6, hm⟩ := bindS hm
    replace hm : some _ = some _ := hm
    obtain rfl := Option.some.inj hm
    exact q_ret w (ev_call (ea_cons (ev_mul (ev_fst (ev_var rfl f0)) (ev_snd (ev_var rfl f1)) e2) (ea_cons (ev_mul (ev_snd (ev_var rfl f0)) (ev_fst (ev_var rfl f1)) e4) ea_nil)) ⟨_, _, _, rfl, rfl, e6, rfl, rfl⟩) fun v9 B9 H9 x9 w9 h9 => k _ _ _ ((Ex.refl _).trans x9) w9 h9
noncomputable def m_is_less (a0 : (Int × Int)) (a1 : (Int × Int)) : Option Bool :=
  Option.bind (mulI a0.1 a1.2) fun t1 =>
  Option.bind (mulI a1.1 a0.2) fun t3 =>
  some (decide (t1 < t3))
def C_is_less : List Arg → List Cell → Arg → List Cell → Prop := fun as L r L' => ∃ a0 a1 c, as = [⟨(rT2 rInt rInt), a0⟩, ⟨(rT2 rInt rInt), a1⟩] ∧ L = [] ∧ m_is_less a0 a1 = some c ∧ r = ⟨rBool, c⟩ ∧ L' = []
theorem sc_is_less : FnScope ["a", "b"] ["a", "b"] (defScope s_is_less) := ⟨rfl, rfl, rfl, by decide +kernel, rfl, by decide +kernel, by decide +kernel⟩
set_option maxHeartbeats 4000000 in
theorem ok_is_less (F : Fun K "is_less" "is_less" s_is_less f fd)  : FnOk P w K mg base CX0 1 f fd ["a", "b"] (spV K C_is_less) := by
  refine F.ok sc_is_less (fun vs H Q E h => ?_) (fun cdv A outer s H vs Q E hr h => ?_)
  · obtain ⟨B, M, L, as, r, L', w, ha, ⟨_, _, _, rfl, _⟩, k⟩ := h
    exact args_len ha
  · skip
    obtain ⟨B, M, L, as, r, L', w, ha, ⟨a0, a1, c, rfl, rfl, hm, rfl, rfl⟩, k⟩ := h
    obtain ⟨u0, u1, rfl, f0, f1⟩ := args2 ha
    replace f0 : ((rT2 rInt rInt)).is K B u0 a0 := f0
    replace f1 : ((rT2 rInt rInt)).is K B u1 a1 := f1
    unfold m_is_less at hm
    refine ⟨_, (pss_cons (ps_ret (pe_cmpR op_lt (pe_op op_mulX (pe_ix ix_seq (pv 0) pe_int (fun _ _ => rfl)) (pe_ix ix_seq (pv 1) pe_int (fun _ _ => rfl))) (pe_op op_mulX (pe_ix ix_seq (pv 1) pe_int (fun _ _ => rfl)) (pe_ix ix_seq (pv 0) pe_int (fun _ _ => rfl))) (nomark _))) pss_nil), ?_⟩
    rw [show start ["a", "b"] [u0, u1] = ([some u0, some u1] : L2.St) from rfl]
    obtain ⟨t1, e2, hm⟩ := bindS hm
    obtain ⟨t3, e4, hm⟩ := bindS hm
    replace hm : some _ = some _ := hm
    obtain rfl := Option.some.inj hm
    exact q_ret w (ev_lt (ev_mul (ev_fst (ev_var rfl f0)) (ev_snd (ev_var rfl f1)) e2) (ev_mul (ev_fst (ev_var rfl f1)) (ev_snd (ev_var rfl f0)) e4)) fun v9 B9 H9 x9 w9 h9 => k _ _ _ ((Ex.refl _).trans x9) w9 h9
noncomputable def m_l_tape (a0 : (List Int)) : Option (List Int) :=
  Option.bind (foldO (S := (List Int)) (α := Int) (fun (s3 : (List Int)) (x4 : Int) => (
    Option.bind (mulI ((2 : Int)) x4) fun t26 =>
    Option.bind (if (decide (t26 < (0 : Int))) = true then
      some (((-(1 : Int)) - t26))
    else
      some t26
    ) fun (s32 : Int) =>
    Option.bind (powI ((10 : Int)) ((18 : Int))) fun t43 =>
    Option.bind (if (decide (s32 ≥ t43)) = true then
      Option.bind (foldO (S := (Int × (List Int))) (α := Int) (fun (s49 : (Int × (List Int))) (x50 : Int) => (
        Option.bind (if (decide (s49.1 > (0 : Int))) = true then
          Option.bind (modI s49.1 ((1000 : Int))) fun t75 =>
          Option.bind (room s49.2.length) fun t77 =>
          Option.bind (divI s49.1 ((1000 : Int))) fun t80 =>
          some ((t80, (s49.2 ++ [t75])))
        else
          some ((s49.1, s49.2))
        ) fun (s72 : (Int × (List Int))) =>
        some ((s72.1, s72.2))
      )) ((s32, s3)) ((rng 0 ((40 : Int))))) fun s90 =>
      some ((s90.1, s90.2))
    else
      Option.bind (foldO (S := (List Int)) (α := Int) (fun (s101 : (List Int)) (x102 : Int) => (
        Option.bind (mulI s32 ((48271 : Int))) fun t122 =>
        Option.bind (mulI x102 ((40503 : Int))) fun t124 =>
        Option.bind (modI (((t122 + t124) + (11 : Int))) ((2147483629 : Int))) fun t126 =>
        Option.bind (mulI t126 ((69621 : Int))) fun t131 =>
        Option.bind (divI t126 ((65536 : Int))) fun t133 =>
        Option.bind (modI ((t131 + t133)) ((2147483629 : Int))) fun t135 =>
        Option.bind (room s101.length) fun t137 =>
        some ((s101 ++ [t135]))
      )) s3 ((rng 0 ((3 : Int))))) fun s140 =>
      some ((s32, s140))
    ) fun (s46 : (Int × (List Int))) =>
    some s46.2
  )) (([] : List Int)) a0) fun s155 =>
  some s155
def C__law_tape : List Arg → List Cell → Arg → List Cell → Prop := fun as L r L' => ∃ a0 c, as = [⟨(rLst rInt), a0⟩] ∧ L = [] ∧ m_l_tape a0 = some c ∧ r = ⟨(rLst rInt), c⟩ ∧ L' = []
theorem sc__law_tape : FnScope ["_law_script", "_law_tape_here", "_law_cell", "_law_number_here", "_law_k", "_law_first"] ["_law_script"] (defScope s__law_tape) := ⟨rfl, rfl, rfl, by decide +kernel, rfl, by decide +kernel, by decide +kernel⟩
set_option maxHeartbeats 4000000 in
theorem ok__law_tape (F : Fun K "_law_tape" "_law_tape" s__law_tape f fd) (z_int : mg "int" = none) (z_range : mg "range" = none) : FnOk P w K mg base CX0 1 f fd ["_law_script"] (spV K C__law_tape) := by
  refine F.ok sc__law_tape (fun vs H Q E h => ?_) (fun cdv A outer s H vs Q E hr h => ?_)
  · obtain ⟨B, M, L, as, r, L', w, ha, ⟨_, _, rfl, _⟩, k⟩ := h
    exact args_len ha
  · skip
    obtain ⟨B, M, L, as, r, L', w, ha, ⟨a0, c, rfl, rfl, hm, rfl, rfl⟩, k⟩ := h
    obtain ⟨u0, rfl, f0⟩ := args1 ha
    replace f0 : ((rLst rInt)).is K B u0 a0 := f0
    unfold m_l_tape at hm
    refine ⟨_, (pss_cons (ps_set (i := 1) sc__law_tape.nd rfl (by first | exact Or.inl rfl | exact Or.inr rfl) (pe_lst pa_nil)) (pss_cons (ps_for PassesOwn.never rfl (pi_list (pv 0)) (pg_name (i := 2) sc__law_tape.nd rfl (by first | exact Or.inl rfl | exact Or.inr rfl)) (pss_cons (ps_set (i := 3) sc__law_tape.nd rfl (by first | exact Or.inl rfl | exact Or.inr rfl) (pe_op op_mulX pe_int (pe_callTy call_int1 rfl z_int bt_int (pa_cons (pv 2) pa_nil)))) (Evl.pss_cut (ps_if (pt_cmpR op_lt (pv 3) pe_int (nomark _)) (pss_cons (ps_set (i := 3) sc__law_tape.nd rfl (by first | exact Or.inl rfl | exact Or.inr rfl) (pe_op op_sub (pe_un un_neg pe_int) (pv 3))) pss_nil) pss_nil) (Evl.pss_cut (ps_if (pt_cmpR op_ge (pv 3) (pe_op op_pow pe_int pe_int) (nomark _)) (pss_cons (ps_for PassesOwn.never rfl (pi_range1 rfl z_range (pa_cons pe_int pa_nil)) (pg_name (i := 4) sc__law_tape.nd rfl (by first | exact Or.inl rfl | exact Or.inr rfl)) (Evl.pss_cut (ps_if (pt_cmpR op_gt (pv 3) pe_int (nomark _)) (pss_cons (ps_expr (pe_bm PySem.F.plainAttrs_list PySem.F.slot_list_append PySem.F.type_list_append mt_append (pv 1) (pa_cons (pe_op op_mod (pe_callTy call_int1 rfl z_int bt_int (pa_cons (pv 3) pa_nil)) pe_int) pa_nil))) (pss_cons (ps_set (i := 3) sc__law_tape.nd rfl (by first | exact Or.inl rfl | exact Or.inr rfl) (pe_op op_fdivW (pv 3) pe_int)) pss_nil)) pss_nil) pss_nil)) pss_nil) (pss_cons (ps_for PassesOwn.never rfl (pi_range1 rfl z_range (pa_cons pe_int pa_nil)) (pg_name (i := 4) sc__law_tape.nd rfl (by first | exact Or.inl rfl | exact Or.inr rfl)) (pss_cons (ps_set (i := 5) sc__law_tape.nd rfl (by first | exact Or.inl rfl | exact Or.inr rfl) (pe_op op_mod (pe_callTy call_int1 rfl z_int bt_int (pa_cons (pe_op op_add (pe_op op_add (pe_op op_mulX (pv 3) pe_int) (pe_op op_mulX (pv 4) pe_int)) pe_int) pa_nil)) pe_int)) (pss_cons (ps_expr (pe_bm PySem.F.plainAttrs_list PySem.F.slot_list_append PySem.F.type_list_append mt_append (pv 1) (pa_cons (pe_op op_mod (pe_callTy call_int1 rfl z_int bt_int (pa_cons (pe_op op_add (pe_op op_mulX (pv 5) pe_int) (pe_op op_fdivW (pv 5) pe_int)) pa_nil)) pe_int) pa_nil))) pss_nil))) pss_nil)) pss_nil)))) (pss_cons (ps_ret (pv 1)) pss_nil))), ?_⟩
    rw [show start ["_law_script", "_law_tape_here", "_law_cell", "_law_number_here", "_law_k", "_law_first"] [u0] = ([some u0, none, none, none, none, none] : L2.St) from rfl]
    refine q_asgL (n := 1) w (el_lst (r := rInt) ([] : List Int) ea_nil) fun p2 B1 H1 x1 (w1 : Own K B1 M [⟨p2, (cLst rInt), ([] : List Int)⟩] H1) => ?_
    obtain ⟨s155, e7, hm⟩ := bindS hm
    refine q_fold w1 (ei_lst (ev_var rfl (((rLst rInt)).mono x1 f0))) _ (fun s3 B8 σ21 => ∃ o22 o23 o24 o25, σ21 = [some u0, some (.ref p2), o22, o23, o24, o25]) (fun s3 => [⟨p2, (cLst rInt), s3⟩]) (([] : List Int)) e7 (fun B9 x9 => ⟨_, _, _, _, rfl⟩) rfl ?_ ?_
    · skip
      rintro s3 x4 s165 v14 B8 B9 H10 σ21 hb5 x11 ⟨o22, o23, o24, o25, rfl⟩ x12 w13 h15 N16 K17 hN18
      replace w13 : Own K B9 M [⟨p2, (cLst rInt), s3⟩] H10 := w13
      refine g_name ?_
      obtain ⟨t26, e27, hb5⟩ := bindS hb5
      refine q_asg (n := 3) w13 (ev_mul (ev_int (i := 2)) (ev_intI (ev_varI rfl h15)) e27) fun v29 B28 H28 x28 (w28 : Own K B28 M [⟨p2, (cLst rInt), s3⟩] H28) h30 => ?_
      obtain ⟨s32, e33, hb5⟩ := bindS hb5
      refine q_cut (fun σ42 H39 => ∃ v40 B39, Ex B28 B39 ∧ Own K B39 M [⟨p2, (cLst rInt), s3⟩] H39 ∧ σ42 = [some u0, some (.ref p2), some v14, some v40, o24, o25] ∧ (rInt).is K B39 v40 s32) ?_ ?_
      · skip
        refine q_ifc w28 (et_test (ev_lt (ev_varI rfl h30) (ev_int (i := 0)))) (fun hb31 B34 H34 x34 (w34 : Own K B34 M [⟨p2, (cLst rInt), s3⟩] H34) => ?_) (fun hb31 B38 H38 x38 (w38 : Own K B38 M [⟨p2, (cLst rInt), s3⟩] H38) => ?_)
        · skip
          rw [if_pos hb31] at e33
          refine q_asg (n := 3) w34 (ev_sub (ev_neg (ev_int (i := 1))) (ev_varI rfl h30)) fun v36 B35 H35 x35 (w35 : Own K B35 M [⟨p2, (cLst rInt), s3⟩] H35) h37 => ?_
          replace e33 : some _ = some _ := e33
          cases e33
          exact ⟨v36, _, (x34.trans x35), w35, rfl, h37⟩
        rw [if_neg (by rw [hb31]; exact Bool.false_ne_true)] at e33
        replace e33 : some _ = some _ := e33
        cases e33
        exact ⟨v29, _, x38, w38, rfl, ((rInt).mono x38 h30)⟩
      rintro σ42' H39 ⟨v40, B39, x39, w39, rfl, h41⟩
      obtain ⟨t43, e44, hb5⟩ := bindS hb5
      obtain ⟨s46, e47, hb5⟩ := bindS hb5
      refine q_cut (fun σ154 H149 => ∃ v150 o152 o153 B149, Ex B39 B149 ∧ Own K B149 M [⟨p2, (cLst rInt), s46.2⟩] H149 ∧ σ154 = [some u0, some (.ref p2), some v14, some v150, o152, o153] ∧ (rInt).is K B149 v150 s46.1) ?_ ?_
      · skip
        refine q_ifc w39 (et_test (ev_ge (ev_varI rfl h41) (ev_pow (ev_int (i := 10)) (ev_int (i := 18)) e44))) (fun hb45 B48 H48 x48 (w48 : Own K B48 M [⟨p2, (cLst rInt), s3⟩] H48) => ?_) (fun hb45 B100 H100 x100 (w100 : Own K B100 M [⟨p2, (cLst rInt), s3⟩] H100) => ?_)
        · skip
          rw [if_pos hb45] at e47
          obtain ⟨s90, e53, e47⟩ := bindS e47
          refine q_fold w48 (ei_rng1 (ea_cons (ev_int (i := 40)) ea_nil) (by decide)) _ (fun s49 B54 σ67 => ∃ v68 o70, σ67 = [some u0, some (.ref p2), some v14, some v68, o70, o25] ∧ (rInt).is K B54 v68 s49.1) (fun s49 => [⟨p2, (cLst rInt), s49.2⟩]) ((s32, s3)) e53 (fun B9 x9 => ⟨v40, _, rfl, ((rInt).mono x9 ((rInt).mono x48 h41))⟩) rfl ?_ ?_
          · skip
            rintro s49 x50 s99 v60 B54 B55 H56 σ67 hb51 x57 ⟨v68, o70, rfl, h69⟩ x58 w59 h61 N62 K63 hN64
            replace w59 : Own K B55 M [⟨p2, (cLst rInt), s49.2⟩] H56 := w59
            refine g_name ?_
            obtain ⟨s72, e73, hb51⟩ := bindS hb51
            refine q_cut (fun σ89 H86 => ∃ v87 B86, Ex B55 B86 ∧ Own K B86 M [⟨p2, (cLst rInt), s72.2⟩] H86 ∧ σ89 = [some u0, some (.ref p2), some v14, some v87, some v60, o25] ∧ (rInt).is K B86 v87 s72.1) ?_ ?_
            · skip
              refine q_ifc w59 (et_test (ev_gt (ev_varI rfl h69) (ev_int (i := 0)))) (fun hb71 B74 H74 x74 (w74 : Own K B74 M [⟨p2, (cLst rInt), s49.2⟩] H74) => ?_) (fun hb71 B85 H85 x85 (w85 : Own K B85 M [⟨p2, (cLst rInt), s49.2⟩] H85) => ?_)
              · skip
                rw [if_pos hb71] at e73
                obtain ⟨t75, e76, e73⟩ := bindS e73
                obtain ⟨t77, e78, e73⟩ := bindS e73
                refine q_app (n := 0) (m := 1) w74 rfl (ev_mod (ev_intI (ev_varI rfl h69)) (ev_int (i := 1000)) e76) rfl ⟨0, _, rfl⟩ e78 fun B79 H79 x79 (w79 : Own K B79 M [⟨p2, (cLst rInt), (s49.2 ++ [t75])⟩] H79) => ?_
                obtain ⟨t80, e81, e73⟩ := bindS e73
                refine q_asg (n := 3) w79 (ev_div (ev_varI rfl h69) (ev_int (i := 1000)) e81) fun v83 B82 H82 x82 (w82 : Own K B82 M [⟨p2, (cLst rInt), (s49.2 ++ [t75])⟩] H82) h84 => ?_
                replace e73 : some _ = some _ := e73
                cases e73
                exact ⟨v83, _, ((x74.trans x79).trans x82), w82, rfl, h84⟩
              rw [if_neg (by rw [hb71]; exact Bool.false_ne_true)] at e73
              replace e73 : some _ = some _ := e73
              cases e73
              exact ⟨v68, _, x85, w85, rfl, ((rInt).mono (x58.trans x85) h69)⟩
            rintro σ89' H86 ⟨v87, B86, x86, w86, rfl, h88⟩
            replace hb51 : some _ = some _ := hb51
            cases hb51
            exact hN64 _ _ _ x86 w86 ⟨v87, _, rfl, h88⟩
          rintro B91 H92 σ95 x93 w94 ⟨v96, o98, rfl, h97⟩
          replace w94 : Own K B91 M [⟨p2, (cLst rInt), s90.2⟩] H92 := w94
          replace e47 : some _ = some _ := e47
          cases e47
          exact ⟨v96, _, _, _, (x48.trans x93), w94, rfl, h97⟩
        rw [if_neg (by rw [hb45]; exact Bool.false_ne_true)] at e47
        obtain ⟨s140, e105, e47⟩ := bindS e47
        refine q_fold w100 (ei_rng1 (ea_cons (ev_int (i := 3)) ea_nil) (by decide)) _ (fun s101 B106 σ119 => ∃ o120 o121, σ119 = [some u0, some (.ref p2), some v14, some v40, o120, o121]) (fun s101 => [⟨p2, (cLst rInt), s101⟩]) s3 e105 (fun B9 x9 => ⟨_, _, rfl⟩) rfl ?_ ?_
        · skip
          rintro s101 x102 s148 v112 B106 B107 H108 σ119 hb103 x109 ⟨o120, o121, rfl⟩ x110 w111 h113 N114 K115 hN116
          replace w111 : Own K B107 M [⟨p2, (cLst rInt), s101⟩] H108 := w111
          refine g_name ?_
          obtain ⟨t122, e123, hb103⟩ := bindS hb103
          obtain ⟨t124, e125, hb103⟩ := bindS hb103
          obtain ⟨t126, e127, hb103⟩ := bindS hb103
          refine q_asg (n := 5) w111 (ev_mod (ev_intI (ev_add (ev_add (ev_mul (ev_varI rfl h41) (ev_int (i := 48271)) e123) (ev_mul (ev_varI rfl h113) (ev_int (i := 40503)) e125)) (ev_int (i := 11)))) (ev_int (i := 2147483629)) e127) fun v129 B128 H128 x128 (w128 : Own K B128 M [⟨p2, (cLst rInt), s101⟩] H128) h130 => ?_
          obtain ⟨t131, e132, hb103⟩ := bindS hb103
          obtain ⟨t133, e134, hb103⟩ := bindS hb103
          obtain ⟨t135, e136, hb103⟩ := bindS hb103
          obtain ⟨t137, e138, hb103⟩ := bindS hb103
          refine q_app (n := 0) (m := 1) w128 rfl (ev_mod (ev_intI (ev_add (ev_mul (ev_varI rfl h130) (ev_int (i := 69621)) e132) (ev_div (ev_varI rfl h130) (ev_int (i := 65536)) e134))) (ev_int (i := 2147483629)) e136) rfl ⟨0, _, rfl⟩ e138 fun B139 H139 x139 (w139 : Own K B139 M [⟨p2, (cLst rInt), (s101 ++ [t135])⟩] H139) => ?_
          replace hb103 : some _ = some _ := hb103
          cases hb103
          exact hN116 _ _ _ (x128.trans x139) w139 ⟨_, _, rfl⟩
        rintro B141 H142 σ145 x143 w144 ⟨o146, o147, rfl⟩
        replace w144 : Own K B141 M [⟨p2, (cLst rInt), s140⟩] H142 := w144
        replace e47 : some _ = some _ := e47
        cases e47
        exact ⟨v40, _, _, _, (x100.trans x143), w144, rfl, ((rInt).mono (x100.trans x143) h41)⟩
      rintro σ154' H149 ⟨v150, o152, o153, B149, x149, w149, rfl, h151⟩
      replace hb5 : some _ = some _ := hb5
      cases hb5
      exact hN18 _ _ _ ((x28.trans x39).trans x149) w149 ⟨_, _, _, _, rfl⟩
    rintro B156 H157 σ160 x158 w159 ⟨o161, o162, o163, o164, rfl⟩
    replace w159 : Own K B156 M [⟨p2, (cLst rInt), s155⟩] H157 := w159
    replace hm : some _ = some _ := hm
    obtain rfl := Option.some.inj hm
    exact q_retC (n := 0) (m := 1) w159 rfl rfl fun v9 B9 x9 w9 h9 => k _ _ _ ((x1.trans x158).trans x9) w9 h9
noncomputable def m_l_draw (a0 : (List Int)) (a1 : Int) (a2 : Int) : Option Int :=
  if (decide (a1 < (a0.length : Int))) = true then
    Option.bind (ixL a0 a1) fun t3 =>
    Option.bind (modI t3 a2) fun t5 =>
    some t5
  else
    Option.bind (if (decide ((a0.length : Int) > (0 : Int))) = true then
      Option.bind (modI a1 ((a0.length : Int))) fun t15 =>
      Option.bind (ixL a0 t15) fun t17 =>
      some t17
    else
      some ((1 : Int))
    ) fun (s12 : Int) =>
    Option.bind (mulI ((s12 + a1)) ((a1 + (3 : Int)))) fun t27 =>
    Option.bind (mulI t27 ((7919 : Int))) fun t29 =>
    Option.bind (mulI a1 ((104729 : Int))) fun t31 =>
    Option.bind (modI ((t29 + t31)) ((65521 : Int))) fun t33 =>
    Option.bind (modI t33 a2) fun t35 =>
    some t35
def C__law_draw : List Arg → List Cell → Arg → List Cell → Prop := fun as L r L' => ∃ a0 a1 a2 c, as = [⟨(rLst rInt), a0⟩, ⟨rInt, a1⟩, ⟨rInt, a2⟩] ∧ L = [] ∧ m_l_draw a0 a1 a2 = some c ∧ r = ⟨rInt, c⟩ ∧ L' = []
theorem sc__law_draw : FnScope ["_law_tape_here", "_law_at", "_law_many", "_law_number_here"] ["_law_tape_here", "_law_at", "_law_many"] (defScope s__law_draw) := ⟨rfl, rfl, rfl, by decide +kernel, rfl, by decide +kernel, by decide +kernel⟩
set_option maxHeartbeats 4000000 in
theorem ok__law_draw (F : Fun K "_law_draw" "_law_draw" s__law_draw f fd) (z_len : mg "len" = none) (z_int : mg "int" = none) : FnOk P w K mg base CX0 1 f fd ["_law_tape_here", "_law_at", "_law_many"] (spV K C__law_draw) := by
  refine F.ok sc__law_draw (fun vs H Q E h => ?_) (fun cdv A outer s H vs Q E hr h => ?_)
  · obtain ⟨B, M, L, as, r, L', w, ha, ⟨_, _, _, _, rfl, _⟩, k⟩ := h
    exact args_len ha
  · skip
    obtain ⟨B, M, L, as, r, L', w, ha, ⟨a0, a1, a2, c, rfl, rfl, hm, rfl, rfl⟩, k⟩ := h
    obtain ⟨u0, u1, u2, rfl, f0, f1, f2⟩ := args3 ha
    replace f0 : ((rLst rInt)).is K B u0 a0 := f0
    replace f1 : (rInt).is K B u1 a1 := f1
    replace f2 : (rInt).is K B u2 a2 := f2
    unfold m_l_draw at hm
    refine ⟨_, (pss_cons (ps_if (pt_cmpR op_lt (pv 1) (pe_callB call_len_seq rfl z_len bt_len (pa_cons (pv 0) pa_nil)) (nomark _)) (pss_cons (ps_ret (pe_op op_mod (pe_callTy call_int1 rfl z_int bt_int (pa_cons (pe_ix ix_seq (pv 0) (pv 1) (fun _ _ => rfl)) pa_nil)) (pv 2))) pss_nil) pss_nil) (pss_cons (ps_set (i := 3) sc__law_draw.nd rfl (by first | exact Or.inl rfl | exact Or.inr rfl) pe_int) (Evl.pss_cut (ps_if (pt_cmpR op_gt (pe_callB call_len_seq rfl z_len bt_len (pa_cons (pv 0) pa_nil)) pe_int (nomark _)) (pss_cons (ps_set (i := 3) sc__law_draw.nd rfl (by first | exact Or.inl rfl | exact Or.inr rfl) (pe_ix ix_seq (pv 0) (pe_op op_mod (pe_callTy call_int1 rfl z_int bt_int (pa_cons (pv 1) pa_nil)) (pe_callB call_len_seq rfl z_len bt_len (pa_cons (pv 0) pa_nil))) (fun _ _ => rfl))) pss_nil) pss_nil) (pss_cons (ps_ret (pe_op op_mod (pe_op op_mod (pe_callTy call_int1 rfl z_int bt_int (pa_cons (pe_op op_add (pe_op op_mulX (pe_op op_mulX (pe_op op_add (pv 3) (pv 1)) (pe_op op_add (pv 1) pe_int)) pe_int) (pe_op op_mulX (pv 1) pe_int)) pa_nil)) pe_int) (pv 2))) pss_nil)))), ?_⟩
    rw [show start ["_law_tape_here", "_law_at", "_law_many", "_law_number_here"] [u0, u1, u2] = ([some u0, some u1, some u2, none] : L2.St) from rfl]
    refine q_if w (et_test (ev_lt (ev_varI rfl f1) (ev_len (ev_seqL (ev_var rfl f0))))) (fun hb1 B2 H2 x2 (w2 : Own K B2 M [] H2) => ?_) (fun hb1 B7 H7 x7 (w7 : Own K B7 M [] H7) => ?_)
    · skip
      rw [if_pos hb1] at hm
      obtain ⟨t3, e4, hm⟩ := bindS hm
      obtain ⟨t5, e6, hm⟩ := bindS hm
      replace hm : some _ = some _ := hm
      obtain rfl := Option.some.inj hm
      exact q_ret w2 (ev_mod (ev_intI (ev_ix (ev_seqL (ev_var rfl (((rLst rInt)).mono x2 f0))) (ev_varI rfl f1) e4)) (ev_varI rfl f2) e6) fun v9 B9 H9 x9 w9 h9 => k _ _ _ (x2.trans x9) w9 h9
    rw [if_neg (by rw [hb1]; exact Bool.false_ne_true)] at hm
    refine q_asg (n := 3) w7 (ev_int (i := 1)) fun v9 B8 H8 x8 (w8 : Own K B8 M [] H8) h10 => ?_
    obtain ⟨s12, e13, hm⟩ := bindS hm
    refine q_cut (fun σ26 H23 => ∃ v24 B23, Ex B8 B23 ∧ Own K B23 M [] H23 ∧ σ26 = [some u0, some u1, some u2, some v24] ∧ (rInt).is K B23 v24 s12) ?_ ?_
    · skip
      refine q_ifc w8 (et_test (ev_gt (ev_len (ev_seqL (ev_var rfl (((rLst rInt)).mono (x7.trans x8) f0)))) (ev_int (i := 0)))) (fun hb11 B14 H14 x14 (w14 : Own K B14 M [] H14) => ?_) (fun hb11 B22 H22 x22 (w22 : Own K B22 M [] H22) => ?_)
      · skip
        rw [if_pos hb11] at e13
        obtain ⟨t15, e16, e13⟩ := bindS e13
        obtain ⟨t17, e18, e13⟩ := bindS e13
        refine q_asg (n := 3) w14 (ev_ix (ev_seqL (ev_var rfl (((rLst rInt)).mono ((x7.trans x8).trans x14) f0))) (ev_mod (ev_intI (ev_varI rfl f1)) (ev_len (ev_seqL (ev_var rfl (((rLst rInt)).mono ((x7.trans x8).trans x14) f0)))) e16) e18) fun v20 B19 H19 x19 (w19 : Own K B19 M [] H19) h21 => ?_
        replace e13 : some _ = some _ := e13
        cases e13
        exact ⟨v20, _, (x14.trans x19), w19, rfl, h21⟩
      rw [if_neg (by rw [hb11]; exact Bool.false_ne_true)] at e13
      replace e13 : some _ = some _ := e13
      cases e13
      exact ⟨v9, _, x22, w22, rfl, ((rInt).mono x22 h10)⟩
    rintro σ26' H23 ⟨v24, B23, x23, w23, rfl, h25⟩
    obtain ⟨t27, e28, hm⟩ := bindS hm
    obtain ⟨t29, e30, hm⟩ := bindS hm
    obtain ⟨t31, e32, hm⟩ := bindS hm
    obtain ⟨t33, e34, hm⟩ := bindS hm
    obtain ⟨t35, e36, hm⟩ := bindS hm
    replace hm : some _ = some _ := hm
    obtain rfl := Option.some.inj hm
    exact q_ret w23 (ev_mod (ev_mod (ev_intI (ev_add (ev_mul (ev_mul (ev_add (ev_varI rfl h25) (ev_varI rfl f1)) (ev_add (ev_varI rfl f1) (ev_int (i := 3))) e28) (ev_int (i := 7919)) e30) (ev_mul (ev_varI rfl f1) (ev_int (i := 104729)) e32))) (ev_int (i := 65521)) e34) (ev_varI rfl f2) e36) fun v9 B9 H9 x9 w9 h9 => k _ _ _ (((x7.trans x8).trans x23).trans x9) w9 h9
noncomputable def m_l_take (a0 : ((List Int) × Int)) (a1 : Int) : Option (Int × ((List Int) × Int)) :=
  Option.bind (m_l_draw (((a0.1, (a0.2 + (1 : Int)))).1) (((a0.1, (a0.2 + (1 : Int)))).2) a1) fun t2 =>
  some (t2, (a0.1, (a0.2 + (1 : Int))))
def C__law_take : List Arg → List Cell → Arg → List Cell → Prop := fun as L r L' => ∃ a0 a1 p0 c, as = [⟨rRef, p0⟩, ⟨rInt, a1⟩] ∧ L = [⟨p0, (cL2 (rLst rInt) rInt), a0⟩] ∧ m_l_take a0 a1 = some c ∧ r = ⟨rInt, c.1⟩ ∧ L' = [⟨p0, (cL2 (rLst rInt) rInt), c.2⟩]
theorem sc__law_take : FnScope ["_law_state", "_law_many"] ["_law_state", "_law_many"] (defScope s__law_take) := ⟨rfl, rfl, rfl, by decide +kernel, rfl, by decide +kernel, by decide +kernel⟩
set_option maxHeartbeats 4000000 in
theorem ok__law_take (F : Fun K "_law_take" "_law_take" s__law_take f fd) (c__law_draw : Cl P w K mg base 1 "_law_draw" (spV K C__law_draw) []) : FnOk P w K mg base CX0 2 f fd ["_law_state", "_law_many"] (spV K C__law_take) := by
  refine F.ok sc__law_take (fun vs H Q E h => ?_) (fun cdv A outer s H vs Q E hr h => ?_)
  · obtain ⟨B, M, L, as, r, L', w, ha, ⟨_, _, _, _, rfl, _⟩, k⟩ := h
    exact args_len ha
  · skip
    obtain ⟨B, M, L, as, r, L', w, ha, ⟨a0, a1, p0, c, rfl, rfl, hm, rfl, rfl⟩, k⟩ := h
    obtain ⟨u0, u1, rfl, f0, f1⟩ := args2 ha
    replace f0 : u0 = V.ref p0 := f0
    subst f0
    replace f1 : (rInt).is K B u1 a1 := f1
    unfold m_l_take at hm
    refine ⟨_, (pss_cons (ps_asg (pe_op op_add (pe_ix ix_seq (pv 0) pe_int (fun _ _ => rfl)) pe_int) (pg_sub (pv 0) pe_int set_list)) (pss_cons (ps_ret (pe_c c__law_draw hr (by omega) rfl (pa_cons (pe_ix ix_seq (pv 0) pe_int (fun _ _ => rfl)) (pa_cons (pe_ix ix_seq (pv 0) pe_int (fun _ _ => rfl)) (pa_cons (pv 1) pa_nil))))) pss_nil)), ?_⟩
    rw [show start ["_law_state", "_law_many"] [.ref p0, u1] = ([some (.ref p0), some u1] : L2.St) from rfl]
    refine q_set1 (n := 0) w (ev_add (ev_l2snd (n := 0) rfl rfl) (ev_int (i := 1))) rfl rfl fun B1 H1 x1 (w1 : Own K B1 M [⟨p0, (cL2 (rLst rInt) rInt), (a0.1, (a0.2 + (1 : Int)))⟩] H1) => ?_
    obtain ⟨t2, e3, hm⟩ := bindS hm
    replace hm : some _ = some _ := hm
    obtain rfl := Option.some.inj hm
    exact q_ret w1 (ev_call (ea_cons (ev_l2fst (n := 0) rfl rfl) (ea_cons (ev_l2snd (n := 0) rfl rfl) (ea_cons (ev_varI rfl f1) ea_nil))) ⟨_, _, _, _, rfl, rfl, e3, rfl, rfl⟩) fun v9 B9 H9 x9 w9 h9 => k _ _ _ (x1.trans x9) w9 h9
noncomputable def m_l_ratio (a0 : Int) (a1 : Int) : Option (Int × Int) :=
  Option.bind (if (decide (a1 < (0 : Int))) = true then
    some ((((0 : Int) - a0), ((0 : Int) - a1)))
  else
    some ((a0, a1))
  ) fun (s2 : (Int × Int)) =>
  Option.bind (loopB (S := (Int × Int)) (α := Int) (fun (s24 : (Int × Int)) (x25 : Int) => (
    if (decide (s24.2 = (0 : Int))) = true then
      some (Stp.bk ((s24.1, s24.2)))
    else
      Option.bind (modI s24.1 s24.2) fun t52 =>
      some (Stp.nx ((s24.2, t52)))
  )) ((s2.2, (absI s2.1))) ((rng 0 ((2000 : Int))))) fun s63 =>
  Option.bind (divI s2.1 s63.1) fun t75 =>
  Option.bind (divI s2.2 s63.1) fun t77 =>
  some (t75, t77)
def C__law_ratio : List Arg → List Cell → Arg → List Cell → Prop := fun as L r L' => ∃ a0 a1 c, as = [⟨rInt, a0⟩, ⟨rInt, a1⟩] ∧ L = [] ∧ m_l_ratio a0 a1 = some c ∧ r = ⟨(rT2 rInt rInt), c⟩ ∧ L' = []
theorem sc__law_ratio : FnScope ["_law_n", "_law_d", "_law_a", "_law_b", "_law_k", "_law_rest"] ["_law_n", "_law_d"] (defScope s__law_ratio) := ⟨rfl, rfl, rfl, by decide +kernel, rfl, by decide +kernel, by decide +kernel⟩
set_option maxHeartbeats 4000000 in
theorem ok__law_ratio (F : Fun K "_law_ratio" "_law_ratio" s__law_ratio f fd) (z_abs : mg "abs" = none) (z_range : mg "range" = none) (z_int : mg "int" = none) : FnOk P w K mg base CX0 1 f fd ["_law_n", "_law_d"] (spV K C__law_ratio) := by
  refine F.ok sc__law_ratio (fun vs H Q E h => ?_) (fun cdv A outer s H vs Q E hr h => ?_)
  · obtain ⟨B, M, L, as, r, L', w, ha, ⟨_, _, _, rfl, _⟩, k⟩ := h
    exact args_len ha
  · skip
    obtain ⟨B, M, L, as, r, L', w, ha, ⟨a0, a1, c, rfl, rfl, hm, rfl, rfl⟩, k⟩ := h
    obtain ⟨u0, u1, rfl, f0, f1⟩ := args2 ha
    replace f0 : (rInt).is K B u0 a0 := f0
    replace f1 : (rInt).is K B u1 a1 := f1
    unfold m_l_ratio at hm
    refine ⟨_, (Evl.pss_cut (ps_if (pt_cmpR op_lt (pv 1) pe_int (nomark _)) (pss_cons (ps_set (i := 0) sc__law_ratio.nd rfl (by first | exact Or.inl rfl | exact Or.inr rfl) (pe_op op_sub pe_int (pv 0))) (pss_cons (ps_set (i := 1) sc__law_ratio.nd rfl (by first | exact Or.inl rfl | exact Or.inr rfl) (pe_op op_sub pe_int (pv 1))) pss_nil)) pss_nil) (pss_cons (ps_set (i := 2) sc__law_ratio.nd rfl (by first | exact Or.inl rfl | exact Or.inr rfl) (pe_callB call_abs rfl z_abs bt_abs (pa_cons (pv 0) pa_nil))) (pss_cons (ps_set (i := 3) sc__law_ratio.nd rfl (by first | exact Or.inl rfl | exact Or.inr rfl) (pv 1)) (pss_cons (ps_for PassesOwn.never rfl (pi_range1 rfl z_range (pa_cons pe_int pa_nil)) (pg_name (i := 4) sc__law_ratio.nd rfl (by first | exact Or.inl rfl | exact Or.inr rfl)) (pss_cons (ps_if (pt_cmpR op_eq (pv 2) pe_int (nomark _)) (pss_cons ps_break pss_nil) pss_nil) (pss_cons (ps_set (i := 5) sc__law_ratio.nd rfl (by first | exact Or.inl rfl | exact Or.inr rfl) (pe_op op_mod (pe_callTy call_int1 rfl z_int bt_int (pa_cons (pv 3) pa_nil)) (pv 2))) (pss_cons (ps_set (i := 3) sc__law_ratio.nd rfl (by first | exact Or.inl rfl | exact Or.inr rfl) (pv 2)) (pss_cons (ps_set (i := 2) sc__law_ratio.nd rfl (by first | exact Or.inl rfl | exact Or.inr rfl) (pv 5)) pss_nil))))) (pss_cons (ps_ret (pe_tup (pa_cons (pe_op op_fdivW (pv 0) (pv 3)) (pa_cons (pe_op op_fdivW (pv 1) (pv 3)) pa_nil)))) pss_nil))))), ?_⟩
    rw [show start ["_law_n", "_law_d", "_law_a", "_law_b", "_law_k", "_law_rest"] [u0, u1] = ([some u0, some u1, none, none, none, none] : L2.St) from rfl]
    obtain ⟨s2, e3, hm⟩ := bindS hm
    refine q_cut (fun σ17 H12 => ∃ v13 v15 B12, Ex B B12 ∧ Own K B12 M [] H12 ∧ σ17 = [some v13, some v15, none, none, none, none] ∧ (rInt).is K B12 v13 s2.1 ∧ (rInt).is K B12 v15 s2.2) ?_ ?_
    · skip
      refine q_ifc w (et_test (ev_lt (ev_varI rfl f1) (ev_int (i := 0)))) (fun hb1 B4 H4 x4 (w4 : Own K B4 M [] H4) => ?_) (fun hb1 B11 H11 x11 (w11 : Own K B11 M [] H11) => ?_)
      · skip
        rw [if_pos hb1] at e3
        refine q_asg (n := 0) w4 (ev_sub (ev_int (i := 0)) (ev_varI rfl f0)) fun v6 B5 H5 x5 (w5 : Own K B5 M [] H5) h7 => ?_
        refine q_asg (n := 1) w5 (ev_sub (ev_int (i := 0)) (ev_varI rfl f1)) fun v9 B8 H8 x8 (w8 : Own K B8 M [] H8) h10 => ?_
        replace e3 : some _ = some _ := e3
        cases e3
        exact ⟨v6, v9, _, ((x4.trans x5).trans x8), w8, rfl, ((rInt).mono x8 h7), h10⟩
      rw [if_neg (by rw [hb1]; exact Bool.false_ne_true)] at e3
      replace e3 : some _ = some _ := e3
      cases e3
      exact ⟨u0, u1, _, x11, w11, rfl, ((rInt).mono x11 f0), ((rInt).mono x11 f1)⟩
    rintro σ17' H12 ⟨v13, v15, B12, x12, w12, rfl, h14, h16⟩
    refine q_asg (n := 2) w12 (ev_abs (ev_varI rfl h14)) fun v19 B18 H18 x18 (w18 : Own K B18 M [] H18) h20 => ?_
    refine q_asg (n := 3) w18 (ev_varI rfl h16) fun v22 B21 H21 x21 (w21 : Own K B21 M [] H21) h23 => ?_
    obtain ⟨s63, e28, hm⟩ := bindS hm
    refine q_forB w21 (ei_rng1 (ea_cons (ev_int (i := 2000)) ea_nil) (by decide)) _ (fun s24 B29 σ42 => ∃ v43 v45 o47 o48, σ42 = [some v13, some v15, some v45, some v43, o47, o48] ∧ (rInt).is K B29 v43 s24.1 ∧ (rInt).is K B29 v45 s24.2) (fun s24 => []) ((s2.2, (absI s2.1))) e28 (fun B9 x9 => ⟨v22, v19, _, _, rfl, ((rInt).mono x9 h23), ((rInt).mono x9 ((rInt).mono x21 h20))⟩) rfl ?_ ?_
    · skip
      rintro s24 x25 s79 v35 B29 B30 H31 σ42 hb26 x32 ⟨v43, v45, o47, o48, rfl, h44, h46⟩ x33 w34 h36 N37 K38 hN39 hB40
      replace w34 : Own K B30 M [] H31 := w34
      refine g_name ?_
      refine q_if w34 (et_test (ev_eqI (ev_varI rfl h46) (ev_int (i := 0)))) (fun hb49 B50 H50 x50 (w50 : Own K B50 M [] H50) => ?_) (fun hb49 B51 H51 x51 (w51 : Own K B51 M [] H51) => ?_)
      · skip
        rw [if_pos hb49] at hb26
        replace hb26 : some _ = some _ := hb26
        cases hb26
        exact hB40 _ _ _ _ rfl x50 w50 ⟨v43, v45, _, _, rfl, ((rInt).mono (x33.trans x50) h44), ((rInt).mono (x33.trans x50) h46)⟩
      rw [if_neg (by rw [hb49]; exact Bool.false_ne_true)] at hb26
      obtain ⟨t52, e53, hb26⟩ := bindS hb26
      refine q_asg (n := 5) w51 (ev_mod (ev_intI (ev_varI rfl h44)) (ev_varI rfl h46) e53) fun v55 B54 H54 x54 (w54 : Own K B54 M [] H54) h56 => ?_
      refine q_asg (n := 3) w54 (ev_varI rfl h46) fun v58 B57 H57 x57 (w57 : Own K B57 M [] H57) h59 => ?_
      refine q_asg (n := 2) w57 (ev_varI rfl h56) fun v61 B60 H60 x60 (w60 : Own K B60 M [] H60) h62 => ?_
      replace hb26 : some _ = some _ := hb26
      cases hb26
      exact hN39 _ _ _ _ rfl (((x51.trans x54).trans x57).trans x60) w60 ⟨v58, v61, _, _, rfl, ((rInt).mono x60 h59), h62⟩
    rintro B64 H65 σ68 x66 w67 ⟨v69, v71, o73, o74, rfl, h70, h72⟩
    replace w67 : Own K B64 M [] H65 := w67
    obtain ⟨t75, e76, hm⟩ := bindS hm
    obtain ⟨t77, e78, hm⟩ := bindS hm
    replace hm : some _ = some _ := hm
    obtain rfl := Option.some.inj hm
    exact q_ret w67 (ev_T2 (ea_cons (ev_div (ev_varI rfl h14) (ev_varI rfl h70) e76) (ea_cons (ev_div (ev_varI rfl h16) (ev_varI rfl h70) e78) ea_nil))) fun v9 B9 H9 x9 w9 h9 => k _ _ _ ((((x12.trans x18).trans x21).trans x66).trans x9) w9 h9
noncomputable def m_l_plus (a0 : (Int × Int)) (a1 : (Int × Int)) : Option (Int × Int) :=
  Option.bind (mulI a0.1 a1.2) fun t1 =>
  Option.bind (mulI a1.1 a0.2) fun t3 =>
  Option.bind (mulI a0.2 a1.2) fun t5 =>
  Option.bind (m_l_ratio ((t1 + t3)) t5) fun t7 =>
  some t7
def C__law_plus : List Arg → List Cell → Arg → List Cell → Prop := fun as L r L' => ∃ a0 a1 c, as = [⟨(rT2 rInt rInt), a0⟩, ⟨(rT2 rInt rInt), a1⟩] ∧ L = [] ∧ m_l_plus a0 a1 = some c ∧ r = ⟨(rT2 rInt rInt), c⟩ ∧ L' = []
theorem sc__law_plus : FnScope ["_law_a", "_law_b"] ["_law_a", "_law_b"] (defScope s__law_plus) := ⟨rfl, rfl, rfl, by decide +kernel, rfl, by decide +kernel, by decide +kernel⟩
set_option maxHeartbeats 4000000 in
theorem ok__law_plus (F : Fun K "_law_plus" "_law_plus" s__law_plus f fd) (c__law_ratio : Cl P w K mg base 1 "_law_ratio" (spV K C__law_ratio) []) : FnOk P w K mg base CX0 2 f fd ["_law_a", "_law_b"] (spV K C__law_plus) := by
  refine F.ok sc__law_plus (fun vs H Q E h => ?_) (fun cdv A outer s H vs Q E hr h => ?_)
  · obtain ⟨B, M, L, as, r, L', w, ha, ⟨_, _, _, rfl, _⟩, k⟩ := h
    exact args_len ha
  · skip
    obtain ⟨B, M, L, as, r, L', w, ha, ⟨a0, a1, c, rfl, rfl, hm, rfl, rfl⟩, k⟩ := h
    obtain ⟨u0, u1, rfl, f0, f1⟩ := args2 ha
    replace f0 : ((rT2 rInt rInt)).is K B u0 a0 := f0
    replace f1 : ((rT2 rInt rInt)).is K B u1 a1 := f1
    unfold m_l_plus at hm
    refine ⟨_, (pss_cons (ps_ret (pe_c c__law_ratio hr (by omega) rfl (pa_cons (pe_op op_add (pe_op op_mulX (pe_ix ix_seq (pv 0) pe_int (fun _ _ => rfl)) (pe_ix ix_seq (pv 1) pe_int (fun _ _ => rfl))) (pe_op op_mulX (pe_ix ix_seq (pv 1) pe_int (fun _ _ => rfl)) (pe_ix ix_seq (pv 0) pe_int (fun _ _ => rfl)))) (pa_cons (pe_op op_mulX (pe_ix ix_seq (pv 0) pe_int (fun _ _ => rfl)) (pe_ix ix_seq (pv 1) pe_int (fun _ _ => rfl))) pa_nil)))) pss_nil), ?_⟩
    rw [show start ["_law_a", "_law_b"] [u0, u1] = ([some u0, some u1] : L2.St) from rfl]
    obtain ⟨t1, e2, hm⟩ := bindS hm
    obtain ⟨t3, e4, hm⟩ := bindS hm
    obtain ⟨t5, e6, hm⟩ := bindS hm
    obtain ⟨t7, e8, hm⟩ := bindS hm
    replace hm : some _ = some _ := hm
    obtain rfl := Option.some.inj hm
    exact q_ret w (ev_call (ea_cons (ev_add (ev_mul (ev_fst (ev_var rfl f0)) (ev_snd (ev_var rfl f1)) e2) (ev_mul (ev_fst (ev_var rfl f1)) (ev_snd (ev_var rfl f0)) e4)) (ea_cons (ev_mul (ev_snd (ev_var rfl f0)) (ev_snd (ev_var rfl f1)) e6) ea_nil)) ⟨_, _, _, rfl, rfl, e8, rfl, rfl⟩) fun v9 B9 H9 x9 w9 h9 => k _ _ _ ((Ex.refl _).trans x9) w9 h9
noncomputable def m_l_times (a0 : (Int × Int)) (a1 : (Int × Int)) : Option (Int × Int) :=
  Option.bind (mulI a0.1 a1.1) fun t1 =>
  Option.bind (mulI a0.2 a1.2) fun t3 =>
  Option.bind (m_l_ratio t1 t3) fun t5 =>
  some t5
def C__law_times : List Arg → List Cell → Arg → List Cell → Prop := fun as L r L' => ∃ a0 a1 c, as = [⟨(rT2 rInt rInt), a0⟩, ⟨(rT2 rInt rInt), a1⟩] ∧ L = [] ∧ m_l_times a0 a1 = some c ∧ r = ⟨(rT2 rInt rInt), c⟩ ∧ L' = []
theorem sc__law_times : FnScope ["_law_a", "_law_b"] ["_law_a", "_law_b"] (defScope s__law_times) := ⟨rfl, rfl, rfl, by decide +kernel, rfl, by decide +kernel, by decide +kernel⟩
set_option maxHeartbeats 4000000 in
theorem ok__law_times (F : Fun K "_law_times" "_law_times" s__law_times f fd) (c__law_ratio : Cl P w K mg base 1 "_law_ratio" (spV K C__law_ratio) []) : FnOk P w K mg base CX0 2 f fd ["_law_a", "_law_b"] (spV K C__law_times) := by
  refine F.ok sc__law_times (fun vs H Q E h => ?_) (fun cdv A outer s H vs Q E hr h => ?_)
  · obtain ⟨B, M, L, as, r, L', w, ha, ⟨_, _, _, rfl, _⟩, k⟩ := h
    exact args_len ha
  · skip
    obtain ⟨B, M, L, as, r, L', w, ha, ⟨a0, a1, c, rfl, rfl, hm, rfl, rfl⟩, k⟩ := h
    obtain ⟨u0, u1, rfl, f0, f1⟩ := args2 ha
    replace f0 : ((rT2 rInt rInt)).is K B u0 a0 := f0
    replace f1 : ((rT2 rInt rInt)).is K B u1 a1 := f1
    unfold m_l_times at hm
    refine ⟨_, (pss_cons (ps_ret (pe_c c__law_ratio hr (by omega) rfl (pa_cons (pe_op op_mulX (pe_ix ix_seq (pv 0) pe_int (fun _ _ => rfl)) (pe_ix ix_seq (pv 1) pe_int (fun _ _ => rfl))) (pa_cons (pe_op op_mulX (pe_ix ix_seq (pv 0) pe_int (fun _ _ => rfl)) (pe_ix ix_seq (pv 1) pe_int (fun _ _ => rfl))) pa_nil)))) pss_nil), ?_⟩
    rw [show start ["_law_a", "_law_b"] [u0, u1] = ([some u0, some u1] : L2.St) from rfl]
    obtain ⟨t1, e2, hm⟩ := bindS hm
    obtain ⟨t3, e4, hm⟩ := bindS hm
    obtain ⟨t5, e6, hm⟩ := bindS hm
    replace hm : some _ = some _ := hm
    obtain rfl := Option.some.inj hm
    exact q_ret w (ev_call (ea_cons (ev_mul (ev_fst (ev_var rfl f0)) (ev_fst (ev_var rfl f1)) e2) (ea_cons (ev_mul (ev_snd (ev_var rfl f0)) (ev_snd (ev_var rfl f1)) e4) ea_nil)) ⟨_, _, _, rfl, rfl, e6, rfl, rfl⟩) fun v9 B9 H9 x9 w9 h9 => k _ _ _ ((Ex.refl _).trans x9) w9 h9
noncomputable def m_l_over (a0 : (Int × Int)) (a1 : (Int × Int)) : Option (Int × Int) :=
  Option.bind (mulI a0.1 a1.2) fun t1 =>
  Option.bind (mulI a0.2 a1.1) fun t3 =>
  Option.bind (m_l_ratio t1 t3) fun t5 =>
  some t5
def C__law_over : List Arg → List Cell → Arg → List Cell → Prop := fun as L r L' => ∃ a0 a1 c, as = [⟨(rT2 rInt rInt), a0⟩, ⟨(rT2 rInt rInt), a1⟩] ∧ L = [] ∧ m_l_over a0 a1 = some c ∧ r = ⟨(rT2 rInt rInt), c⟩ ∧ L' = []
theorem sc__law_over : FnScope ["_law_a", "_law_b"] ["_law_a", "_law_b"] (defScope s__law_over) := ⟨rfl, rfl, rfl, by decide +kernel, rfl, by decide +kernel, by decide +kernel⟩
set_option maxHeartbeats 4000000 in
theorem ok__law_over (F : Fun K "_law_over" "_law_over" s__law_over f fd) (c__law_ratio : Cl P w K mg base 1 "_law_ratio" (spV K C__law_ratio) []) : FnOk P w K mg base CX0 2 f fd ["_law_a", "_law_b"] (spV K C__law_over) := by
  refine F.ok sc__law_over (fun vs H Q E h => ?_) (fun cdv A outer s H vs Q E hr h => ?_)
  · obtain ⟨B, M, L, as, r, L', w, ha, ⟨_, _, _, rfl, _⟩, k⟩ := h
    exact args_len ha
  · skip
    obtain ⟨B, M, L, as, r, L', w, ha, ⟨a0, a1, c, rfl, rfl, hm, rfl, rfl⟩, k⟩ := h
    obtain ⟨u0, u1, rfl, f0, f1⟩ := args2 ha
    replace f0 : ((rT2 rInt rInt)).is K B u0 a0 := f0
    replace f1 : ((rT2 rInt rInt)).is K B u1 a1 := f1
    unfold m_l_over at hm
    refine ⟨_, (pss_cons (ps_ret (pe_c c__law_ratio hr (by omega) rfl (pa_cons (pe_op op_mulX (pe_ix ix_seq (pv 0) pe_int (fun _ _ => rfl)) (pe_ix ix_seq (pv 1) pe_int (fun _ _ => rfl))) (pa_cons (pe_op op_mulX (pe_ix ix_seq (pv 0) pe_int (fun _ _ => rfl)) (pe_ix ix_seq (pv 1) pe_int (fun _ _ => rfl))) pa_nil)))) pss_nil), ?_⟩
    rw [show start ["_law_a", "_law_b"] [u0, u1] = ([some u0, some u1] : L2.St) from rfl]
    obtain ⟨t1, e2, hm⟩ := bindS hm
    obtain ⟨t3, e4, hm⟩ := bindS hm
    obtain ⟨t5, e6, hm⟩ := bindS hm
    replace hm : some _ = some _ := hm
    obtain rfl := Option.some.inj hm
    exact q_ret w (ev_call (ea_cons (ev_mul (ev_fst (ev_var rfl f0)) (ev_snd (ev_var rfl f1)) e2) (ea_cons (ev_mul (ev_snd (ev_var rfl f0)) (ev_fst (ev_var rfl f1)) e4) ea_nil)) ⟨_, _, _, rfl, rfl, e6, rfl, rfl⟩) fun v9 B9 H9 x9 w9 h9 => k _ _ _ ((Ex.refl _).trans x9) w9 h9
noncomputable def F_m_l_equal (rec : PyData → PyData → Option Bool) (a0 : PyData) (a1 : PyData) : Option Bool :=
  if (isNoneD a1) = true then
    some (isNoneD a0)
  else
    if (isBoolD a1) = true then
      Option.bind ((if (isBoolD a0) = true then (Option.bind (eqvD a0 a1) fun t6 => some (t6)) else (some (false)))) fun t8 =>
      some t8
    else
      if (isIntD a1) = true then
        Option.bind ((if (isIntD a0) = true then (Option.bind ((if (!(isBoolD a0)) = true then (Option.bind (eqvD a0 a1) fun t14 => some (t14)) else (some (false)))) fun t16 => some (t16)) else (some (false)))) fun t19 =>
        some t19
      else
        if (isStrD a1) = true then
          Option.bind ((if (isStrD a0) = true then (Option.bind (eqvD a0 a1) fun t25 => some (t25)) else (some (false)))) fun t27 =>
          some t27
        else
          if ((isTupD a1) && (!(isTupD a0))) = true then
            some false
          else
            if ((isLstD a1) && (!(isLstD a0))) = true then
              some false
            else
              Option.bind (lenD a0) fun t37 =>
              Option.bind (lenD a1) fun t39 =>
              if (!decide (t37 = t39)) = true then
                some false
              else
                Option.bind (lenD a1) fun t44 =>
                Option.bind (small62 t44) fun t46 =>
                Option.bind (loopR (S := Unit) (R := Bool) (α := Int) (fun (s48 : Unit) (x49 : Int) => (
                  Option.bind (ixD a0 x49) fun t68 =>
                  Option.bind (ixD a1 x49) fun t70 =>
                  Option.bind (rec t68 t70) fun t72 =>
                  if (!t72) = true then
                    some (Stp.rt false)
                  else
                    some (Stp.nx (()))
                )) (()) ((rng 0 t44))) fun o51 =>
                match o51 with
                | .inl s77 =>
                  some true
                | .inr q9 => some q9
noncomputable def m_l_equal : Nat → PyData → PyData → Option Bool
  | 0 => fun _ _ => none
  | n + 1 => F_m_l_equal (m_l_equal n)
def C__law_equal (n : Nat) : List Arg → List Cell → Arg → List Cell → Prop := fun as L r L' => ∃ a0 a1 c, as = [⟨rDat, a0⟩, ⟨rDat, a1⟩] ∧ L = [] ∧ m_l_equal n a0 a1 = some c ∧ r = ⟨rBool, c⟩ ∧ L' = []
theorem sc__law_equal : FnScope ["_law_actual", "_law_due", "_law_k"] ["_law_actual", "_law_due"] (defScope s__law_equal) := ⟨rfl, rfl, rfl, by decide +kernel, rfl, by decide +kernel, by decide +kernel⟩
set_option maxHeartbeats 4000000 in
theorem ok__law_equal (F : Fun K "_law_equal" "_law_equal" s__law_equal f fd) (z_isinstance : mg "isinstance" = none) (z_bool : mg "bool" = none) (z_int : mg "int" = none) (z_str : mg "str" = none) (z_tuple : mg "tuple" = none) (z_list : mg "list" = none) (z_len : mg "len" = none) (z_range : mg "range" = none) (n : Nat) (c__law_equal : Cl P w K mg base (0 + n) "_law_equal" (spV K (C__law_equal n)) []) : FnOk P w K mg base CX0 (0 + n + 1) f fd ["_law_actual", "_law_due"] (spV K (C__law_equal (n + 1))) := by
  refine F.ok sc__law_equal (fun vs H Q E h => ?_) (fun cdv A outer s H vs Q E hr h => ?_)
  · obtain ⟨B, M, L, as, r, L', w, ha, ⟨_, _, _, rfl, _⟩, k⟩ := h
    exact args_len ha
  · skip
    obtain ⟨B, M, L, as, r, L', w, ha, ⟨a0, a1, c, rfl, rfl, hm, rfl, rfl⟩, k⟩ := h
    obtain ⟨u0, u1, rfl, f0, f1⟩ := args2 ha
    replace f0 : (rDat).is K B u0 a0 := f0
    replace f1 : (rDat).is K B u1 a1 := f1
    have hu := room_hu hr
    replace hm : F_m_l_equal (m_l_equal n) a0 a1 = some c := hm
    unfold F_m_l_equal at hm
    refine ⟨_, (pss_cons (ps_if (pt_cmp (pc_isN (pv 1))) (pss_cons (ps_ret (pe_cmp (pc_isN (pv 0)))) pss_nil) pss_nil) (pss_cons (ps_if (pt_val (pe_callB call_isi rfl z_isinstance bt_isinstance (pa_cons (pv 1) (pa_cons (pe_bltn (v := .ty "bool") rfl z_bool bt_bool rfl) pa_nil)))) (pss_cons (ps_ret (pe_and (pe_callB call_isi rfl z_isinstance bt_isinstance (pa_cons (pv 0) (pa_cons (pe_bltn (v := .ty "bool") rfl z_bool bt_bool rfl) pa_nil))) (pe_one (pe_cmpR (op_eqD hu) (pv 0) (pv 1) (nomark _))))) pss_nil) pss_nil) (pss_cons (ps_if (pt_val (pe_callB call_isi rfl z_isinstance bt_isinstance (pa_cons (pv 1) (pa_cons (pe_bltn (v := .ty "int") rfl z_int bt_int rfl) pa_nil)))) (pss_cons (ps_ret (pe_and (pe_callB call_isi rfl z_isinstance bt_isinstance (pa_cons (pv 0) (pa_cons (pe_bltn (v := .ty "int") rfl z_int bt_int rfl) pa_nil))) (pe_and (pe_not (pe_callB call_isi rfl z_isinstance bt_isinstance (pa_cons (pv 0) (pa_cons (pe_bltn (v := .ty "bool") rfl z_bool bt_bool rfl) pa_nil)))) (pe_one (pe_cmpR (op_eqD hu) (pv 0) (pv 1) (nomark _)))))) pss_nil) pss_nil) (pss_cons (ps_if (pt_val (pe_callB call_isi rfl z_isinstance bt_isinstance (pa_cons (pv 1) (pa_cons (pe_bltn (v := .ty "str") rfl z_str bt_str rfl) pa_nil)))) (pss_cons (ps_ret (pe_and (pe_callB call_isi rfl z_isinstance bt_isinstance (pa_cons (pv 0) (pa_cons (pe_bltn (v := .ty "str") rfl z_str bt_str rfl) pa_nil))) (pe_one (pe_cmpR (op_eqD hu) (pv 0) (pv 1) (nomark _))))) pss_nil) pss_nil) (pss_cons (ps_if (PW.pt (pw_and (pt_val (pe_callB call_isi rfl z_isinstance bt_isinstance (pa_cons (pv 1) (pa_cons (pe_bltn (v := .ty "tuple") rfl z_tuple bt_tuple rfl) pa_nil)))) (pw_and1 (pt_not (pt_val (pe_callB call_isi rfl z_isinstance bt_isinstance (pa_cons (pv 0) (pa_cons (pe_bltn (v := .ty "tuple") rfl z_tuple bt_tuple rfl) pa_nil)))))))) (pss_cons (ps_ret pe_bl) pss_nil) pss_nil) (pss_cons (ps_if (PW.pt (pw_and (pt_val (pe_callB call_isi rfl z_isinstance bt_isinstance (pa_cons (pv 1) (pa_cons (pe_bltn (v := .ty "list") rfl z_list bt_list rfl) pa_nil)))) (pw_and1 (pt_not (pt_val (pe_callB call_isi rfl z_isinstance bt_isinstance (pa_cons (pv 0) (pa_cons (pe_bltn (v := .ty "list") rfl z_list bt_list rfl) pa_nil)))))))) (pss_cons (ps_ret pe_bl) pss_nil) pss_nil) (pss_cons (ps_if (pt_cmpR op_ne (pe_callB call_len_seq rfl z_len bt_len (pa_cons (pv 0) pa_nil)) (pe_callB call_len_seq rfl z_len bt_len (pa_cons (pv 1) pa_nil)) (nomark _)) (pss_cons (ps_ret pe_bl) pss_nil) pss_nil) (pss_cons (ps_for PassesOwn.never rfl (pi_range1 rfl z_range (pa_cons (pe_callB call_len_seq rfl z_len bt_len (pa_cons (pv 1) pa_nil)) pa_nil)) (pg_name (i := 2) sc__law_equal.nd rfl (by first | exact Or.inl rfl | exact Or.inr rfl)) (pss_cons (ps_if (pt_not (pt_val (pe_c c__law_equal hr (by omega) rfl (pa_cons (pe_ix ix_seq (pv 0) (pv 2) (fun _ _ => rfl)) (pa_cons (pe_ix ix_seq (pv 1) (pv 2) (fun _ _ => rfl)) pa_nil))))) (pss_cons (ps_ret pe_bl) pss_nil) pss_nil) pss_nil)) (pss_cons (ps_ret pe_bl) pss_nil))))))))), ?_⟩
    rw [show start ["_law_actual", "_law_due", "_law_k"] [u0, u1] = ([some u0, some u1, none] : L2.St) from rfl]
    refine q_if w (et_B (ev_isND (ev_var rfl f1))) (fun hb1 B2 H2 x2 (w2 : Own K B2 M [] H2) => ?_) (fun hb1 B3 H3 x3 (w3 : Own K B3 M [] H3) => ?_)
    · skip
      rw [if_pos hb1] at hm
      replace hm : some _ = some _ := hm
      obtain rfl := Option.some.inj hm
      exact q_ret w2 (ev_isND (ev_var rfl ((rDat).mono x2 f0))) fun v9 B9 H9 x9 w9 h9 => k _ _ _ (x2.trans x9) w9 h9
    rw [if_neg (by rw [hb1]; exact Bool.false_ne_true)] at hm
    refine q_if w3 (et_B (ev_isi "bool" isBoolD isi_bool (ev_var rfl ((rDat).mono x3 f1)))) (fun hb4 B5 H5 x5 (w5 : Own K B5 M [] H5) => ?_) (fun hb4 B11 H11 x11 (w11 : Own K B11 M [] H11) => ?_)
    · skip
      rw [if_pos hb4] at hm
      obtain ⟨t8, e9, hm⟩ := bindS hm
      replace hm : some _ = some _ := hm
      obtain rfl := Option.some.inj hm
      exact q_ret w5 (ev_andV (d := t8) (ev_isi "bool" isBoolD isi_bool (ev_var rfl ((rDat).mono (x3.trans x5) f0))) (fun hb10 => by rw [if_pos hb10] at e9; obtain ⟨t6, e7, e9⟩ := bindS e9; obtain rfl := Option.some.inj e9; exact (ev_eqvD (ev_var rfl ((rDat).mono (x3.trans x5) f0)) (ev_var rfl ((rDat).mono (x3.trans x5) f1)) e7)) (fun hb10 => by rw [if_neg (by rw [hb10]; exact Bool.false_ne_true)] at e9; obtain rfl := Option.some.inj e9; exact ⟨rfl, rfl⟩)) fun v9 B9 H9 x9 w9 h9 => k _ _ _ ((x3.trans x5).trans x9) w9 h9
    rw [if_neg (by rw [hb4]; exact Bool.false_ne_true)] at hm
    refine q_if w11 (et_B (ev_isi "int" isIntD isi_int (ev_var rfl ((rDat).mono (x3.trans x11) f1)))) (fun hb12 B13 H13 x13 (w13 : Own K B13 M [] H13) => ?_) (fun hb12 B22 H22 x22 (w22 : Own K B22 M [] H22) => ?_)
    · skip
      rw [if_pos hb12] at hm
      obtain ⟨t19, e20, hm⟩ := bindS hm
      replace hm : some _ = some _ := hm
      obtain rfl := Option.some.inj hm
      exact q_ret w13 (ev_andV (d := t19) (ev_isi "int" isIntD isi_int (ev_var rfl ((rDat).mono ((x3.trans x11).trans x13) f0))) (fun hb21 => by rw [if_pos hb21] at e20; obtain ⟨t16, e17, e20⟩ := bindS e20; obtain rfl := Option.some.inj e20; exact (ev_andV (d := t16) (ev_notV (ev_isi "bool" isBoolD isi_bool (ev_var rfl ((rDat).mono ((x3.trans x11).trans x13) f0)))) (fun hb18 => by rw [if_pos hb18] at e17; obtain ⟨t14, e15, e17⟩ := bindS e17; obtain rfl := Option.some.inj e17; exact (ev_eqvD (ev_var rfl ((rDat).mono ((x3.trans x11).trans x13) f0)) (ev_var rfl ((rDat).mono ((x3.trans x11).trans x13) f1)) e15)) (fun hb18 => by rw [if_neg (by rw [hb18]; exact Bool.false_ne_true)] at e17; obtain rfl := Option.some.inj e17; exact ⟨rfl, rfl⟩))) (fun hb21 => by rw [if_neg (by rw [hb21]; exact Bool.false_ne_true)] at e20; obtain rfl := Option.some.inj e20; exact ⟨rfl, rfl⟩)) fun v9 B9 H9 x9 w9 h9 => k _ _ _ (((x3.trans x11).trans x13).trans x9) w9 h9
    rw [if_neg (by rw [hb12]; exact Bool.false_ne_true)] at hm
    refine q_if w22 (et_B (ev_isi "str" isStrD isi_str (ev_var rfl ((rDat).mono ((x3.trans x11).trans x22) f1)))) (fun hb23 B24 H24 x24 (w24 : Own K B24 M [] H24) => ?_) (fun hb23 B30 H30 x30 (w30 : Own K B30 M [] H30) => ?_)
    · skip
      rw [if_pos hb23] at hm
      obtain ⟨t27, e28, hm⟩ := bindS hm
      replace hm : some _ = some _ := hm
      obtain rfl := Option.some.inj hm
      exact q_ret w24 (ev_andV (d := t27) (ev_isi "str" isStrD isi_str (ev_var rfl ((rDat).mono (((x3.trans x11).trans x22).trans x24) f0))) (fun hb29 => by rw [if_pos hb29] at e28; obtain ⟨t25, e26, e28⟩ := bindS e28; obtain rfl := Option.some.inj e28; exact (ev_eqvD (ev_var rfl ((rDat).mono (((x3.trans x11).trans x22).trans x24) f0)) (ev_var rfl ((rDat).mono (((x3.trans x11).trans x22).trans x24) f1)) e26)) (fun hb29 => by rw [if_neg (by rw [hb29]; exact Bool.false_ne_true)] at e28; obtain rfl := Option.some.inj e28; exact ⟨rfl, rfl⟩)) fun v9 B9 H9 x9 w9 h9 => k _ _ _ ((((x3.trans x11).trans x22).trans x24).trans x9) w9 h9
    rw [if_neg (by rw [hb23]; exact Bool.false_ne_true)] at hm
    refine q_if w30 (et_and (et_B (ev_isi "tuple" isTupD isi_tuple (ev_var rfl ((rDat).mono (((x3.trans x11).trans x22).trans x30) f1)))) fun _ => (et_not (et_B (ev_isi "tuple" isTupD isi_tuple (ev_var rfl ((rDat).mono (((x3.trans x11).trans x22).trans x30) f0)))))) (fun hb31 B32 H32 x32 (w32 : Own K B32 M [] H32) => ?_) (fun hb31 B33 H33 x33 (w33 : Own K B33 M [] H33) => ?_)
    · skip
      rw [if_pos hb31] at hm
      replace hm : some _ = some _ := hm
      obtain rfl := Option.some.inj hm
      exact q_ret w32 (ev_bl (b := false)) fun v9 B9 H9 x9 w9 h9 => k _ _ _ (((((x3.trans x11).trans x22).trans x30).trans x32).trans x9) w9 h9
    rw [if_neg (by rw [hb31]; exact Bool.false_ne_true)] at hm
    refine q_if w33 (et_and (et_B (ev_isi "list" isLstD isi_list (ev_var rfl ((rDat).mono ((((x3.trans x11).trans x22).trans x30).trans x33) f1)))) fun _ => (et_not (et_B (ev_isi "list" isLstD isi_list (ev_var rfl ((rDat).mono ((((x3.trans x11).trans x22).trans x30).trans x33) f0)))))) (fun hb34 B35 H35 x35 (w35 : Own K B35 M [] H35) => ?_) (fun hb34 B36 H36 x36 (w36 : Own K B36 M [] H36) => ?_)
    · skip
      rw [if_pos hb34] at hm
      replace hm : some _ = some _ := hm
      obtain rfl := Option.some.inj hm
      exact q_ret w35 (ev_bl (b := false)) fun v9 B9 H9 x9 w9 h9 => k _ _ _ ((((((x3.trans x11).trans x22).trans x30).trans x33).trans x35).trans x9) w9 h9
    rw [if_neg (by rw [hb34]; exact Bool.false_ne_true)] at hm
    obtain ⟨t37, e38, hm⟩ := bindS hm
    obtain ⟨t39, e40, hm⟩ := bindS hm
    refine q_if w36 (et_test (ev_neI (ev_lenD (ev_var rfl ((rDat).mono (((((x3.trans x11).trans x22).trans x30).trans x33).trans x36) f0)) e38) (ev_lenD (ev_var rfl ((rDat).mono (((((x3.trans x11).trans x22).trans x30).trans x33).trans x36) f1)) e40))) (fun hb41 B42 H42 x42 (w42 : Own K B42 M [] H42) => ?_) (fun hb41 B43 H43 x43 (w43 : Own K B43 M [] H43) => ?_)
    · skip
      rw [if_pos hb41] at hm
      replace hm : some _ = some _ := hm
      obtain rfl := Option.some.inj hm
      exact q_ret w42 (ev_bl (b := false)) fun v9 B9 H9 x9 w9 h9 => k _ _ _ (((((((x3.trans x11).trans x22).trans x30).trans x33).trans x36).trans x42).trans x9) w9 h9
    rw [if_neg (by rw [hb41]; exact Bool.false_ne_true)] at hm
    obtain ⟨t44, e45, hm⟩ := bindS hm
    obtain ⟨t46, e47, hm⟩ := bindS hm
    obtain ⟨o51, e52, hm⟩ := bindS hm
    refine q_forR w43 (ei_rng1 (ea_cons (ev_lenD (ev_var rfl ((rDat).mono ((((((x3.trans x11).trans x22).trans x30).trans x33).trans x36).trans x43) f1)) e45) ea_nil) e47) _ (fun s48 B53 σ66 => ∃ o67, σ66 = [some u0, some u1, o67]) (fun s48 => []) (()) e52 (fun B9 x9 => ⟨_, rfl⟩) rfl ?_ ?_
    · skip
      rintro s48 x49 s84 v59 B53 B54 H55 σ66 hb50 x56 ⟨o67, rfl⟩ x57 w58 h60 ho65 N61 K62 hN63 hB64
      replace w58 : Own K B54 M [] H55 := w58
      refine g_name ?_
      obtain ⟨t68, e69, hb50⟩ := bindS hb50
      obtain ⟨t70, e71, hb50⟩ := bindS hb50
      obtain ⟨t72, e73, hb50⟩ := bindS hb50
      refine q_if w58 (et_not (et_B (ev_call (ea_cons (ev_ixD (ev_var rfl ((rDat).mono ((((((((x3.trans x11).trans x22).trans x30).trans x33).trans x36).trans x43).trans x56).trans x57) f0)) (ev_varI rfl h60) e69) (ea_cons (ev_ixD (ev_var rfl ((rDat).mono ((((((((x3.trans x11).trans x22).trans x30).trans x33).trans x36).trans x43).trans x56).trans x57) f1)) (ev_varI rfl h60) e71) ea_nil)) ⟨_, _, _, rfl, rfl, e73, rfl, rfl⟩))) (fun hb74 B75 H75 x75 (w75 : Own K B75 M [] H75) => ?_) (fun hb74 B76 H76 x76 (w76 : Own K B76 M [] H76) => ?_)
      · skip
        rw [if_pos hb74] at hb50
        replace hb50 : some _ = some _ := hb50
        obtain rfl := Option.some.inj hb50
        obtain rfl := ho65 _ rfl
        replace hm : some _ = some _ := hm
        obtain rfl := Option.some.inj hm
        exact q_ret w75 (ev_bl (b := false)) fun v9 B9 H9 x9 w9 h9 => k _ _ _ ((((((((((x3.trans x11).trans x22).trans x30).trans x33).trans x36).trans x43).trans x56).trans x57).trans x75).trans x9) w9 h9
      rw [if_neg (by rw [hb74]; exact Bool.false_ne_true)] at hb50
      replace hb50 : some _ = some _ := hb50
      cases hb50
      exact hN63 _ _ _ _ rfl x76 w76 ⟨_, rfl⟩
    rintro s77 B78 H79 σ82 rfl x80 w81 ⟨o83, rfl⟩
    dsimp only at hm
    replace w81 : Own K B78 M [] H79 := w81
    replace hm : some _ = some _ := hm
    obtain rfl := Option.some.inj hm
    exact q_ret w81 (ev_bl (b := true)) fun v9 B9 H9 x9 w9 h9 => k _ _ _ ((((((((x3.trans x11).trans x22).trans x30).trans x33).trans x36).trans x43).trans x80).trans x9) w9 h9
theorem all__law_equal (F : Fun K "_law_equal" "_law_equal" s__law_equal f fd) (z_isinstance : mg "isinstance" = none) (z_bool : mg "bool" = none) (z_int : mg "int" = none) (z_str : mg "str" = none) (z_tuple : mg "tuple" = none) (z_list : mg "list" = none) (z_len : mg "len" = none) (z_range : mg "range" = none) (mf : mg "_law_equal" = some (.ref f)) (kp : PySem.W.keepIn K (.ref f) = true) (bf : Binds K fd ["_law_actual", "_law_due"] []) : ∀ n, FnOk P w K mg base CX0 (0 + n) f fd ["_law_actual", "_law_due"] (spV K (C__law_equal n))
  | 0 => fn_none fun _ _ _ _ ⟨_, _, _, _, _, h, _⟩ => (by cases h)
  | n + 1 => ok__law_equal F z_isinstance z_bool z_int z_str z_tuple z_list z_len z_range n ⟨f, fd, ["_law_actual", "_law_due"], [], all__law_equal F z_isinstance z_bool z_int z_str z_tuple z_list z_len z_range mf kp bf n, mf, kp, bf, .nil⟩
noncomputable def m_l_number (a0 : ((List Int) × Int)) : Option (Int × ((List Int) × Int)) :=
  Option.bind (powI ((10 : Int)) ((9 : Int))) fun t1 =>
  Option.bind (m_l_take a0 ((4 : Int))) fun t3 =>
  Option.bind (ixL ([(4 : Int), (30 : Int), (1000 : Int), t1]) t3.1) fun t5 =>
  Option.bind (m_l_take t3.2 t5) fun t10 =>
  Option.bind (m_l_take t10.2 ((2 : Int))) fun t12 =>
  Option.bind (mulI ((2 : Int)) t12.1) fun t14 =>
  Option.bind (mulI t10.1 (((1 : Int) - t14))) fun t16 =>
  some (t16, t12.2)
def C__law_number : List Arg → List Cell → Arg → List Cell → Prop := fun as L r L' => ∃ a0 p0 c, as = [⟨rRef, p0⟩] ∧ L = [⟨p0, (cL2 (rLst rInt) rInt), a0⟩] ∧ m_l_number a0 = some c ∧ r = ⟨rInt, c.1⟩ ∧ L' = [⟨p0, (cL2 (rLst rInt) rInt), c.2⟩]
theorem sc__law_number : FnScope ["_law_state", "_law_size"] ["_law_state"] (defScope s__law_number) := ⟨rfl, rfl, rfl, by decide +kernel, rfl, by decide +kernel, by decide +kernel⟩
set_option maxHeartbeats 4000000 in
theorem ok__law_number (F : Fun K "_law_number" "_law_number" s__law_number f fd) (c__law_take : Cl P w K mg base 2 "_law_take" (spV K C__law_take) []) : FnOk P w K mg base CX0 3 f fd ["_law_state"] (spV K C__law_number) := by
  refine F.ok sc__law_number (fun vs H Q E h => ?_) (fun cdv A outer s H vs Q E hr h => ?_)
  · obtain ⟨B, M, L, as, r, L', w, ha, ⟨_, _, _, rfl, _⟩, k⟩ := h
    exact args_len ha
  · skip
    obtain ⟨B, M, L, as, r, L', w, ha, ⟨a0, p0, c, rfl, rfl, hm, rfl, rfl⟩, k⟩ := h
    obtain ⟨u0, rfl, f0⟩ := args1 ha
    replace f0 : u0 = V.ref p0 := f0
    subst f0
    unfold m_l_number at hm
    refine ⟨_, (pss_cons (ps_set (i := 1) sc__law_number.nd rfl (by first | exact Or.inl rfl | exact Or.inr rfl) (pe_ix ix_seq (pe_lst (pa_cons pe_int (pa_cons pe_int (pa_cons pe_int (pa_cons (pe_op op_pow pe_int pe_int) pa_nil))))) (pe_c c__law_take hr (by omega) rfl (pa_cons (pv 0) (pa_cons pe_int pa_nil))) (fun _ _ => rfl))) (pss_cons (ps_ret (pe_op op_mulX (pe_c c__law_take hr (by omega) rfl (pa_cons (pv 0) (pa_cons (pv 1) pa_nil))) (pe_op op_sub pe_int (pe_op op_mulX pe_int (pe_c c__law_take hr (by omega) rfl (pa_cons (pv 0) (pa_cons pe_int pa_nil))))))) pss_nil)), ?_⟩
    rw [show start ["_law_state", "_law_size"] [.ref p0] = ([some (.ref p0), none] : L2.St) from rfl]
    obtain ⟨t1, e2, hm⟩ := bindS hm
    obtain ⟨t3, e4, hm⟩ := bindS hm
    obtain ⟨t5, e6, hm⟩ := bindS hm
    refine q_asg (n := 1) w (ev_ix (ev_seqL (ev_frz (el_lst (r := rInt) [(4 : Int), (30 : Int), (1000 : Int), t1] (ea_cons (ev_int (i := 4)) (ea_cons (ev_int (i := 30)) (ea_cons (ev_int (i := 1000)) (ea_cons (ev_pow (ev_int (i := 10)) (ev_int (i := 9)) e2) ea_nil))))))) (ev_callC 0 (x := ⟨p0, (cL2 (rLst rInt) rInt), a0⟩) (x' := ⟨p0, (cL2 (rLst rInt) rInt), t3.2⟩) (ea_cons (ev_varR rfl) (ea_cons (ev_int (i := 4)) ea_nil)) rfl ⟨_, _, _, _, rfl, rfl, e4, rfl, rfl⟩ rfl) e6) fun v8 B7 H7 x7 (w7 : Own K B7 M [⟨p0, (cL2 (rLst rInt) rInt), t3.2⟩] H7) h9 => ?_
    obtain ⟨t10, e11, hm⟩ := bindS hm
    obtain ⟨t12, e13, hm⟩ := bindS hm
    obtain ⟨t14, e15, hm⟩ := bindS hm
    obtain ⟨t16, e17, hm⟩ := bindS hm
    replace hm : some _ = some _ := hm
    obtain rfl := Option.some.inj hm
    exact q_ret w7 (ev_mul (ev_callC 0 (x := ⟨p0, (cL2 (rLst rInt) rInt), t3.2⟩) (x' := ⟨p0, (cL2 (rLst rInt) rInt), t10.2⟩) (ea_cons (ev_varR rfl) (ea_cons (ev_varI rfl h9) ea_nil)) rfl ⟨_, _, _, _, rfl, rfl, e11, rfl, rfl⟩ rfl) (ev_sub (ev_int (i := 1)) (ev_mul (ev_int (i := 2)) (ev_callC 0 (x := ⟨p0, (cL2 (rLst rInt) rInt), t10.2⟩) (x' := ⟨p0, (cL2 (rLst rInt) rInt), t12.2⟩) (ea_cons (ev_varR rfl) (ea_cons (ev_int (i := 2)) ea_nil)) rfl ⟨_, _, _, _, rfl, rfl, e13, rfl, rfl⟩ rfl) e15)) e17) fun v9 B9 H9 x9 w9 h9 => k _ _ _ (x7.trans x9) w9 h9
noncomputable def m_law (a0 : (List Int)) : Option Bool :=
  Option.bind (m_l_tape a0) fun t1 =>
  Option.bind (loopR (S := ((List Int) × Int)) (R := Bool) (α := Int) (fun (s5 : ((List Int) × Int)) (x6 : Int) => (
    Option.bind (m_l_number s5) fun t30 =>
    Option.bind (m_l_number t30.2) fun t35 =>
    Option.bind (m_l_take t35.2 ((30 : Int))) fun t40 =>
    Option.bind (if (decide (t35.1 = (0 : Int))) = true then
      some ((1 : Int))
    else
      some t35.1
    ) fun (s46 : Int) =>
    Option.bind (m_l_ratio t30.1 s46) fun t57 =>
    Option.bind (m_ratio t30.1 s46) fun t62 =>
    Option.bind (m_l_equal 8 (((dT2 PyData.int PyData.int) t62)) (((dT2 PyData.int PyData.int) t57))) fun t64 =>
    Option.bind ((if (!t64) = true then (some (true)) else (Option.bind (mulI t30.1 (((1 : Int) + t40.1))) fun t66 => Option.bind (mulI s46 (((1 : Int) + t40.1))) fun t68 => Option.bind (m_ratio t66 t68) fun t70 => Option.bind (m_l_equal 8 (((dT2 PyData.int PyData.int) t70)) (((dT2 PyData.int PyData.int) t57))) fun t72 => some ((!t72))))) fun t74 =>
    if t74 = true then
      some (Stp.rt false)
    else
      Option.bind (m_l_number t40.2) fun t80 =>
      Option.bind (m_l_number t80.2) fun t82 =>
      Option.bind (m_l_ratio t80.1 (((1 : Int) + (absI t82.1)))) fun t84 =>
      Option.bind (m_plus t57 t84) fun t89 =>
      Option.bind (m_l_plus t57 t84) fun t91 =>
      Option.bind (m_l_equal 8 (((dT2 PyData.int PyData.int) t89)) (((dT2 PyData.int PyData.int) t91))) fun t93 =>
      Option.bind ((if (!t93) = true then (some (true)) else (Option.bind (m_times t57 t84) fun t95 => Option.bind (m_l_times t57 t84) fun t97 => Option.bind (m_l_equal 8 (((dT2 PyData.int PyData.int) t95)) (((dT2 PyData.int PyData.int) t97))) fun t99 => some ((!t99))))) fun t101 =>
      if t101 = true then
        some (Stp.rt false)
      else
        Option.bind (m_minus t57 t84) fun t107 =>
        Option.bind (m_l_plus t57 ((((0 : Int) - t84.1), t84.2))) fun t109 =>
        Option.bind (m_l_equal 8 (((dT2 PyData.int PyData.int) t107)) (((dT2 PyData.int PyData.int) t109))) fun t111 =>
        if (!t111) = true then
          some (Stp.rt false)
        else
          Option.bind ((if (!decide (t84.1 = (0 : Int))) = true then (Option.bind (m_over t57 t84) fun t116 => Option.bind (m_l_over t57 t84) fun t118 => Option.bind (m_l_equal 8 (((dT2 PyData.int PyData.int) t116)) (((dT2 PyData.int PyData.int) t118))) fun t120 => some ((!t120))) else (some (false)))) fun t122 =>
          if t122 = true then
            some (Stp.rt false)
          else
            Option.bind (m_is_less t57 t84) fun t128 =>
            Option.bind (mulI t57.1 t84.2) fun t130 =>
            Option.bind (mulI t84.1 t57.2) fun t132 =>
            Option.bind (m_l_equal 8 ((PyData.bool t128)) ((PyData.bool ((decide (t130 < t132)))))) fun t134 =>
            Option.bind ((if (!t134) = true then (some (true)) else (Option.bind (m_is_less t57 t57) fun t136 => Option.bind (m_l_equal 8 ((PyData.bool t136)) ((PyData.bool false))) fun t138 => some ((!t138))))) fun t140 =>
            if t140 = true then
              some (Stp.rt false)
            else
              some (Stp.nx t82.2)
  )) ((t1, (0 : Int))) ((rng 0 ((8 : Int))))) fun o8 =>
  match o8 with
  | .inl s146 =>
    some true
  | .inr q9 => some q9
def C_law : List Arg → List Cell → Arg → List Cell → Prop := fun as L r L' => ∃ a0 c, as = [⟨(rLst rInt), a0⟩] ∧ L = [] ∧ m_law a0 = some c ∧ r = ⟨rBool, c⟩ ∧ L' = []
theorem sc_law : FnScope ["_law_script", "_law_state", "_law_turn", "_law_n", "_law_d", "_law_common", "_law_a", "_law_b"] ["_law_script"] (defScope s_law) := ⟨rfl, rfl, rfl, by decide +kernel, rfl, by decide +kernel, by decide +kernel⟩
set_option maxHeartbeats 4000000 in
theorem ok_law (F : Fun K "law" "law" s_law f fd) (c__law_tape : Cl P w K mg base 1 "_law_tape" (spV K C__law_tape) []) (c__law_number : Cl P w K mg base 3 "_law_number" (spV K C__law_number) []) (c__law_take : Cl P w K mg base 2 "_law_take" (spV K C__law_take) []) (c__law_ratio : Cl P w K mg base 1 "_law_ratio" (spV K C__law_ratio) []) (c__law_equal : Cl P w K mg base 8 "_law_equal" (spV K (C__law_equal 8)) []) (c_ratio : Cl P w K mg base 1 "ratio" (spV K C_ratio) []) (c_plus : Cl P w K mg base 2 "plus" (spV K C_plus) []) (c__law_plus : Cl P w K mg base 2 "_law_plus" (spV K C__law_plus) []) (c_times : Cl P w K mg base 2 "times" (spV K C_times) []) (c__law_times : Cl P w K mg base 2 "_law_times" (spV K C__law_times) []) (c_minus : Cl P w K mg base 2 "minus" (spV K C_minus) []) (c_over : Cl P w K mg base 2 "over" (spV K C_over) []) (c__law_over : Cl P w K mg base 2 "_law_over" (spV K C__law_over) []) (c_is_less : Cl P w K mg base 1 "is_less" (spV K C_is_less) []) (z_range : mg "range" = none) (z_abs : mg "abs" = none) : FnOk P w K mg base CX0 9 f fd ["_law_script"] (spV K C_law) := by
  refine F.ok sc_law (fun vs H Q E h => ?_) (fun cdv A outer s H vs Q E hr h => ?_)
  · obtain ⟨B, M, L, as, r, L', w, ha, ⟨_, _, rfl, _⟩, k⟩ := h
    exact args_len ha
  · skip
    obtain ⟨B, M, L, as, r, L', w, ha, ⟨a0, c, rfl, rfl, hm, rfl, rfl⟩, k⟩ := h
    obtain ⟨u0, rfl, f0⟩ := args1 ha
    replace f0 : ((rLst rInt)).is K B u0 a0 := f0
    unfold m_law at hm
    refine ⟨_, (pss_cons (ps_set (i := 1) sc_law.nd rfl (by first | exact Or.inl rfl | exact Or.inr rfl) (pe_lst (pa_cons (pe_c c__law_tape hr (by omega) rfl (pa_cons (pv 0) pa_nil)) (pa_cons pe_int pa_nil)))) (pss_cons (ps_for PassesOwn.never rfl (pi_range1 rfl z_range (pa_cons pe_int pa_nil)) (pg_name (i := 2) sc_law.nd rfl (by first | exact Or.inl rfl | exact Or.inr rfl)) (pss_cons (ps_set (i := 3) sc_law.nd rfl (by first | exact Or.inl rfl | exact Or.inr rfl) (pe_c c__law_number hr (by omega) rfl (pa_cons (pv 1) pa_nil))) (pss_cons (ps_set (i := 4) sc_law.nd rfl (by first | exact Or.inl rfl | exact Or.inr rfl) (pe_c c__law_number hr (by omega) rfl (pa_cons (pv 1) pa_nil))) (pss_cons (ps_set (i := 5) sc_law.nd rfl (by first | exact Or.inl rfl | exact Or.inr rfl) (pe_op op_add pe_int (pe_c c__law_take hr (by omega) rfl (pa_cons (pv 1) (pa_cons pe_int pa_nil))))) (Evl.pss_cut (ps_if (pt_cmpR op_eq (pv 4) pe_int (nomark _)) (pss_cons (ps_set (i := 4) sc_law.nd rfl (by first | exact Or.inl rfl | exact Or.inr rfl) pe_int) pss_nil) pss_nil) (pss_cons (ps_set (i := 6) sc_law.nd rfl (by first | exact Or.inl rfl | exact Or.inr rfl) (pe_c c__law_ratio hr (by omega) rfl (pa_cons (pv 3) (pa_cons (pv 4) pa_nil)))) (pss_cons (ps_if (PW.pt (pw_or (pt_not (pt_val (pe_c c__law_equal hr (by omega) rfl (pa_cons (pe_c c_ratio hr (by omega) rfl (pa_cons (pv 3) (pa_cons (pv 4) pa_nil))) (pa_cons (pv 6) pa_nil))))) (pw_or1 (pt_not (pt_val (pe_c c__law_equal hr (by omega) rfl (pa_cons (pe_c c_ratio hr (by omega) rfl (pa_cons (pe_op op_mulX (pv 3) (pv 5)) (pa_cons (pe_op op_mulX (pv 4) (pv 5)) pa_nil))) (pa_cons (pv 6) pa_nil)))))))) (pss_cons (ps_ret pe_bl) pss_nil) pss_nil) (pss_cons (ps_set (i := 7) sc_law.nd rfl (by first | exact Or.inl rfl | exact Or.inr rfl) (pe_c c__law_ratio hr (by omega) rfl (pa_cons (pe_c c__law_number hr (by omega) rfl (pa_cons (pv 1) pa_nil)) (pa_cons (pe_op op_add pe_int (pe_callB call_abs rfl z_abs bt_abs (pa_cons (pe_c c__law_number hr (by omega) rfl (pa_cons (pv 1) pa_nil)) pa_nil))) pa_nil)))) (pss_cons (ps_if (PW.pt (pw_or (pt_not (pt_val (pe_c c__law_equal hr (by omega) rfl (pa_cons (pe_c c_plus hr (by omega) rfl (pa_cons (pv 6) (pa_cons (pv 7) pa_nil))) (pa_cons (pe_c c__law_plus hr (by omega) rfl (pa_cons (pv 6) (pa_cons (pv 7) pa_nil))) pa_nil))))) (pw_or1 (pt_not (pt_val (pe_c c__law_equal hr (by omega) rfl (pa_cons (pe_c c_times hr (by omega) rfl (pa_cons (pv 6) (pa_cons (pv 7) pa_nil))) (pa_cons (pe_c c__law_times hr (by omega) rfl (pa_cons (pv 6) (pa_cons (pv 7) pa_nil))) pa_nil)))))))) (pss_cons (ps_ret pe_bl) pss_nil) pss_nil) (pss_cons (ps_if (pt_not (pt_val (pe_c c__law_equal hr (by omega) rfl (pa_cons (pe_c c_minus hr (by omega) rfl (pa_cons (pv 6) (pa_cons (pv 7) pa_nil))) (pa_cons (pe_c c__law_plus hr (by omega) rfl (pa_cons (pv 6) (pa_cons (pe_tup (pa_cons (pe_op op_sub pe_int (pe_ix ix_seq (pv 7) pe_int (fun _ _ => rfl))) (pa_cons (pe_ix ix_seq (pv 7) pe_int (fun _ _ => rfl)) pa_nil))) pa_nil))) pa_nil))))) (pss_cons (ps_ret pe_bl) pss_nil) pss_nil) (pss_cons (ps_if (PW.pt (pw_and (pt_cmpR op_ne (pe_ix ix_seq (pv 7) pe_int (fun _ _ => rfl)) pe_int (nomark _)) (pw_and1 (pt_not (pt_val (pe_c c__law_equal hr (by omega) rfl (pa_cons (pe_c c_over hr (by omega) rfl (pa_cons (pv 6) (pa_cons (pv 7) pa_nil))) (pa_cons (pe_c c__law_over hr (by omega) rfl (pa_cons (pv 6) (pa_cons (pv 7) pa_nil))) pa_nil)))))))) (pss_cons (ps_ret pe_bl) pss_nil) pss_nil) (pss_cons (ps_if (PW.pt (pw_or (pt_not (pt_val (pe_c c__law_equal hr (by omega) rfl (pa_cons (pe_c c_is_less hr (by omega) rfl (pa_cons (pv 6) (pa_cons (pv 7) pa_nil))) (pa_cons (pe_cmpR op_lt (pe_op op_mulX (pe_ix ix_seq (pv 6) pe_int (fun _ _ => rfl)) (pe_ix ix_seq (pv 7) pe_int (fun _ _ => rfl))) (pe_op op_mulX (pe_ix ix_seq (pv 7) pe_int (fun _ _ => rfl)) (pe_ix ix_seq (pv 6) pe_int (fun _ _ => rfl))) (nomark _)) pa_nil))))) (pw_or1 (pt_not (pt_val (pe_c c__law_equal hr (by omega) rfl (pa_cons (pe_c c_is_less hr (by omega) rfl (pa_cons (pv 6) (pa_cons (pv 6) pa_nil))) (pa_cons pe_bl pa_nil)))))))) (pss_cons (ps_ret pe_bl) pss_nil) pss_nil) pss_nil)))))))))))) (pss_cons (ps_ret pe_bl) pss_nil))), ?_⟩
    rw [show start ["_law_script", "_law_state", "_law_turn", "_law_n", "_law_d", "_law_common", "_law_a", "_law_b"] [u0] = ([some u0, none, none, none, none, none, none, none] : L2.St) from rfl]
    obtain ⟨t1, e2, hm⟩ := bindS hm
    refine q_asgL2 (n := 1) (r := (rLst rInt)) (s := rInt) w (ea_cons (ev_call (ea_cons (ev_var rfl f0) ea_nil) ⟨_, _, rfl, rfl, e2, rfl, rfl⟩) (ea_cons (ev_int (i := 0)) ea_nil)) fun p4 B3 H3 x3 (w3 : Own K B3 M [⟨p4, (cL2 (rLst rInt) rInt), (t1, (0 : Int))⟩] H3) => ?_
    obtain ⟨o8, e9, hm⟩ := bindS hm
    refine q_forR w3 (ei_rng1 (ea_cons (ev_int (i := 8)) ea_nil) (by decide)) _ (fun s5 B10 σ23 => ∃ o24 o25 o26 o27 o28 o29, σ23 = [some u0, some (.ref p4), o24, o25, o26, o27, o28, o29]) (fun s5 => [⟨p4, (cL2 (rLst rInt) rInt), s5⟩]) ((t1, (0 : Int))) e9 (fun B9 x9 => ⟨_, _, _, _, _, _, rfl⟩) rfl ?_ ?_
    · skip
      rintro s5 x6 s158 v16 B10 B11 H12 σ23 hb7 x13 ⟨o24, o25, o26, o27, o28, o29, rfl⟩ x14 w15 h17 ho22 N18 K19 hN20 hB21
      replace w15 : Own K B11 M [⟨p4, (cL2 (rLst rInt) rInt), s5⟩] H12 := w15
      refine g_name ?_
      obtain ⟨t30, e31, hb7⟩ := bindS hb7
      refine q_asg (n := 3) w15 (ev_callC 0 (x := ⟨p4, (cL2 (rLst rInt) rInt), s5⟩) (x' := ⟨p4, (cL2 (rLst rInt) rInt), t30.2⟩) (ea_cons (ev_varR rfl) ea_nil) rfl ⟨_, _, _, rfl, rfl, e31, rfl, rfl⟩ rfl) fun v33 B32 H32 x32 (w32 : Own K B32 M [⟨p4, (cL2 (rLst rInt) rInt), t30.2⟩] H32) h34 => ?_
      obtain ⟨t35, e36, hb7⟩ := bindS hb7
      refine q_asg (n := 4) w32 (ev_callC 0 (x := ⟨p4, (cL2 (rLst rInt) rInt), t30.2⟩) (x' := ⟨p4, (cL2 (rLst rInt) rInt), t35.2⟩) (ea_cons (ev_varR rfl) ea_nil) rfl ⟨_, _, _, rfl, rfl, e36, rfl, rfl⟩ rfl) fun v38 B37 H37 x37 (w37 : Own K B37 M [⟨p4, (cL2 (rLst rInt) rInt), t35.2⟩] H37) h39 => ?_
      obtain ⟨t40, e41, hb7⟩ := bindS hb7
      refine q_asg (n := 5) w37 (ev_add (ev_int (i := 1)) (ev_callC 0 (x := ⟨p4, (cL2 (rLst rInt) rInt), t35.2⟩) (x' := ⟨p4, (cL2 (rLst rInt) rInt), t40.2⟩) (ea_cons (ev_varR rfl) (ea_cons (ev_int (i := 30)) ea_nil)) rfl ⟨_, _, _, _, rfl, rfl, e41, rfl, rfl⟩ rfl)) fun v43 B42 H42 x42 (w42 : Own K B42 M [⟨p4, (cL2 (rLst rInt) rInt), t40.2⟩] H42) h44 => ?_
      obtain ⟨s46, e47, hb7⟩ := bindS hb7
      refine q_cut (fun σ56 H53 => ∃ v54 B53, Ex B42 B53 ∧ Own K B53 M [⟨p4, (cL2 (rLst rInt) rInt), t40.2⟩] H53 ∧ σ56 = [some u0, some (.ref p4), some v16, some v33, some v54, some v43, o28, o29] ∧ (rInt).is K B53 v54 s46) ?_ ?_
      · skip
        refine q_ifc w42 (et_test (ev_eqI (ev_varI rfl h39) (ev_int (i := 0)))) (fun hb45 B48 H48 x48 (w48 : Own K B48 M [⟨p4, (cL2 (rLst rInt) rInt), t40.2⟩] H48) => ?_) (fun hb45 B52 H52 x52 (w52 : Own K B52 M [⟨p4, (cL2 (rLst rInt) rInt), t40.2⟩] H52) => ?_)
        · skip
          rw [if_pos hb45] at e47
          refine q_asg (n := 4) w48 (ev_int (i := 1)) fun v50 B49 H49 x49 (w49 : Own K B49 M [⟨p4, (cL2 (rLst rInt) rInt), t40.2⟩] H49) h51 => ?_
          replace e47 : some _ = some _ := e47
          cases e47
          exact ⟨v50, _, (x48.trans x49), w49, rfl, h51⟩
        rw [if_neg (by rw [hb45]; exact Bool.false_ne_true)] at e47
        replace e47 : some _ = some _ := e47
        cases e47
        exact ⟨v38, _, x52, w52, rfl, ((rInt).mono (x42.trans x52) h39)⟩
      rintro σ56' H53 ⟨v54, B53, x53, w53, rfl, h55⟩
      obtain ⟨t57, e58, hb7⟩ := bindS hb7
      refine q_asg (n := 6) w53 (ev_call (ea_cons (ev_varI rfl h34) (ea_cons (ev_varI rfl h55) ea_nil)) ⟨_, _, _, rfl, rfl, e58, rfl, rfl⟩) fun v60 B59 H59 x59 (w59 : Own K B59 M [⟨p4, (cL2 (rLst rInt) rInt), t40.2⟩] H59) h61 => ?_
      obtain ⟨t62, e63, hb7⟩ := bindS hb7
      obtain ⟨t64, e65, hb7⟩ := bindS hb7
      obtain ⟨t74, e75, hb7⟩ := bindS hb7
      refine q_if w59 (et_or' (d := t74) (et_not (et_B (ev_call (ea_cons (ev_dat (ev_call (ea_cons (ev_varI rfl h34) (ea_cons (ev_varI rfl h55) ea_nil)) ⟨_, _, _, rfl, rfl, e63, rfl, rfl⟩) (dr_T2 dr_int dr_int)) (ea_cons (ev_dat (ev_var rfl h61) (dr_T2 dr_int dr_int)) ea_nil)) ⟨_, _, _, rfl, rfl, e65, rfl, rfl⟩))) (fun hb76 => by rw [if_neg (by rw [hb76]; exact Bool.false_ne_true)] at e75; obtain ⟨t66, e67, e75⟩ := bindS e75; obtain ⟨t68, e69, e75⟩ := bindS e75; obtain ⟨t70, e71, e75⟩ := bindS e75; obtain ⟨t72, e73, e75⟩ := bindS e75; obtain rfl := Option.some.inj e75; exact (et_not (et_B (ev_call (ea_cons (ev_dat (ev_call (ea_cons (ev_mul (ev_varI rfl h34) (ev_varI rfl h44) e67) (ea_cons (ev_mul (ev_varI rfl h55) (ev_varI rfl h44) e69) ea_nil)) ⟨_, _, _, rfl, rfl, e71, rfl, rfl⟩) (dr_T2 dr_int dr_int)) (ea_cons (ev_dat (ev_var rfl h61) (dr_T2 dr_int dr_int)) ea_nil)) ⟨_, _, _, rfl, rfl, e73, rfl, rfl⟩)))) (fun hb76 => by rw [if_pos hb76] at e75; obtain rfl := Option.some.inj e75; exact ⟨rfl, rfl⟩)) (fun hb77 B78 H78 x78 (w78 : Own K B78 M [⟨p4, (cL2 (rLst rInt) rInt), t40.2⟩] H78) => ?_) (fun hb77 B79 H79 x79 (w79 : Own K B79 M [⟨p4, (cL2 (rLst rInt) rInt), t40.2⟩] H79) => ?_)
      · skip
        rw [if_pos hb77] at hb7
        replace hb7 : some _ = some _ := hb7
        obtain rfl := Option.some.inj hb7
        obtain rfl := ho22 _ rfl
        replace hm : some _ = some _ := hm
        obtain rfl := Option.some.inj hm
        exact q_ret w78 (ev_bl (b := false)) fun v9 B9 H9 x9 w9 h9 => k _ _ _ (((((((((x3.trans x13).trans x14).trans x32).trans x37).trans x42).trans x53).trans x59).trans x78).trans x9) w9.tail h9
      rw [if_neg (by rw [hb77]; exact Bool.false_ne_true)] at hb7
      obtain ⟨t80, e81, hb7⟩ := bindS hb7
      obtain ⟨t82, e83, hb7⟩ := bindS hb7
      obtain ⟨t84, e85, hb7⟩ := bindS hb7
      refine q_asg (n := 7) w79 (ev_call (ea_cons (ev_callC 0 (x := ⟨p4, (cL2 (rLst rInt) rInt), t40.2⟩) (x' := ⟨p4, (cL2 (rLst rInt) rInt), t80.2⟩) (ea_cons (ev_varR rfl) ea_nil) rfl ⟨_, _, _, rfl, rfl, e81, rfl, rfl⟩ rfl) (ea_cons (ev_add (ev_int (i := 1)) (ev_abs (ev_callC 0 (x := ⟨p4, (cL2 (rLst rInt) rInt), t80.2⟩) (x' := ⟨p4, (cL2 (rLst rInt) rInt), t82.2⟩) (ea_cons (ev_varR rfl) ea_nil) rfl ⟨_, _, _, rfl, rfl, e83, rfl, rfl⟩ rfl))) ea_nil)) ⟨_, _, _, rfl, rfl, e85, rfl, rfl⟩) fun v87 B86 H86 x86 (w86 : Own K B86 M [⟨p4, (cL2 (rLst rInt) rInt), t82.2⟩] H86) h88 => ?_
      obtain ⟨t89, e90, hb7⟩ := bindS hb7
      obtain ⟨t91, e92, hb7⟩ := bindS hb7
      obtain ⟨t93, e94, hb7⟩ := bindS hb7
      obtain ⟨t101, e102, hb7⟩ := bindS hb7
      refine q_if w86 (et_or' (d := t101) (et_not (et_B (ev_call (ea_cons (ev_dat (ev_call (ea_cons (ev_var rfl (((rT2 rInt rInt)).mono (x79.trans x86) h61)) (ea_cons (ev_var rfl h88) ea_nil)) ⟨_, _, _, rfl, rfl, e90, rfl, rfl⟩) (dr_T2 dr_int dr_int)) (ea_cons (ev_dat (ev_call (ea_cons (ev_var rfl (((rT2 rInt rInt)).mono (x79.trans x86) h61)) (ea_cons (ev_var rfl h88) ea_nil)) ⟨_, _, _, rfl, rfl, e92, rfl, rfl⟩) (dr_T2 dr_int dr_int)) ea_nil)) ⟨_, _, _, rfl, rfl, e94, rfl, rfl⟩))) (fun hb103 => by rw [if_neg (by rw [hb103]; exact Bool.false_ne_true)] at e102; obtain ⟨t95, e96, e102⟩ := bindS e102; obtain ⟨t97, e98, e102⟩ := bindS e102; obtain ⟨t99, e100, e102⟩ := bindS e102; obtain rfl := Option.some.inj e102; exact (et_not (et_B (ev_call (ea_cons (ev_dat (ev_call (ea_cons (ev_var rfl (((rT2 rInt rInt)).mono (x79.trans x86) h61)) (ea_cons (ev_var rfl h88) ea_nil)) ⟨_, _, _, rfl, rfl, e96, rfl, rfl⟩) (dr_T2 dr_int dr_int)) (ea_cons (ev_dat (ev_call (ea_cons (ev_var rfl (((rT2 rInt rInt)).mono (x79.trans x86) h61)) (ea_cons (ev_var rfl h88) ea_nil)) ⟨_, _, _, rfl, rfl, e98, rfl, rfl⟩) (dr_T2 dr_int dr_int)) ea_nil)) ⟨_, _, _, rfl, rfl, e100, rfl, rfl⟩)))) (fun hb103 => by rw [if_pos hb103] at e102; obtain rfl := Option.some.inj e102; exact ⟨rfl, rfl⟩)) (fun hb104 B105 H105 x105 (w105 : Own K B105 M [⟨p4, (cL2 (rLst rInt) rInt), t82.2⟩] H105) => ?_) (fun hb104 B106 H106 x106 (w106 : Own K B106 M [⟨p4, (cL2 (rLst rInt) rInt), t82.2⟩] H106) => ?_)
      · skip
        rw [if_pos hb104] at hb7
        replace hb7 : some _ = some _ := hb7
        obtain rfl := Option.some.inj hb7
        obtain rfl := ho22 _ rfl
        replace hm : some _ = some _ := hm
        obtain rfl := Option.some.inj hm
        exact q_ret w105 (ev_bl (b := false)) fun v9 B9 H9 x9 w9 h9 => k _ _ _ (((((((((((x3.trans x13).trans x14).trans x32).trans x37).trans x42).trans x53).trans x59).trans x79).trans x86).trans x105).trans x9) w9.tail h9
      rw [if_neg (by rw [hb104]; exact Bool.false_ne_true)] at hb7
      obtain ⟨t107, e108, hb7⟩ := bindS hb7
      obtain ⟨t109, e110, hb7⟩ := bindS hb7
      obtain ⟨t111, e112, hb7⟩ := bindS hb7
      refine q_if w106 (et_not (et_B (ev_call (ea_cons (ev_dat (ev_call (ea_cons (ev_var rfl (((rT2 rInt rInt)).mono ((x79.trans x86).trans x106) h61)) (ea_cons (ev_var rfl (((rT2 rInt rInt)).mono x106 h88)) ea_nil)) ⟨_, _, _, rfl, rfl, e108, rfl, rfl⟩) (dr_T2 dr_int dr_int)) (ea_cons (ev_dat (ev_call (ea_cons (ev_var rfl (((rT2 rInt rInt)).mono ((x79.trans x86).trans x106) h61)) (ea_cons (ev_T2 (ea_cons (ev_sub (ev_int (i := 0)) (ev_fst (ev_var rfl (((rT2 rInt rInt)).mono x106 h88)))) (ea_cons (ev_snd (ev_var rfl (((rT2 rInt rInt)).mono x106 h88))) ea_nil))) ea_nil)) ⟨_, _, _, rfl, rfl, e110, rfl, rfl⟩) (dr_T2 dr_int dr_int)) ea_nil)) ⟨_, _, _, rfl, rfl, e112, rfl, rfl⟩))) (fun hb113 B114 H114 x114 (w114 : Own K B114 M [⟨p4, (cL2 (rLst rInt) rInt), t82.2⟩] H114) => ?_) (fun hb113 B115 H115 x115 (w115 : Own K B115 M [⟨p4, (cL2 (rLst rInt) rInt), t82.2⟩] H115) => ?_)
      · skip
        rw [if_pos hb113] at hb7
        replace hb7 : some _ = some _ := hb7
        obtain rfl := Option.some.inj hb7
        obtain rfl := ho22 _ rfl
        replace hm : some _ = some _ := hm
        obtain rfl := Option.some.inj hm
        exact q_ret w114 (ev_bl (b := false)) fun v9 B9 H9 x9 w9 h9 => k _ _ _ ((((((((((((x3.trans x13).trans x14).trans x32).trans x37).trans x42).trans x53).trans x59).trans x79).trans x86).trans x106).trans x114).trans x9) w9.tail h9
      rw [if_neg (by rw [hb113]; exact Bool.false_ne_true)] at hb7
      obtain ⟨t122, e123, hb7⟩ := bindS hb7
      refine q_if w115 (et_and' (d := t122) (et_test (ev_neI (ev_fst (ev_var rfl (((rT2 rInt rInt)).mono (x106.trans x115) h88))) (ev_int (i := 0)))) (fun hb124 => by rw [if_pos hb124] at e123; obtain ⟨t116, e117, e123⟩ := bindS e123; obtain ⟨t118, e119, e123⟩ := bindS e123; obtain ⟨t120, e121, e123⟩ := bindS e123; obtain rfl := Option.some.inj e123; exact (et_not (et_B (ev_call (ea_cons (ev_dat (ev_call (ea_cons (ev_var rfl (((rT2 rInt rInt)).mono (((x79.trans x86).trans x106).trans x115) h61)) (ea_cons (ev_var rfl (((rT2 rInt rInt)).mono (x106.trans x115) h88)) ea_nil)) ⟨_, _, _, rfl, rfl, e117, rfl, rfl⟩) (dr_T2 dr_int dr_int)) (ea_cons (ev_dat (ev_call (ea_cons (ev_var rfl (((rT2 rInt rInt)).mono (((x79.trans x86).trans x106).trans x115) h61)) (ea_cons (ev_var rfl (((rT2 rInt rInt)).mono (x106.trans x115) h88)) ea_nil)) ⟨_, _, _, rfl, rfl, e119, rfl, rfl⟩) (dr_T2 dr_int dr_int)) ea_nil)) ⟨_, _, _, rfl, rfl, e121, rfl, rfl⟩)))) (fun hb124 => by rw [if_neg (by rw [hb124]; exact Bool.false_ne_true)] at e123; obtain rfl := Option.some.inj e123; exact ⟨rfl, rfl⟩)) (fun hb125 B126 H126 x126 (w126 : Own K B126 M [⟨p4, (cL2 (rLst rInt) rInt), t82.2⟩] H126) => ?_) (fun hb125 B127 H127 x127 (w127 : Own K B127 M [⟨p4, (cL2 (rLst rInt) rInt), t82.2⟩] H127) => ?_)
      · skip
        rw [if_pos hb125] at hb7
        replace hb7 : some _ = some _ := hb7
        obtain rfl := Option.some.inj hb7
        obtain rfl := ho22 _ rfl
        replace hm : some _ = some _ := hm
        obtain rfl := Option.some.inj hm
        exact q_ret w126 (ev_bl (b := false)) fun v9 B9 H9 x9 w9 h9 => k _ _ _ (((((((((((((x3.trans x13).trans x14).trans x32).trans x37).trans x42).trans x53).trans x59).trans x79).trans x86).trans x106).trans x115).trans x126).trans x9) w9.tail h9
      rw [if_neg (by rw [hb125]; exact Bool.false_ne_true)] at hb7
      obtain ⟨t128, e129, hb7⟩ := bindS hb7
      obtain ⟨t130, e131, hb7⟩ := bindS hb7
      obtain ⟨t132, e133, hb7⟩ := bindS hb7
      obtain ⟨t134, e135, hb7⟩ := bindS hb7
      obtain ⟨t140, e141, hb7⟩ := bindS hb7
      refine q_if w127 (et_or' (d := t140) (et_not (et_B (ev_call (ea_cons (ev_dat (ev_call (ea_cons (ev_var rfl (((rT2 rInt rInt)).mono ((((x79.trans x86).trans x106).trans x115).trans x127) h61)) (ea_cons (ev_var rfl (((rT2 rInt rInt)).mono ((x106.trans x115).trans x127) h88)) ea_nil)) ⟨_, _, _, rfl, rfl, e129, rfl, rfl⟩) dr_bool) (ea_cons (ev_dat (ev_lt (ev_mul (ev_fst (ev_var rfl (((rT2 rInt rInt)).mono ((((x79.trans x86).trans x106).trans x115).trans x127) h61))) (ev_snd (ev_var rfl (((rT2 rInt rInt)).mono ((x106.trans x115).trans x127) h88))) e131) (ev_mul (ev_fst (ev_var rfl (((rT2 rInt rInt)).mono ((x106.trans x115).trans x127) h88))) (ev_snd (ev_var rfl (((rT2 rInt rInt)).mono ((((x79.trans x86).trans x106).trans x115).trans x127) h61))) e133)) dr_bool) ea_nil)) ⟨_, _, _, rfl, rfl, e135, rfl, rfl⟩))) (fun hb142 => by rw [if_neg (by rw [hb142]; exact Bool.false_ne_true)] at e141; obtain ⟨t136, e137, e141⟩ := bindS e141; obtain ⟨t138, e139, e141⟩ := bindS e141; obtain rfl := Option.some.inj e141; exact (et_not (et_B (ev_call (ea_cons (ev_dat (ev_call (ea_cons (ev_var rfl (((rT2 rInt rInt)).mono ((((x79.trans x86).trans x106).trans x115).trans x127) h61)) (ea_cons (ev_var rfl (((rT2 rInt rInt)).mono ((((x79.trans x86).trans x106).trans x115).trans x127) h61)) ea_nil)) ⟨_, _, _, rfl, rfl, e137, rfl, rfl⟩) dr_bool) (ea_cons (ev_dat (ev_bl (b := false)) dr_bool) ea_nil)) ⟨_, _, _, rfl, rfl, e139, rfl, rfl⟩)))) (fun hb142 => by rw [if_pos hb142] at e141; obtain rfl := Option.some.inj e141; exact ⟨rfl, rfl⟩)) (fun hb143 B144 H144 x144 (w144 : Own K B144 M [⟨p4, (cL2 (rLst rInt) rInt), t82.2⟩] H144) => ?_) (fun hb143 B145 H145 x145 (w145 : Own K B145 M [⟨p4, (cL2 (rLst rInt) rInt), t82.2⟩] H145) => ?_)
      · skip
        rw [if_pos hb143] at hb7
        replace hb7 : some _ = some _ := hb7
        obtain rfl := Option.some.inj hb7
        obtain rfl := ho22 _ rfl
        replace hm : some _ = some _ := hm
        obtain rfl := Option.some.inj hm
        exact q_ret w144 (ev_bl (b := false)) fun v9 B9 H9 x9 w9 h9 => k _ _ _ ((((((((((((((x3.trans x13).trans x14).trans x32).trans x37).trans x42).trans x53).trans x59).trans x79).trans x86).trans x106).trans x115).trans x127).trans x144).trans x9) w9.tail h9
      rw [if_neg (by rw [hb143]; exact Bool.false_ne_true)] at hb7
      replace hb7 : some _ = some _ := hb7
      cases hb7
      exact hN20 _ _ _ _ rfl ((((((((((x32.trans x37).trans x42).trans x53).trans x59).trans x79).trans x86).trans x106).trans x115).trans x127).trans x145) w145 ⟨_, _, _, _, _, _, rfl⟩
    rintro s146 B147 H148 σ151 rfl x149 w150 ⟨o152, o153, o154, o155, o156, o157, rfl⟩
    dsimp only at hm
    replace w150 : Own K B147 M [⟨p4, (cL2 (rLst rInt) rInt), s146⟩] H148 := w150
    replace hm : some _ = some _ := hm
    obtain rfl := Option.some.inj hm
    exact q_ret w150 (ev_bl (b := true)) fun v9 B9 H9 x9 w9 h9 => k _ _ _ ((x3.trans x149).trans x9) w9.tail h9
end
end L3

namespace L3
open PySem L2
/-! ### the prelude of the laws: tape, draw, take, equal -/
def TapeOk (t : List Int) : Prop := t.length ≤ 4000 ∧ ∀ x ∈ t, 0 ≤ x ∧ x < 2 ^ 31
theorem all_app {t : List Int} {x : Int} (h : ∀ y ∈ t, 0 ≤ y ∧ y < (2 : Int) ^ 31) (hx : 0 ≤ x ∧ x < (2 : Int) ^ 31) : ∀ y ∈ t ++ [x], 0 ≤ y ∧ y < (2 : Int) ^ 31 := fun y hy => by
  rcases List.mem_append.mp hy with hy | hy
  · exact h y hy
  · rw [List.mem_singleton.mp hy]; exact hx
theorem tape_ok {ns : List Int} (h : ns.length ≤ 63) : Yes (m_l_tape ns) TapeOk := by
  unfold m_l_tape
  refine y_bind (Q := TapeOk) ?_ fun t h => y_some h
  refine (y_foldI _ (fun i t => t.length ≤ 40 * i ∧ ∀ x ∈ t, 0 ≤ x ∧ x < (2 : Int) ^ 31) ⟨by simp, by simp⟩ ?_).mono fun t ht => ⟨by have := ht.1; omega, ht.2⟩
  rintro i x s hx ⟨h1, h2⟩
  have hi : i < ns.length := (List.getElem?_eq_some_iff.mp hx).1
  refine y_eq (mulI_l (by decide) (by decide)) ?_
  refine y_bind (Q := fun n => 0 ≤ n) (y_if (fun c => y_some ?_) (fun c => y_some ?_)) fun n hn => ?_
  · have := of_decide_eq_true c; omega
  · have : ¬ (2 * x < 0) := fun z => c (decide_eq_true z)
    omega
  refine y_eq (a := 1000000000000000000) (by decide +kernel) ?_
  refine y_bind (Q := fun (p : Int × List Int) => p.2.length ≤ 40 * (i + 1) ∧ ∀ x ∈ p.2, 0 ≤ x ∧ x < (2 : Int) ^ 31) (y_if (fun c => ?_) (fun c => ?_)) fun p hp => y_some hp
  · refine y_bind (Q := fun (p : Int × List Int) => p.2.length ≤ 40 * (i + 1) ∧ ∀ x ∈ p.2, 0 ≤ x ∧ x < (2 : Int) ^ 31) ?_ fun p hp => y_some hp
    refine (y_foldI _ (fun j (p : Int × List Int) => 0 ≤ p.1 ∧ p.2.length ≤ 40 * i + j ∧ ∀ x ∈ p.2, 0 ≤ x ∧ x < (2 : Int) ^ 31) ⟨hn, h1, h2⟩ ?_).mono fun p hp => ⟨by have := hp.2.1; rw [rng_len] at this; simp at this; omega, hp.2.2⟩
    rintro j y ⟨m, t⟩ hy ⟨g1, g2, g3⟩
    have hj := (rng_at hy).2
    have hj : j < 40 := by omega
    refine y_bind (Q := fun (p : Int × List Int) => 0 ≤ p.1 ∧ p.2.length ≤ 40 * i + (j + 1) ∧ ∀ x ∈ p.2, 0 ≤ x ∧ x < (2 : Int) ^ 31) (y_if (fun c => ?_) (fun c => ?_)) fun p hp => y_some hp
    · refine y_eq (modI_s (by decide)) (y_eq (room_s (by show t.length ≤ _; show _ ≤ 1000000; have : t.length ≤ 40 * i + j := g2; omega)) (y_eq (divI_s (by decide) (by decide)) (y_some ⟨?_, ?_, ?_⟩)))
      · show 0 ≤ m / 1000
        have : 0 ≤ m := g1
        omega
      · show (t ++ [_]).length ≤ _
        have : t.length ≤ 40 * i + j := g2
        simp
        omega
      · refine all_app g3 ?_
        show 0 ≤ m % 1000 ∧ m % 1000 < _
        omega
    · exact y_some ⟨g1, by have : t.length ≤ 40 * i + j := g2; show t.length ≤ _; omega, g3⟩
  · refine y_bind (Q := fun (t : List Int) => t.length ≤ 40 * (i + 1) ∧ ∀ x ∈ t, 0 ≤ x ∧ x < (2 : Int) ^ 31) ?_ fun p hp => y_some hp
    refine (y_foldI _ (fun j (t : List Int) => t.length ≤ 40 * i + j ∧ ∀ x ∈ t, 0 ≤ x ∧ x < (2 : Int) ^ 31) ⟨h1, h2⟩ ?_).mono fun p hp => ⟨by have := hp.1; rw [rng_len] at this; simp at this; omega, hp.2⟩
    rintro j y t hy ⟨g2, g3⟩
    have hj := (rng_at hy).2
    have hj : j < 3 := by omega
    refine y_eq (mulI_r (by decide) (by decide)) (y_eq (mulI_r (by decide) (by decide)) (y_eq (modI_s (by decide)) (y_eq (mulI_r (by decide) (by decide)) (y_eq (divI_s (by decide) (by decide)) (y_eq (modI_s (by decide)) (y_eq (room_s (by omega)) (y_some ⟨?_, ?_⟩)))))))
    · rw [List.length_append, List.length_singleton]; omega
    · refine all_app g3 ?_
      omega
theorem draw_ok {t : List Int} {at' many : Int} (ht : TapeOk t) (h0 : 0 ≤ at') (h1 : at' < 2 ^ 62) (hm : 0 < many) : Yes (m_l_draw t at' many) fun r => 0 ≤ r ∧ r < many := by
  unfold m_l_draw
  refine y_if (fun c => ?_) (fun c => ?_)
  · have c := of_decide_eq_true c
    obtain ⟨n, rfl⟩ := Int.eq_ofNat_of_zero_le h0
    have hn : n < t.length := by omega
    refine y_eq (ixL_s (List.getElem?_eq_getElem hn) rfl) (y_eq (modI_s hm) (y_some ⟨Int.emod_nonneg _ (by omega), Int.emod_lt_of_pos _ hm⟩))
  · refine y_bind (Q := fun _ => True) (y_if (fun c => ?_) fun c => y_some trivial) fun n _ => ?_
    · have c := of_decide_eq_true c
      obtain ⟨n, hn⟩ := Int.eq_ofNat_of_zero_le (Int.emod_nonneg at' (show (t.length : Int) ≠ 0 by omega))
      have hl := Int.emod_lt_of_pos at' c
      refine y_eq (modI_s c) (y_eq (ixL_s (n := n) (List.getElem?_eq_getElem (by omega)) hn) (y_some trivial))
    · refine y_eq (mulI_r (by omega) (by omega)) (y_eq (mulI_r (by decide) (by decide)) (y_eq (mulI_r (by decide) (by decide)) (y_eq (modI_s (by decide)) (y_eq (modI_s hm) (y_some ⟨Int.emod_nonneg _ (by omega), Int.emod_lt_of_pos _ hm⟩)))))
/-- the tape and how far it is read -/
def StOk (s : List Int × Int) (n : Int) : Prop := TapeOk s.1 ∧ 0 ≤ s.2 ∧ s.2 ≤ n
theorem take_ok {s : List Int × Int} {n many : Int} (hs : StOk s n) (hn : n < 2 ^ 61) (hm : 0 < many) : Yes (m_l_take s many) fun r => (0 ≤ r.1 ∧ r.1 < many) ∧ StOk r.2 (n + 1) := by
  unfold m_l_take
  obtain ⟨h1, h2, h3⟩ := hs
  refine y_bind (draw_ok h1 (by show 0 ≤ s.2 + 1; omega) (by show s.2 + 1 < _; omega) hm) fun r hr => y_some ⟨hr, h1, by show 0 ≤ s.2 + 1; omega, by show s.2 + 1 ≤ _; omega⟩
/-- == of a kind -/
theorem eqvD_ok {a b : PyData} (ha : SeqAt.shaped a = true) (hb : SeqAt.shaped b = true) : eqvD a b = some (PyData.eqv a b) := if_pos ⟨ha, hb⟩
end L3
namespace L3
open PySem L2
/-! ### law_equal is equality -/
def okD : Nat → PyData → Prop
  | 0, _ => False
  | _ + 1, .none => True
  | _ + 1, .bool _ => True
  | _ + 1, .int _ => True
  | _ + 1, .str s => SeqAt.shaped (.str s) = true
  | n + 1, .list xs => xs.length < 2 ^ 60 ∧ ∀ x ∈ xs, okD n x
  | n + 1, .tuple xs => xs.length < 2 ^ 60 ∧ ∀ x ∈ xs, okD n x
  | _ + 1, .dict _ => False
def Is (o : Option Bool) (p : Prop) : Prop := ∃ c : Bool, o = some c ∧ (c = true ↔ p)
theorem is_t {p : Prop} (h : p) : Is (some true) p := ⟨true, rfl, fun _ => h, fun _ => rfl⟩
theorem is_f {p : Prop} (h : ¬ p) : Is (some false) p := ⟨false, rfl, fun e => absurd e (by decide), fun e => absurd e h⟩
theorem is_p {p : Prop} {b : Bool} {x y : Option Bool} (h : b = true) (k : Is x p) : Is (if b = true then x else y) p := by rw [if_pos h]; exact k
theorem is_n {p : Prop} {b : Bool} {x y : Option Bool} (h : b = false) (k : Is y p) : Is (if b = true then x else y) p := by rw [if_neg (by rw [h]; exact Bool.false_ne_true)]; exact k
theorem is_bd {α : Type} {p : Prop} {o : Option α} {a : α} {f : α → Option Bool} (h : o = some a) (k : Is (f a) p) : Is (Option.bind o f) p := by rw [h]; exact k
theorem is_bi {p : Prop} {o : Option Bool} (k : Is o p) : Is (Option.bind o fun t => some t) p := by obtain ⟨c, h, g⟩ := k; rw [h]; exact ⟨c, rfl, g⟩
theorem is_b {p : Prop} {c : Bool} (h : c = true ↔ p) : Is (some c) p := ⟨c, rfl, h⟩
theorem eq_seq {f : PyData → PyData → Option Bool} {xs ys : List PyData} {A B : PyData} (hl : xs.length = ys.length) (hb : ys.length < 2 ^ 60) (hA : ∀ i : Int, ixD A i = atI xs i) (hB : ∀ i : Int, ixD B i = atI ys i) (h : ∀ x ∈ xs, ∀ y ∈ ys, Is (f x y) (x = y)) :
    Yes (loopR (S := Unit) (R := Bool) (α := Int) (fun (s48 : Unit) (x49 : Int) => (
                  Option.bind (ixD A x49) fun t68 =>
                  Option.bind (ixD B x49) fun t70 =>
                  Option.bind (f t68 t70) fun t72 =>
                  if (!t72) = true then
                    some (Stp.rt false)
                  else
                    some (Stp.nx (()))
                )) (()) (rng 0 ys.length)) fun o => match o with | .inl _ => xs = ys | .inr b => b = false ∧ xs ≠ ys := by
  refine y_loopR _ (fun i _ => ∀ j < i, xs[j]? = ys[j]?) _ (fun j hj => absurd hj (by omega)) ?_ ?_
  · rintro i x ⟨⟩ hx hI
    obtain ⟨h1, h2⟩ := rng_at hx
    have hi : i < ys.length := by omega
    have hi' : i < xs.length := by omega
    have e1 : x = (i : Int) := by omega
    obtain ⟨v, g1, g2⟩ := h _ (List.getElem_mem hi') _ (List.getElem_mem hi)
    refine y_eq (by rw [hA]; exact ixL_s (List.getElem?_eq_getElem hi') e1) (y_eq (by rw [hB]; exact ixL_s (List.getElem?_eq_getElem hi) e1) (y_eq g1 (y_if (fun c => y_some ⟨rfl, fun e => ?_⟩) fun c => y_some ?_)))
    · subst e
      rw [g2.mpr rfl] at c
      exact absurd c (by decide)
    · intro j hj
      by_cases e : j = i
      · subst e
        rw [List.getElem?_eq_getElem hi, List.getElem?_eq_getElem hi']
        have c : v = true := by revert c; cases v <;> simp
        rw [g2.mp c]
      · exact hI j (by omega)
  · intro s hI
    rw [rng_len] at hI
    refine List.ext_getElem? fun j => ?_
    by_cases e : j < ys.length
    · exact hI j (by omega)
    · rw [List.getElem?_eq_none (by omega), List.getElem?_eq_none (by omega)]
theorem eq_seq2 {n : Nat} (IH : ∀ a b : PyData, okD n a → okD n b → Is (m_l_equal n a b) (a = b)) : ∀ xs ys : List PyData, xs.length < 2 ^ 60 → ys.length < 2 ^ 60 → (∀ x ∈ xs, okD n x) → (∀ x ∈ ys, okD n x) → ∀ A B : PyData, (∀ i : Int, ixD A i = atI xs i) → (∀ i : Int, ixD B i = atI ys i) → lenD A = some (xs.length : Int) → lenD B = some (ys.length : Int) →
        Is (Option.bind (lenD A) fun t37 => Option.bind (lenD B) fun t39 => if (!decide (t37 = t39)) = true then some false else Option.bind (lenD B) fun t44 => Option.bind (small62 t44) fun t46 =>
          Option.bind (loopR (S := Unit) (R := Bool) (α := Int) (fun (s48 : Unit) (x49 : Int) => (
                  Option.bind (ixD A x49) fun t68 =>
                  Option.bind (ixD B x49) fun t70 =>
                  Option.bind (m_l_equal n t68 t70) fun t72 =>
                  if (!t72) = true then
                    some (Stp.rt false)
                  else
                    some (Stp.nx (()))
                )) (()) ((rng 0 t44))) fun o51 => match o51 with | .inl s77 => some true | .inr q9 => some q9) (xs = ys) := by
  intro xs ys l1 l2 h1 h2 A B hA hB lA lB
  refine is_bd lA (is_bd lB ?_)
  by_cases e : xs.length = ys.length
  · refine is_n (by rw [e]; simp) (is_bd lB (is_bd (small62_s (by omega) (by omega)) ?_))
    obtain ⟨o, g1, g2⟩ := eq_seq (f := m_l_equal n) e l2 hA hB fun x hx y hy => IH x y (h1 x hx) (h2 y hy)
    refine is_bd g1 ?_
    match o, g2 with
    | .inl _, g2 => exact is_t g2
    | .inr b, ⟨g2, g3⟩ => subst g2; exact is_f g3
  · refine is_p ?_ (is_f fun h => e (congrArg List.length h))
    rw [Bool.not_eq_true']
    exact decide_eq_false fun h => e (by omega)
theorem eq_ok : ∀ (n : Nat) (a b : PyData), okD n a → okD n b → Is (m_l_equal n a b) (a = b)
  | 0, _, _, h, _ => h.elim
  | n + 1, a, b, ha, hb => by
    show Is (F_m_l_equal _ _ _) _
    unfold F_m_l_equal
    cases b with
    | none =>
      refine is_p rfl ?_
      cases a <;> first | exact is_t rfl | exact is_f (by intro e; cases e)
    | bool y =>
      refine is_n rfl (is_p rfl (is_bi ?_))
      cases a with
      | bool x => exact is_p rfl (is_bi (by rw [eqvD_ok (a := .bool x) (b := .bool y) (by rfl) (by rfl)]; exact is_b (by simp [PyData.eqv])))
      | _ => exact is_n rfl (is_f (by intro e; cases e))
    | int y =>
      refine is_n rfl (is_n rfl (is_p rfl (is_bi ?_)))
      cases a with
      | int x => exact is_p rfl (is_bi (is_p rfl (is_bi (by rw [eqvD_ok (a := .int x) (b := .int y) (by rfl) (by rfl)]; exact is_b (by simp [PyData.eqv])))))
      | bool x => exact is_p rfl (is_bi (is_n rfl (is_f (by intro e; cases e))))
      | _ => exact is_n rfl (is_f (by intro e; cases e))
    | str y =>
      refine is_n rfl (is_n rfl (is_n rfl (is_p rfl (is_bi ?_))))
      cases a with
      | str x => exact is_p rfl (is_bi (by rw [eqvD_ok (a := .str x) (b := .str y) ha hb]; exact is_b (by simp [PyData.eqv])))
      | _ => exact is_n rfl (is_f (by intro e; cases e))
    | list ys =>
      refine is_n rfl (is_n rfl (is_n rfl (is_n rfl (is_n rfl ?_))))
      cases a with
      | list xs =>
        refine is_n rfl ?_
        exact eq_seq2 (eq_ok n) xs ys ha.1 hb.1 ha.2 hb.2 (.list xs) (.list ys) (fun _ => rfl) (fun _ => rfl) rfl rfl |>.imp fun c h => ⟨h.1, h.2.trans (by simp)⟩
      | _ => exact is_p rfl (is_f (by intro e; cases e))
    | tuple ys =>
      refine is_n rfl (is_n rfl (is_n rfl (is_n rfl ?_)))
      cases a with
      | tuple xs =>
        refine is_n rfl (is_n rfl ?_)
        exact eq_seq2 (eq_ok n) xs ys ha.1 hb.1 ha.2 hb.2 (.tuple xs) (.tuple ys) (fun _ => rfl) (fun _ => rfl) rfl rfl |>.imp fun c h => ⟨h.1, h.2.trans (by simp)⟩
      | _ => exact is_p rfl (is_f (by intro e; cases e))
    | dict _ => exact hb.elim
theorem eq_typed {α : Type} [DecidableEq α] {r : Rep α} {f : α → PyData} {m n : Nat} (D : DR r f m) {a b : α} (ha : okD n (f a)) (hb : okD n (f b)) : m_l_equal n (f a) (f b) = some (decide (a = b)) := by
  obtain ⟨c, h1, h2⟩ := eq_ok n _ _ ha hb
  rw [h1]
  congr 1
  rw [Bool.eq_iff_iff, h2, decide_eq_true_iff]
  exact ⟨D.inj a b, fun h => by rw [h]⟩
end L3

namespace L3
open PySem L2
/-! ### fractions -/
def rat (n d : Int) : Int × Int := if d < 0 then (-n / (Int.gcd n d : Int), -d / (Int.gcd n d : Int)) else (n / (Int.gcd n d : Int), d / (Int.gcd n d : Int))
theorem gcdI_neg (n d : Int) : gcdI (-n) (-d) = (Int.gcd n d : Int) := by
  unfold gcdI; rw [Int.natAbs_neg, Int.natAbs_neg]; rfl
theorem gcd_pos {n d : Int} (h : d ≠ 0) : 0 < Int.gcd n d := Int.gcd_pos_of_ne_zero_right n h
theorem gcd_le' {n d : Int} (h : d ≠ 0) : Int.gcd n d ≤ d.natAbs := Nat.le_of_dvd (by omega) (Int.gcd_dvd_natAbs_right n d)
theorem ratio_ok {n d : Int} (h : d ≠ 0) (hb : d.natAbs < 2 ^ 8999) : m_ratio n d = some (rat n d) := by
  have g0 := gcd_pos (n := n) h
  have g1 := gcd_le' (n := n) h
  have gl : ((Int.gcd n d : Nat) : Int).natAbs < 2 ^ 8999 := Nat.lt_of_le_of_lt (by omega) hb
  have dv : ∀ x : Int, divI x (Int.gcd n d : Int) = some (x / (Int.gcd n d : Int)) := fun x => divI_w (by omega) gl (by decide) (by decide)
  unfold m_ratio rat
  by_cases hd : d < 0
  · rw [if_pos (decide_eq_true hd), if_pos hd]
    show Option.bind (divI (-n) (gcdI (-n) (-d))) _ = _
    rw [gcdI_neg, dv]
    show Option.bind (divI (-d) (Int.gcd n d : Int)) _ = _
    rw [dv]
    rfl
  · rw [if_neg (by simp [hd]), if_neg hd]
    show Option.bind (divI n (Int.gcd n d : Int)) _ = _
    rw [dv]
    show Option.bind (divI d (Int.gcd n d : Int)) _ = _
    rw [dv]
    rfl
theorem euclid_ok {b a : Int} (hb : 0 < b) (ha : 0 ≤ a) (hp : a.natAbs * b.natAbs < 2 ^ 1990) : Yes (loopB (S := (Int × Int)) (α := Int) (fun (s24 : (Int × Int)) (x25 : Int) => (
    if (decide (s24.2 = (0 : Int))) = true then
      some (Stp.bk ((s24.1, s24.2)))
    else
      Option.bind (modI s24.1 s24.2) fun t52 =>
      some (Stp.nx ((s24.2, t52)))
  )) ((b, a)) ((rng 0 ((2000 : Int))))) fun s => s.1 = (Int.gcd a b : Int) := by
  refine y_loopB _ (fun i s => 0 < s.1 ∧ 0 ≤ s.2 ∧ Int.gcd s.2 s.1 = Int.gcd a b ∧ (i = 0 → s = (b, a)) ∧ (0 < i → s.2 < s.1 ∧ s.2.natAbs * s.1.natAbs * 2 ^ (i - 1) ≤ a.natAbs * b.natAbs)) _ ⟨hb, ha, rfl, fun _ => rfl, fun h => absurd h (by omega)⟩ ?_ ?_
  · rintro i x ⟨u, v⟩ hx ⟨h1, h2, h3, h4, h5⟩
    replace h1 : 0 < u := h1
    replace h2 : 0 ≤ v := h2
    refine y_if (fun c => y_some ?_) (fun c => ?_)
    · have c : v = 0 := of_decide_eq_true c
      subst c
      show u = _
      rw [← h3]
      show u = ((Int.gcd 0 u : Nat) : Int)
      rw [Int.gcd_zero_left]
      omega
    · have c : v ≠ 0 := fun e => c (decide_eq_true e)
      have hv : 0 < v := by omega
      have m0 := Int.emod_nonneg u c
      have m1 := Int.emod_lt_of_pos u hv
      refine y_eq (modI_s hv) (y_some ⟨hv, m0, ?_, fun e => absurd e (by omega), fun _ => ⟨m1, ?_⟩⟩)
      · show Int.gcd (u % v) v = _
        rw [← h3]
        show _ = Int.gcd v u
        obtain ⟨p, rfl⟩ := Int.eq_ofNat_of_zero_le (Int.le_of_lt h1)
        obtain ⟨q, rfl⟩ := Int.eq_ofNat_of_zero_le h2
        rw [← Int.natCast_emod]
        exact (Nat.gcd_rec q p).symm
      · show (u % v).natAbs * v.natAbs * 2 ^ i ≤ _
        obtain ⟨p, rfl⟩ := Int.eq_ofNat_of_zero_le (Int.le_of_lt h1)
        obtain ⟨q, rfl⟩ := Int.eq_ofNat_of_zero_le h2
        have e : ((p : Int) % (q : Int)).natAbs = p % q := by rw [← Int.natCast_emod]; exact Int.natAbs_natCast _
        rw [e]
        simp only [Int.natAbs_natCast]
        have hq : 0 < q := Int.ofNat_lt.mp hv
        have hm : p % q < q := Nat.mod_lt _ hq
        match i with
        | 0 =>
          have h4 := h4 rfl
          rw [← (Prod.mk.inj h4).1, ← (Prod.mk.inj h4).2]
          simp only [Int.natAbs_natCast, Nat.pow_zero, Nat.mul_one]
          rw [Nat.mul_comm]
          exact Nat.mul_le_mul_left _ (Nat.mod_le _ _)
        | i + 1 =>
          obtain ⟨h6, h7⟩ := h5 (Nat.succ_pos i)
          have h6 : q < p := by have : (q : Int) < p := h6; omega
          have h7 : q * p * 2 ^ i ≤ a.natAbs * b.natAbs := by simpa using h7
          refine Nat.le_trans ?_ h7
          have hd := Nat.div_add_mod p q
          have h8 : 1 ≤ p / q := (Nat.one_le_div_iff hq).mpr (Nat.le_of_lt h6)
          have h9 : q ≤ q * (p / q) := Nat.le_mul_of_pos_right q h8
          have h10 : 2 * (p % q) ≤ p := by omega
          have h11 : p % q * q * 2 ≤ q * p := by
            rw [Nat.mul_comm (p % q) q, Nat.mul_assoc]
            exact Nat.mul_le_mul_left q (by omega)
          rw [Nat.pow_succ, Nat.mul_comm (2 ^ i) 2, ← Nat.mul_assoc]
          exact Nat.mul_le_mul_right _ h11
  · rintro ⟨u, v⟩ ⟨h1, h2, h3, _, h5⟩
    rw [rng_len] at h5
    replace h1 : 0 < u := h1
    replace h2 : 0 ≤ v := h2
    obtain ⟨_, h7⟩ := h5 (by decide)
    replace h7 : v.natAbs * u.natAbs * 2 ^ 1999 ≤ a.natAbs * b.natAbs := h7
    have hv : v = 0 := by
      by_cases e : v = 0
      · exact e
      · have g : 1 ≤ v.natAbs * u.natAbs := Nat.mul_pos (by omega) (by omega)
        have g2 := Nat.mul_le_mul_right (2 ^ 1999) g
        have g3 := Nat.lt_of_le_of_lt (Nat.le_trans g2 h7) hp
        rw [Nat.one_mul] at g3
        exact absurd (Nat.pow_lt_pow_iff_right (by decide) |>.mp g3) (by decide)
    subst hv
    show u = _
    rw [← h3]
    show u = ((Int.gcd 0 u : Nat) : Int)
    rw [Int.gcd_zero_left]
    omega
theorem absI_nn (n : Int) : absI n = (n.natAbs : Int) := by unfold absI; split <;> omega
theorem l_ratio_ok {n d : Int} (h : d ≠ 0) (hn : n.natAbs < 2 ^ 990) (hb : d.natAbs < 2 ^ 990) : m_l_ratio n d = some (rat n d) := by
  have g0 := gcd_pos (n := n) h
  have g1 := gcd_le' (n := n) h
  have gl : ((Int.gcd n d : Nat) : Int).natAbs < 2 ^ 990 := Nat.lt_of_le_of_lt (by omega) hb
  have dv : ∀ x : Int, divI x (Int.gcd n d : Int) = some (x / (Int.gcd n d : Int)) := fun x => divI_w (by omega) gl (by decide) (by decide)
  have pr : ∀ n d : Int, n.natAbs < 2 ^ 990 → d.natAbs < 2 ^ 990 → (absI n).natAbs * d.natAbs < 2 ^ 1990 := fun n d h1 h2 => by
    rw [absI_nn, Int.natAbs_natCast]
    refine Nat.lt_of_lt_of_le (Nat.mul_lt_mul'' h1 h2) ?_
    rw [← Nat.pow_add]
    exact Nat.pow_le_pow_right (by decide) (by decide)
  have ga : ∀ n d : Int, Int.gcd (absI n) d = Int.gcd n d := fun n d => by
    rw [absI_nn]; unfold Int.gcd; rw [Int.natAbs_natCast]
  have nn : ∀ n : Int, 0 ≤ absI n := fun n => by rw [absI_nn]; omega
  unfold m_l_ratio rat
  by_cases hd : d < 0
  · rw [if_pos (decide_eq_true hd), if_pos hd]
    obtain ⟨s, e1, e2⟩ := euclid_ok (b := 0 - d) (a := absI (0 - n)) (by omega) (nn _) (pr _ _ (by omega) (by omega))
    rw [ga, show 0 - n = -n by omega, show 0 - d = -d by omega, Int.gcd_neg, Int.neg_gcd] at e2
    show Option.bind (loopB _ (0 - d, absI (0 - n)) _) _ = _
    rw [e1]
    show Option.bind (divI (0 - n) s.1) _ = _
    rw [e2, dv]
    show Option.bind (divI (0 - d) (Int.gcd n d : Int)) _ = _
    rw [dv]
    show some _ = some _
    rw [show 0 - n = -n by omega, show 0 - d = -d by omega]
  · rw [if_neg (by simp [hd]), if_neg hd]
    obtain ⟨s, e1, e2⟩ := euclid_ok (b := d) (a := absI n) (by omega) (nn _) (pr _ _ hn hb)
    rw [ga] at e2
    show Option.bind (loopB _ (d, absI n) _) _ = _
    rw [e1]
    show Option.bind (divI n s.1) _ = _
    rw [e2, dv]
    show Option.bind (divI d (Int.gcd n d : Int)) _ = _
    rw [dv]
    rfl
theorem rat_pos {n d : Int} (h : d ≠ 0) : 0 < (rat n d).2 := by
  have g0 := gcd_pos (n := n) h
  have dd := Int.gcd_dvd_right n d
  unfold rat
  split
  · exact Int.ediv_pos_of_pos_of_dvd (by omega) (by omega) (Int.dvd_neg.mpr dd)
  · exact Int.ediv_pos_of_pos_of_dvd (by omega) (by omega) dd
theorem natAbs_ediv_le (x : Int) (g : Nat) : (x / (g : Int)).natAbs ≤ x.natAbs := Int.natAbs_ediv_le_natAbs x g
theorem rat_fst_le {n d : Int} : (rat n d).1.natAbs ≤ n.natAbs := by
  unfold rat
  split
  · have := natAbs_ediv_le (-n) (Int.gcd n d); rw [Int.natAbs_neg] at this; exact this
  · exact natAbs_ediv_le n (Int.gcd n d)
theorem rat_snd_le {n d : Int} : (rat n d).2.natAbs ≤ d.natAbs := by
  unfold rat
  split
  · have := natAbs_ediv_le (-d) (Int.gcd n d); rw [Int.natAbs_neg] at this; exact this
  · exact natAbs_ediv_le d (Int.gcd n d)
theorem rat_mul {n d c : Int} (hc : 0 < c) : rat (n * c) (d * c) = rat n d := by
  have e : (Int.gcd (n * c) (d * c) : Int) = (Int.gcd n d : Int) * c := by
    rw [Int.gcd_mul_right]
    push_cast
    rw [Int.natAbs_of_nonneg (Int.le_of_lt hc)]
  have k : ∀ x : Int, x * c / ((Int.gcd n d : Int) * c) = x / (Int.gcd n d : Int) := fun x => Int.mul_ediv_mul_of_pos_left x _ hc
  unfold rat
  rw [e]
  by_cases hd : d < 0
  · rw [if_pos hd, if_pos (Int.mul_neg_of_neg_of_pos hd hc), ← Int.neg_mul, ← Int.neg_mul, k, k]
  · rw [if_neg hd, if_neg (by have := Int.mul_nonneg (show 0 ≤ d by omega) (Int.le_of_lt hc); omega), k, k]
end L3

namespace L3
open PySem L2
/-! ### k01 -/
theorem y_p {α : Type} {P : α → Prop} {b : Bool} {x y : Option α} (h : b = true) (k : Yes x P) : Yes (if b = true then x else y) P := by rw [if_pos h]; exact k
theorem y_n {α : Type} {P : α → Prop} {b : Bool} {x y : Option α} (h : b = false) (k : Yes y P) : Yes (if b = true then x else y) P := by rw [if_neg (by rw [h]; exact Bool.false_ne_true)]; exact k
def QB (a : Int × Int) (k : Nat) : Prop := a.1.natAbs < 2 ^ k ∧ a.2.natAbs < 2 ^ k ∧ 0 < a.2
theorem nb (i : Int) {k : Nat} (h : i.natAbs < 2 ^ k) (hk : k ≤ 63) : -(2 ^ 64) < i ∧ i < 2 ^ 64 := by
  have : i.natAbs < 2 ^ 63 := Nat.lt_of_lt_of_le h (Nat.pow_le_pow_right (by decide) hk)
  omega
theorem mul_b {i j : Int} {k l : Nat} (h : i.natAbs < 2 ^ k) (h' : j.natAbs < 2 ^ l) (hk : k ≤ 63) : mulI i j = some (i * j) ∧ (i * j).natAbs < 2 ^ (k + l) := by
  obtain ⟨h1, h2⟩ := nb i h hk
  exact ⟨mulI_l h1 h2, wide_lt h h'⟩
theorem add_b {i j : Int} {k : Nat} (h : i.natAbs < 2 ^ k) (h' : j.natAbs < 2 ^ k) : (i + j).natAbs < 2 ^ (k + 1) := by
  rw [Nat.pow_succ]; omega
theorem up_b {i : Int} {k l : Nat} (h : i.natAbs < 2 ^ k) (hk : k ≤ l) : i.natAbs < 2 ^ l := Nat.lt_of_lt_of_le h (Nat.pow_le_pow_right (by decide) hk)
theorem mul_ne {a b : Int} (ha : 0 < a) (hb : 0 < b) : a * b ≠ 0 := by have := Int.mul_pos ha hb; omega
theorem number_ok {s : List Int × Int} {n : Int} (hs : StOk s n) (hn : n < 2 ^ 60) : Yes (m_l_number s) fun r => r.1.natAbs < 2 ^ 30 ∧ StOk r.2 (n + 3) := by
  unfold m_l_number
  refine y_eq (a := 1000000000) (by decide +kernel) (y_bind (take_ok hs (by omega) (by decide)) fun t3 h3 => ?_)
  obtain ⟨⟨h31, h32⟩, h33⟩ := h3
  refine y_bind (Q := fun z => 0 < z ∧ z ≤ 1000000000) ?_ fun z hz => y_bind (take_ok h33 (by omega) hz.1) fun t10 h10 => ?_
  · obtain ⟨i, hi⟩ := Int.eq_ofNat_of_zero_le h31
    have hl : i < 4 := by omega
    refine ⟨[(4 : Int), 30, 1000, 1000000000][i], ixL_s (List.getElem?_eq_getElem hl) hi, ?_⟩
    match i, hl with
    | 0, _ => exact ⟨by show (0 : Int) < 4; decide, by show (4 : Int) ≤ 1000000000; decide⟩
    | 1, _ => exact ⟨by show (0 : Int) < 30; decide, by show (30 : Int) ≤ 1000000000; decide⟩
    | 2, _ => exact ⟨by show (0 : Int) < 1000; decide, by show (1000 : Int) ≤ 1000000000; decide⟩
    | 3, _ => exact ⟨by show (0 : Int) < 1000000000; decide, by show (1000000000 : Int) ≤ 1000000000; decide⟩
  · obtain ⟨⟨h101, h102⟩, h103⟩ := h10
    refine y_bind (take_ok h103 (by omega) (by decide)) fun t12 h12 => ?_
    obtain ⟨⟨h121, h122⟩, h123⟩ := h12
    have k : t12.1 = 0 ∨ t12.1 = 1 := by omega
    refine y_eq (mulI_l (by decide) (by decide)) (y_eq (mulI_l (by omega) (by omega)) (y_some ⟨?_, by have := h123; simpa [Int.add_assoc] using this⟩))
    show (t10.1 * (1 - 2 * t12.1)).natAbs < _
    rcases k with k | k
    · rw [k]; simp; omega
    · rw [k]; simp; omega
theorem eq_q {a b : Int × Int} : m_l_equal 8 (dT2 PyData.int PyData.int a) (dT2 PyData.int PyData.int b) = some (decide (a = b)) :=
  eq_typed (dr_T2 dr_int dr_int) ⟨by show 2 < 2 ^ 60; decide, by simp [okD]⟩ ⟨by show 2 < 2 ^ 60; decide, by simp [okD]⟩
theorem eq_b {a b : Bool} : m_l_equal 8 (.bool a) (.bool b) = some (decide (a = b)) := eq_typed dr_bool trivial trivial
theorem eq_qq {a : Int × Int} : m_l_equal 8 (dT2 PyData.int PyData.int a) (dT2 PyData.int PyData.int a) = some true := by rw [eq_q]; simp
theorem eq_bb {a : Bool} : m_l_equal 8 (.bool a) (.bool a) = some true := by rw [eq_b]; simp
theorem ratio2 {n d : Int} (h : d ≠ 0) (hn : n.natAbs < 2 ^ 200) (hb : d.natAbs < 2 ^ 200) : m_ratio n d = some (rat n d) ∧ m_l_ratio n d = some (rat n d) :=
  ⟨ratio_ok h (up_b hb (by decide)), l_ratio_ok h (up_b hn (by decide)) (up_b hb (by decide))⟩
section
variable {a b : Int × Int} (ha : QB a 40) (hb : QB b 40)
include ha hb
theorem plus_ok : m_plus a b = some (rat (a.1 * b.2 + b.1 * a.2) (a.2 * b.2)) ∧ m_l_plus a b = some (rat (a.1 * b.2 + b.1 * a.2) (a.2 * b.2)) := by
  obtain ⟨a1, a2, a3⟩ := ha
  obtain ⟨b1, b2, b3⟩ := hb
  have m1 := mul_b a1 b2 (by decide)
  have m2 := mul_b b1 a2 (by decide)
  have m3 := mul_b a2 b2 (by decide)
  have r := ratio2 (mul_ne a3 b3) (up_b (add_b m1.2 m2.2) (by decide)) (up_b m3.2 (by decide))
  unfold m_plus m_l_plus
  rw [m1.1, m2.1, m3.1]
  exact ⟨by show Option.bind (m_ratio _ _) _ = _; rw [r.1]; rfl, by show Option.bind (m_l_ratio _ _) _ = _; rw [r.2]; rfl⟩
theorem minus_ok : m_minus a b = some (rat (a.1 * b.2 - b.1 * a.2) (a.2 * b.2)) := by
  obtain ⟨a1, a2, a3⟩ := ha
  obtain ⟨b1, b2, b3⟩ := hb
  have m1 := mul_b a1 b2 (by decide)
  have m2 := mul_b b1 a2 (by decide)
  have m3 := mul_b a2 b2 (by decide)
  have r := ratio2 (n := a.1 * b.2 - b.1 * a.2) (mul_ne a3 b3) (by rw [Int.sub_eq_add_neg]; exact up_b (add_b m1.2 (by rw [Int.natAbs_neg]; exact m2.2)) (by decide)) (up_b m3.2 (by decide))
  unfold m_minus
  rw [m1.1, m2.1, m3.1]
  show Option.bind (m_ratio _ _) _ = _; rw [r.1]; rfl
theorem times_ok : m_times a b = some (rat (a.1 * b.1) (a.2 * b.2)) ∧ m_l_times a b = some (rat (a.1 * b.1) (a.2 * b.2)) := by
  obtain ⟨a1, a2, a3⟩ := ha
  obtain ⟨b1, b2, b3⟩ := hb
  have m1 := mul_b a1 b1 (by decide)
  have m3 := mul_b a2 b2 (by decide)
  have r := ratio2 (mul_ne a3 b3) (up_b m1.2 (by decide)) (up_b m3.2 (by decide))
  unfold m_times m_l_times
  rw [m1.1, m3.1]
  exact ⟨by show Option.bind (m_ratio _ _) _ = _; rw [r.1]; rfl, by show Option.bind (m_l_ratio _ _) _ = _; rw [r.2]; rfl⟩
theorem over_ok (h : b.1 ≠ 0) : m_over a b = some (rat (a.1 * b.2) (a.2 * b.1)) ∧ m_l_over a b = some (rat (a.1 * b.2) (a.2 * b.1)) := by
  obtain ⟨a1, a2, a3⟩ := ha
  obtain ⟨b1, b2, b3⟩ := hb
  have m1 := mul_b a1 b2 (by decide)
  have m3 := mul_b a2 b1 (by decide)
  have r := ratio2 (n := a.1 * b.2) (Int.mul_ne_zero (by omega) h) (up_b m1.2 (by decide)) (up_b m3.2 (by decide))
  unfold m_over m_l_over
  rw [m1.1, m3.1]
  exact ⟨by show Option.bind (m_ratio _ _) _ = _; rw [r.1]; rfl, by show Option.bind (m_l_ratio _ _) _ = _; rw [r.2]; rfl⟩
theorem less_ok : m_is_less a b = some (decide (a.1 * b.2 < b.1 * a.2)) ∧ mulI a.1 b.2 = some (a.1 * b.2) ∧ mulI b.1 a.2 = some (b.1 * a.2) := by
  obtain ⟨a1, a2, a3⟩ := ha
  obtain ⟨b1, b2, b3⟩ := hb
  have m1 := mul_b a1 b2 (by decide)
  have m2 := mul_b b1 a2 (by decide)
  refine ⟨?_, m1.1, m2.1⟩
  unfold m_is_less
  rw [m1.1, m2.1]
  rfl
end
theorem rat_qb {n d : Int} (h : d ≠ 0) (hn : n.natAbs < 2 ^ 40) (hd : d.natAbs < 2 ^ 40) : QB (rat n d) 40 := ⟨Nat.lt_of_le_of_lt rat_fst_le hn, Nat.lt_of_le_of_lt rat_snd_le hd, rat_pos h⟩
theorem neg_qb {b : Int × Int} {k : Nat} (h : QB b k) : QB (0 - b.1, b.2) k := ⟨by show (0 - b.1).natAbs < _; have := h.1; omega, h.2⟩
theorem law_true (ns : List Int) (h : ns.length ≤ 63) : m_law ns = some true := by
  suffices hy : Yes (m_law ns) (· = true) by
    obtain ⟨c, h1, rfl⟩ := hy; exact h1
  unfold m_law
  refine y_bind (tape_ok h) fun t ht => ?_
  refine y_bind (Q := fun o => ∃ s, o = .inl s) ?_ fun o ho => ?_
  rotate_left
  · obtain ⟨s, rfl⟩ := ho
    exact y_some rfl
  refine (y_loopR _ (fun i s => StOk s (20 * i)) _ ⟨ht, Int.le_refl 0, (by show (0 : Int) ≤ 20 * ((0 : Nat) : Int); decide)⟩ ?_ fun s _ => ⟨s, rfl⟩)
  rintro i x s hx hs
  have hi := (rng_at hx).2
  refine y_bind (number_ok hs (by omega)) fun t30 h30 => ?_
  refine y_bind (number_ok h30.2 (by omega)) fun t35 h35 => ?_
  refine y_bind (take_ok h35.2 (by omega) (by decide)) fun t40 h40 => ?_
  refine y_bind (Q := fun z => z ≠ 0 ∧ z.natAbs < 2 ^ 30) (y_if (fun c => y_some (by decide)) fun c => y_some ⟨fun e => c (decide_eq_true e), h35.1⟩) fun d hd => ?_
  have n1 : t30.1.natAbs < 2 ^ 40 := up_b h30.1 (by decide)
  have d1 : d.natAbs < 2 ^ 40 := up_b hd.2 (by decide)
  have r1 := ratio2 hd.1 (up_b n1 (by decide)) (up_b d1 (by decide))
  have qa := rat_qb hd.1 n1 d1
  refine y_eq r1.2 (y_eq r1.1 (y_eq eq_qq ?_))
  have c1 : 0 < 1 + t40.1 := by have := h40.1; omega
  have c2 : (1 + t40.1).natAbs < 2 ^ 40 := by have := h40.1; omega
  have m1 := mul_b n1 c2 (by decide)
  have m2 := mul_b d1 c2 (by decide)
  have r2 := ratio2 (Int.mul_ne_zero hd.1 (by omega : 1 + t40.1 ≠ 0)) (up_b m1.2 (by decide)) (up_b m2.2 (by decide))
  refine y_bind (Q := fun z => z = false) (y_n rfl (y_eq m1.1 (y_eq m2.1 (y_eq r2.1 (y_eq (a := true) (by rw [rat_mul c1, eq_qq]) (y_some rfl)))))) fun z hz => y_n hz ?_
  refine y_bind (number_ok h40.2 (by omega)) fun t80 h80 => ?_
  refine y_bind (number_ok h80.2 (by omega)) fun t82 h82 => ?_
  have e1 : 1 + absI t82.1 ≠ 0 ∧ (1 + absI t82.1).natAbs < 2 ^ 40 := by rw [absI_nn]; have := h82.1; omega
  have n2 : t80.1.natAbs < 2 ^ 40 := up_b h80.1 (by decide)
  have r3 := ratio2 e1.1 (up_b n2 (by decide)) (up_b e1.2 (by decide))
  have qb := rat_qb e1.1 n2 e1.2
  generalize ea : rat t30.1 d = a at *
  generalize eb : rat t80.1 (1 + absI t82.1) = b at *
  refine y_eq r3.2 ?_
  have p1 := plus_ok qa qb
  have p2 := times_ok qa qb
  have p3 := minus_ok qa qb
  have p4 := plus_ok qa (neg_qb qb)
  refine y_eq p1.1 (y_eq p1.2 (y_eq eq_qq (y_bind (Q := fun z => z = false) (y_n rfl (y_eq p2.1 (y_eq p2.2 (y_eq eq_qq (y_some rfl))))) fun z hz => y_n hz ?_)))
  have e : a.1 * b.2 - b.1 * a.2 = a.1 * b.2 + (0 - b.1) * a.2 := by rw [Int.sub_mul]; omega
  refine y_eq p3 (y_eq p4.2 (y_eq (a := true) (by rw [e]; exact eq_qq) (y_n rfl ?_)))
  refine y_bind (Q := fun z => z = false) (y_if (fun c => ?_) fun c => y_some rfl) fun z hz => y_n hz ?_
  · have hb0 : b.1 ≠ 0 := fun e => by rw [e] at c; simp at c
    have p5 := over_ok qa qb hb0
    exact y_eq p5.1 (y_eq p5.2 (y_eq eq_qq (y_some rfl)))
  have p6 := less_ok qa qb
  have p7 := less_ok qa qa
  refine y_eq p6.1 (y_eq p6.2.1 (y_eq p6.2.2 (y_eq eq_bb ?_)))
  refine y_bind (Q := fun z => z = false) (y_n rfl (y_eq p7.1 (y_eq (a := true) (by rw [eq_b]; simp) (y_some rfl)))) fun z hz => y_n hz (y_some ?_)
  obtain ⟨g1, g2, g3⟩ := h82.2
  exact ⟨g1, g2, by push_cast; omega⟩
end L3

namespace L3
open PySem L2 PySem.Spec PyProof.Rows
/-! ### the end -/
theorem all_mk {l : PySem.W.OpenLaw} {w : World} {K : PySem.W.Frag} {h : Heap} {mg : Str → Option Value} {fa f0 f1 f2 f3 f4 f5 f6 f7 f8 f9 f10 f11 f12 f13 f14 f15 : Addr} (X : K.In h) (G : h.Ns mainGlobals mg) (hfa : mg "law" = some (.ref fa))
    {od0 od1 od2 od3 od4 od5 od6 od7 od8 od9 od10 od11 od12 od13 od14 od15 an0 an1 an2 an3 an4 an5 an6 an7 an8 an9 an10 an11 an12 an13 an14 an15 : Option Addr} {sl0 sl1 sl2 sl3 sl4 sl5 sl6 sl7 sl8 sl9 sl10 sl11 sl12 sl13 sl14 sl15 : Array (Option Value)} {oc0 kV0 dc0 pm0 cd0 ct0 oc1 kV1 dc1 pm1 cd1 ct1 oc2 kV2 dc2 pm2 cd2 ct2 oc3 kV3 dc3 pm3 cd3 ct3 oc4 kV4 dc4 pm4 cd4 ct4 oc5 kV5 dc5 pm5 cd5 ct5 oc6 kV6 dc6 pm6 cd6 ct6 oc7 kV7 dc7 pm7 cd7 ct7 oc8 kV8 dc8 pm8 cd8 ct8 oc9 kV9 dc9 pm9 cd9 ct9 oc10 kV10 dc10 pm10 cd10 ct10 oc11 kV11 dc11 pm11 cd11 ct11 oc12 kV12 dc12 pm12 cd12 ct12 oc13 kV13 dc13 pm13 cd13 ct13 oc14 kV14 dc14 pm14 cd14 ct14 oc15 kV15 dc15 pm15 cd15 ct15 : Value}
    (a0 : PySem.W.nsIn K mainGlobals "ratio" = some (some (.ref f0)))
    (l0 : K.lookup f0 = some ⟨oc0, od0, .func (PySem.W.fnOf "ratio" "ratio" (defArgs s_ratio) (defBody s_ratio) (defScope s_ratio) .none kV0 dc0 pm0 an0 cd0 ct0), sl0⟩)
    (c0 : PySem.W.codeIn K cd0 "ratio" = true)
    (k0 : PySem.W.keepIn K (.ref f0) = true)
    (a1 : PySem.W.nsIn K mainGlobals "is_less" = some (some (.ref f1)))
    (l1 : K.lookup f1 = some ⟨oc1, od1, .func (PySem.W.fnOf "is_less" "is_less" (defArgs s_is_less) (defBody s_is_less) (defScope s_is_less) .none kV1 dc1 pm1 an1 cd1 ct1), sl1⟩)
    (c1 : PySem.W.codeIn K cd1 "is_less" = true)
    (k1 : PySem.W.keepIn K (.ref f1) = true)
    (a2 : PySem.W.nsIn K mainGlobals "_law_tape" = some (some (.ref f2)))
    (l2 : K.lookup f2 = some ⟨oc2, od2, .func (PySem.W.fnOf "_law_tape" "_law_tape" (defArgs s__law_tape) (defBody s__law_tape) (defScope s__law_tape) .none kV2 dc2 pm2 an2 cd2 ct2), sl2⟩)
    (c2 : PySem.W.codeIn K cd2 "_law_tape" = true)
    (k2 : PySem.W.keepIn K (.ref f2) = true)
    (a3 : PySem.W.nsIn K mainGlobals "_law_draw" = some (some (.ref f3)))
    (l3 : K.lookup f3 = some ⟨oc3, od3, .func (PySem.W.fnOf "_law_draw" "_law_draw" (defArgs s__law_draw) (defBody s__law_draw) (defScope s__law_draw) .none kV3 dc3 pm3 an3 cd3 ct3), sl3⟩)
    (c3 : PySem.W.codeIn K cd3 "_law_draw" = true)
    (k3 : PySem.W.keepIn K (.ref f3) = true)
    (a4 : PySem.W.nsIn K mainGlobals "_law_ratio" = some (some (.ref f4)))
    (l4 : K.lookup f4 = some ⟨oc4, od4, .func (PySem.W.fnOf "_law_ratio" "_law_ratio" (defArgs s__law_ratio) (defBody s__law_ratio) (defScope s__law_ratio) .none kV4 dc4 pm4 an4 cd4 ct4), sl4⟩)
    (c4 : PySem.W.codeIn K cd4 "_law_ratio" = true)
    (k4 : PySem.W.keepIn K (.ref f4) = true)
    (a5 : PySem.W.nsIn K mainGlobals "plus" = some (some (.ref f5)))
    (l5 : K.lookup f5 = some ⟨oc5, od5, .func (PySem.W.fnOf "plus" "plus" (defArgs s_plus) (defBody s_plus) (defScope s_plus) .none kV5 dc5 pm5 an5 cd5 ct5), sl5⟩)
    (c5 : PySem.W.codeIn K cd5 "plus" = true)
    (k5 : PySem.W.keepIn K (.ref f5) = true)
    (a6 : PySem.W.nsIn K mainGlobals "minus" = some (some (.ref f6)))
    (l6 : K.lookup f6 = some ⟨oc6, od6, .func (PySem.W.fnOf "minus" "minus" (defArgs s_minus) (defBody s_minus) (defScope s_minus) .none kV6 dc6 pm6 an6 cd6 ct6), sl6⟩)
    (c6 : PySem.W.codeIn K cd6 "minus" = true)
    (k6 : PySem.W.keepIn K (.ref f6) = true)
    (a7 : PySem.W.nsIn K mainGlobals "times" = some (some (.ref f7)))
    (l7 : K.lookup f7 = some ⟨oc7, od7, .func (PySem.W.fnOf "times" "times" (defArgs s_times) (defBody s_times) (defScope s_times) .none kV7 dc7 pm7 an7 cd7 ct7), sl7⟩)
    (c7 : PySem.W.codeIn K cd7 "times" = true)
    (k7 : PySem.W.keepIn K (.ref f7) = true)
    (a8 : PySem.W.nsIn K mainGlobals "over" = some (some (.ref f8)))
    (l8 : K.lookup f8 = some ⟨oc8, od8, .func (PySem.W.fnOf "over" "over" (defArgs s_over) (defBody s_over) (defScope s_over) .none kV8 dc8 pm8 an8 cd8 ct8), sl8⟩)
    (c8 : PySem.W.codeIn K cd8 "over" = true)
    (k8 : PySem.W.keepIn K (.ref f8) = true)
    (a9 : PySem.W.nsIn K mainGlobals "_law_take" = some (some (.ref f9)))
    (l9 : K.lookup f9 = some ⟨oc9, od9, .func (PySem.W.fnOf "_law_take" "_law_take" (defArgs s__law_take) (defBody s__law_take) (defScope s__law_take) .none kV9 dc9 pm9 an9 cd9 ct9), sl9⟩)
    (c9 : PySem.W.codeIn K cd9 "_law_take" = true)
    (k9 : PySem.W.keepIn K (.ref f9) = true)
    (a10 : PySem.W.nsIn K mainGlobals "_law_plus" = some (some (.ref f10)))
    (l10 : K.lookup f10 = some ⟨oc10, od10, .func (PySem.W.fnOf "_law_plus" "_law_plus" (defArgs s__law_plus) (defBody s__law_plus) (defScope s__law_plus) .none kV10 dc10 pm10 an10 cd10 ct10), sl10⟩)
    (c10 : PySem.W.codeIn K cd10 "_law_plus" = true)
    (k10 : PySem.W.keepIn K (.ref f10) = true)
    (a11 : PySem.W.nsIn K mainGlobals "_law_times" = some (some (.ref f11)))
    (l11 : K.lookup f11 = some ⟨oc11, od11, .func (PySem.W.fnOf "_law_times" "_law_times" (defArgs s__law_times) (defBody s__law_times) (defScope s__law_times) .none kV11 dc11 pm11 an11 cd11 ct11), sl11⟩)
    (c11 : PySem.W.codeIn K cd11 "_law_times" = true)
    (k11 : PySem.W.keepIn K (.ref f11) = true)
    (a12 : PySem.W.nsIn K mainGlobals "_law_over" = some (some (.ref f12)))
    (l12 : K.lookup f12 = some ⟨oc12, od12, .func (PySem.W.fnOf "_law_over" "_law_over" (defArgs s__law_over) (defBody s__law_over) (defScope s__law_over) .none kV12 dc12 pm12 an12 cd12 ct12), sl12⟩)
    (c12 : PySem.W.codeIn K cd12 "_law_over" = true)
    (k12 : PySem.W.keepIn K (.ref f12) = true)
    (a13 : PySem.W.nsIn K mainGlobals "_law_number" = some (some (.ref f13)))
    (l13 : K.lookup f13 = some ⟨oc13, od13, .func (PySem.W.fnOf "_law_number" "_law_number" (defArgs s__law_number) (defBody s__law_number) (defScope s__law_number) .none kV13 dc13 pm13 an13 cd13 ct13), sl13⟩)
    (c13 : PySem.W.codeIn K cd13 "_law_number" = true)
    (k13 : PySem.W.keepIn K (.ref f13) = true)
    (a14 : PySem.W.nsIn K mainGlobals "_law_equal" = some (some (.ref f14)))
    (l14 : K.lookup f14 = some ⟨oc14, od14, .func (PySem.W.fnOf "_law_equal" "_law_equal" (defArgs s__law_equal) (defBody s__law_equal) (defScope s__law_equal) .none kV14 dc14 pm14 an14 cd14 ct14), sl14⟩)
    (c14 : PySem.W.codeIn K cd14 "_law_equal" = true)
    (k14 : PySem.W.keepIn K (.ref f14) = true)
    (a15 : PySem.W.nsIn K mainGlobals "law" = some (some (.ref f15)))
    (l15 : K.lookup f15 = some ⟨oc15, od15, .func (PySem.W.fnOf "law" "law" (defArgs s_law) (defBody s_law) (defScope s_law) .none kV15 dc15 pm15 an15 cd15 ct15), sl15⟩)
    (c15 : PySem.W.codeIn K cd15 "law" = true)
    (k15 : PySem.W.keepIn K (.ref f15) = true)
    (z_gcd : PySem.W.nsIn K mainGlobals "gcd" = some (some (.builtin "math.gcd")))
    (z_int : PySem.W.nsIn K mainGlobals "int" = some none)
    (z_range : PySem.W.nsIn K mainGlobals "range" = some none)
    (z_len : PySem.W.nsIn K mainGlobals "len" = some none)
    (z_abs : PySem.W.nsIn K mainGlobals "abs" = some none)
    (z_isinstance : PySem.W.nsIn K mainGlobals "isinstance" = some none)
    (z_bool : PySem.W.nsIn K mainGlobals "bool" = some none)
    (z_str : PySem.W.nsIn K mainGlobals "str" = some none)
    (z_tuple : PySem.W.nsIn K mainGlobals "tuple" = some none)
    (z_list : PySem.W.nsIn K mainGlobals "list" = some none)
    : ∃ fd : FuncData, (∀ (s : Shared) (v : Value), BindsTo s fd ⟨[v], []⟩ [("_law_script", v)]) ∧ ∀ base : Heap, K.In base → base.Ns mainGlobals mg → FnOk l.prog w K mg base CX0 9 fa fd ["_law_script"] (spV K C_law) := by
  have e := hfa.symm.trans (PySem.W.mg_of X G a15)
  cases e
  refine ⟨(PySem.W.fnOf "law" "law" (defArgs s_law) (defBody s_law) (defScope s_law) .none kV15 dc15 pm15 an15 cd15 ct15), fun s v => .of_eq rfl, fun base _ _ => ?_⟩
  have y_gcd := PySem.W.mg_of X G z_gcd
  have y_int := PySem.W.mg_none_of X G z_int
  have y_range := PySem.W.mg_none_of X G z_range
  have y_len := PySem.W.mg_none_of X G z_len
  have y_abs := PySem.W.mg_none_of X G z_abs
  have y_isinstance := PySem.W.mg_none_of X G z_isinstance
  have y_bool := PySem.W.mg_none_of X G z_bool
  have y_str := PySem.W.mg_none_of X G z_str
  have y_tuple := PySem.W.mg_none_of X G z_tuple
  have y_list := PySem.W.mg_none_of X G z_list
  have F0 := fun_mk (st := s_ratio) l0 c0 k0
  have b0 := F0.binds (ps := ["n", "d"]) fun _ _ _ _ _ _ us hl => match us, hl with | [_, _], _ => rfl
  have C_0 : Cl l.prog w K mg base 1 "ratio" (spV K C_ratio) [] := ⟨_, _, ["n", "d"], [], ok_ratio F0 y_gcd, PySem.W.mg_of X G a0, k0, b0, .nil⟩
  have F1 := fun_mk (st := s_is_less) l1 c1 k1
  have b1 := F1.binds (ps := ["a", "b"]) fun _ _ _ _ _ _ us hl => match us, hl with | [_, _], _ => rfl
  have C_1 : Cl l.prog w K mg base 1 "is_less" (spV K C_is_less) [] := ⟨_, _, ["a", "b"], [], ok_is_less F1 , PySem.W.mg_of X G a1, k1, b1, .nil⟩
  have F2 := fun_mk (st := s__law_tape) l2 c2 k2
  have b2 := F2.binds (ps := ["_law_script"]) fun _ _ _ _ _ _ us hl => match us, hl with | [_], _ => rfl
  have C_2 : Cl l.prog w K mg base 1 "_law_tape" (spV K C__law_tape) [] := ⟨_, _, ["_law_script"], [], ok__law_tape F2 y_int y_range, PySem.W.mg_of X G a2, k2, b2, .nil⟩
  have F3 := fun_mk (st := s__law_draw) l3 c3 k3
  have b3 := F3.binds (ps := ["_law_tape_here", "_law_at", "_law_many"]) fun _ _ _ _ _ _ us hl => match us, hl with | [_, _, _], _ => rfl
  have C_3 : Cl l.prog w K mg base 1 "_law_draw" (spV K C__law_draw) [] := ⟨_, _, ["_law_tape_here", "_law_at", "_law_many"], [], ok__law_draw F3 y_len y_int, PySem.W.mg_of X G a3, k3, b3, .nil⟩
  have F4 := fun_mk (st := s__law_ratio) l4 c4 k4
  have b4 := F4.binds (ps := ["_law_n", "_law_d"]) fun _ _ _ _ _ _ us hl => match us, hl with | [_, _], _ => rfl
  have C_4 : Cl l.prog w K mg base 1 "_law_ratio" (spV K C__law_ratio) [] := ⟨_, _, ["_law_n", "_law_d"], [], ok__law_ratio F4 y_abs y_range y_int, PySem.W.mg_of X G a4, k4, b4, .nil⟩
  have F5 := fun_mk (st := s_plus) l5 c5 k5
  have b5 := F5.binds (ps := ["a", "b"]) fun _ _ _ _ _ _ us hl => match us, hl with | [_, _], _ => rfl
  have C_5 : Cl l.prog w K mg base 2 "plus" (spV K C_plus) [] := ⟨_, _, ["a", "b"], [], ok_plus F5 C_0, PySem.W.mg_of X G a5, k5, b5, .nil⟩
  have F6 := fun_mk (st := s_minus) l6 c6 k6
  have b6 := F6.binds (ps := ["a", "b"]) fun _ _ _ _ _ _ us hl => match us, hl with | [_, _], _ => rfl
  have C_6 : Cl l.prog w K mg base 2 "minus" (spV K C_minus) [] := ⟨_, _, ["a", "b"], [], ok_minus F6 C_0, PySem.W.mg_of X G a6, k6, b6, .nil⟩
  have F7 := fun_mk (st := s_times) l7 c7 k7
  have b7 := F7.binds (ps := ["a", "b"]) fun _ _ _ _ _ _ us hl => match us, hl with | [_, _], _ => rfl
  have C_7 : Cl l.prog w K mg base 2 "times" (spV K C_times) [] := ⟨_, _, ["a", "b"], [], ok_times F7 C_0, PySem.W.mg_of X G a7, k7, b7, .nil⟩
  have F8 := fun_mk (st := s_over) l8 c8 k8
  have b8 := F8.binds (ps := ["a", "b"]) fun _ _ _ _ _ _ us hl => match us, hl with | [_, _], _ => rfl
  have C_8 : Cl l.prog w K mg base 2 "over" (spV K C_over) [] := ⟨_, _, ["a", "b"], [], ok_over F8 C_0, PySem.W.mg_of X G a8, k8, b8, .nil⟩
  have F9 := fun_mk (st := s__law_take) l9 c9 k9
  have b9 := F9.binds (ps := ["_law_state", "_law_many"]) fun _ _ _ _ _ _ us hl => match us, hl with | [_, _], _ => rfl
  have C_9 : Cl l.prog w K mg base 2 "_law_take" (spV K C__law_take) [] := ⟨_, _, ["_law_state", "_law_many"], [], ok__law_take F9 C_3, PySem.W.mg_of X G a9, k9, b9, .nil⟩
  have F10 := fun_mk (st := s__law_plus) l10 c10 k10
  have b10 := F10.binds (ps := ["_law_a", "_law_b"]) fun _ _ _ _ _ _ us hl => match us, hl with | [_, _], _ => rfl
  have C_10 : Cl l.prog w K mg base 2 "_law_plus" (spV K C__law_plus) [] := ⟨_, _, ["_law_a", "_law_b"], [], ok__law_plus F10 C_4, PySem.W.mg_of X G a10, k10, b10, .nil⟩
  have F11 := fun_mk (st := s__law_times) l11 c11 k11
  have b11 := F11.binds (ps := ["_law_a", "_law_b"]) fun _ _ _ _ _ _ us hl => match us, hl with | [_, _], _ => rfl
  have C_11 : Cl l.prog w K mg base 2 "_law_times" (spV K C__law_times) [] := ⟨_, _, ["_law_a", "_law_b"], [], ok__law_times F11 C_4, PySem.W.mg_of X G a11, k11, b11, .nil⟩
  have F12 := fun_mk (st := s__law_over) l12 c12 k12
  have b12 := F12.binds (ps := ["_law_a", "_law_b"]) fun _ _ _ _ _ _ us hl => match us, hl with | [_, _], _ => rfl
  have C_12 : Cl l.prog w K mg base 2 "_law_over" (spV K C__law_over) [] := ⟨_, _, ["_law_a", "_law_b"], [], ok__law_over F12 C_4, PySem.W.mg_of X G a12, k12, b12, .nil⟩
  have F13 := fun_mk (st := s__law_number) l13 c13 k13
  have b13 := F13.binds (ps := ["_law_state"]) fun _ _ _ _ _ _ us hl => match us, hl with | [_], _ => rfl
  have C_13 : Cl l.prog w K mg base 3 "_law_number" (spV K C__law_number) [] := ⟨_, _, ["_law_state"], [], ok__law_number F13 C_9, PySem.W.mg_of X G a13, k13, b13, .nil⟩
  have F14 := fun_mk (st := s__law_equal) l14 c14 k14
  have b14 := F14.binds (ps := ["_law_actual", "_law_due"]) fun _ _ _ _ _ _ us hl => match us, hl with | [_, _], _ => rfl
  have C_14 : Cl l.prog w K mg base 8 "_law_equal" (spV K (C__law_equal 8)) [] := ⟨_, _, ["_law_actual", "_law_due"], [], all__law_equal F14 y_isinstance y_bool y_int y_str y_tuple y_list y_len y_range (PySem.W.mg_of X G a14) k14 b14 8, PySem.W.mg_of X G a14, k14, b14, .nil⟩
  have F15 := fun_mk (st := s_law) l15 c15 k15
  exact ok_law F15 C_2 C_13 C_9 C_4 C_14 C_0 C_5 C_10 C_7 C_11 C_6 C_8 C_12 C_1 y_range y_abs
theorem walk {l : PySem.W.OpenLaw} {q : Program} {loose : List Str} {XP : (Str → Option Value) → Heap → Prop} {YP : World → Heap → Prop} {d : DefRec} {K : Params → PySem.W.Frag} (hn : l.most = some 63) (hdf : d.params.defaults = [])
    (hY : ∀ (w : World) (h : Heap), YP w h → (K w.params).In h) (hm : ∀ ns : List Int, ns.length ≤ 63 → m_law ns = some true)
    (F : ∀ (w : World) (mg : Str → Option Value) (fa : Addr) (h : Heap), (K w.params).In h → h.Ns mainGlobals mg → mg d.name = some (.ref fa) →
      ∃ fd : FuncData, (∀ (s : Shared) (u : Value), BindsTo s fd ⟨[u], []⟩ [("_law_script", u)]) ∧ ∀ base : Heap, (K w.params).In base → base.Ns mainGlobals mg → FnOk l.prog w (K w.params) mg base CX0 9 fa fd ["_law_script"] (spV (K w.params) C_law)) :
    PySem.W.WalkO q loose XP YP l.row.toRowW d [] (fun f vs => PySem.call f vs) :=
  L2.walk_of (n := 63) (k := 9) (x := "_law_script") (CX := fun _ => CX0) (sp := fun w => spV (K w.params) C_law) hn (by decide) hdf ⟨rfl, by decide, by decide⟩ hY F (fun w H a ns hl _ hS =>
    ⟨H, fun _ => none, [], [⟨rLst rInt, ns⟩], ⟨rBool, true⟩, [], Own.start _ H, ⟨⟨a, _, rfl, hS, paired_ints ns⟩, trivial⟩, ⟨ns, true, rfl, rfl, hm ns hl, rfl, rfl⟩, fun v _ _ _ _ h => h⟩) fun _ _ _ _ _ z => z
end L3

open PySem PySem.W PyProof.Rows in
set_option maxRecDepth 100000 in
set_option maxHeartbeats 0 in
theorem PySem.Challenge.cw_bestodds_k01_fractions_holds : PySem.Challenge.rw_bestodds_k01_fractions.Holds := by
  w_on; o_law; k_head; (case hw => w_witness2)
  k_fill
  refine L3.walk (l := PySem.Challenge.rw_bestodds_k01_fractions) rfl rfl (fun w h Y => PySem.W.kIn_of Y) L3.law_true ?F
  case F =>
    intro w mg fa h KX G hmg
    refine' L3.all_mk KX G hmg ?a0 ?l0 ?c0 ?k0 ?a1 ?l1 ?c1 ?k1 ?a2 ?l2 ?c2 ?k2 ?a3 ?l3 ?c3 ?k3 ?a4 ?l4 ?c4 ?k4 ?a5 ?l5 ?c5 ?k5 ?a6 ?l6 ?c6 ?k6 ?a7 ?l7 ?c7 ?k7 ?a8 ?l8 ?c8 ?k8 ?a9 ?l9 ?c9 ?k9 ?a10 ?l10 ?c10 ?k10 ?a11 ?l11 ?c11 ?k11 ?a12 ?l12 ?c12 ?k12 ?a13 ?l13 ?c13 ?k13 ?a14 ?l14 ?c14 ?k14 ?a15 ?l15 ?c15 ?k15 ?z_gcd ?z_int ?z_range ?z_len ?z_abs ?z_isinstance ?z_bool ?z_str ?z_tuple ?z_list
    (case a0 => k_is)
    (case l0 => k_is)
    (case c0 => k_is)
    (case k0 => k_is)
    (case a1 => k_is)
    (case l1 => k_is)
    (case c1 => k_is)
    (case k1 => k_is)
    (case a2 => k_is)
    (case l2 => k_is)
    (case c2 => k_is)
    (case k2 => k_is)
    (case a3 => k_is)
    (case l3 => k_is)
    (case c3 => k_is)
    (case k3 => k_is)
    (case a4 => k_is)
    (case l4 => k_is)
    (case c4 => k_is)
    (case k4 => k_is)
    (case a5 => k_is)
    (case l5 => k_is)
    (case c5 => k_is)
    (case k5 => k_is)
    (case a6 => k_is)
    (case l6 => k_is)
    (case c6 => k_is)
    (case k6 => k_is)
    (case a7 => k_is)
    (case l7 => k_is)
    (case c7 => k_is)
    (case k7 => k_is)
    (case a8 => k_is)
    (case l8 => k_is)
    (case c8 => k_is)
    (case k8 => k_is)
    (case a9 => k_is)
    (case l9 => k_is)
    (case c9 => k_is)
    (case k9 => k_is)
    (case a10 => k_is)
    (case l10 => k_is)
    (case c10 => k_is)
    (case k10 => k_is)
    (case a11 => k_is)
    (case l11 => k_is)
    (case c11 => k_is)
    (case k11 => k_is)
    (case a12 => k_is)
    (case l12 => k_is)
    (case c12 => k_is)
    (case k12 => k_is)
    (case a13 => k_is)
    (case l13 => k_is)
    (case c13 => k_is)
    (case k13 => k_is)
    (case a14 => k_is)
    (case l14 => k_is)
    (case c14 => k_is)
    (case k14 => k_is)
    (case a15 => k_is)
    (case l15 => k_is)
    (case c15 => k_is)
    (case k15 => k_is)
    (case z_gcd => k_is)
    (case z_int => k_is)
    (case z_range => k_is)
    (case z_len => k_is)
    (case z_abs => k_is)
    (case z_isinstance => k_is)
    (case z_bool => k_is)
    (case z_str => k_is)
    (case z_tuple => k_is)
    (case z_list => k_is)
#print axioms PySem.Challenge.cw_bestodds_k01_fractions_holds

