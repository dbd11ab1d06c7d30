import PyProof.Rows.All
import Wide.All
import OpenK.AllK
import Wide.FinOn
import KE.KStateDown
import Lean
import HandS.ForMost
import HandS.ForExc
import HandS.WordsExc
import HandS.Defaults
import HandS.Lambda
import KE.DataEq
import KE.DataCmp
import KE.DataAny
import KE.DataMinMax
import KE.SortData
import HandS.TupAny
import HandS.TupMul
import HandS.RaiseMore
import PyProof.ReprReads
import HandS.Wide
import HandS.TupLe
import HandS.Flow
import HandS.Star
import HandS.IsInst
import HandS.Conv
import HandS.Iter
import KE.GoesMore
import KE.GoesZip
import KE.GoesEnum
import KE.GoesDict
import HandS.SetKeys
import HandS.Style
import HandS.ExcInit
import HandS.ExcIs
import HandS.ExcField
import HandS.HeadHook1
import HandS.HeadHook2
import HandS.HeadHook3
import HandS.HeadHook4
import KE.KNestM
import HandS.HeadWalk
import KE.KDictSum
import PyProof.ReprLen
import PyProof.Rows.RegStrFacts
import HandS.Text
import HandS.TryOnly
import HandS.Flt
import HandS.SetFor
import HandS.Strs
import KE.KDictDisplayH
import KE.KIndexWalk
import KE.KDictWalk
import HandS.DictComp
import HandS.Finally
import HandS.Head0
import HandS.Head1
import HandS.Head2
import HandS.HeadEnd
import PySem.Challenge.RW_mountedintime_k62_whole_wear_at_sizes
set_option Elab.async false
set_option linter.all false
set_option maxRecDepth 100000
set_option maxHeartbeats 1000000
/-! VL1: values without a heap, what stands for them, the state of a def's names. -/
namespace VL
set_option autoImplicit false
open PySem PySem.Spec PyProof.Rows L2

abbrev St := L2.St
/-- a value as a tree -/
inductive PV where
  | non | bl (b : Bool) | int (i : Int) | str (s : Str)
  | tup (xs : List PV) | lst (xs : List PV) | dct (ks : List Key) (vs : List PV)
  | clo (n : Nat) | fn (x : Str) | err (c : Str) (v : PV)
  | dtt (ks : List (List Key)) (vs : List PV) | tix (xs : List PV)
deriving Inhabited

/-- what a piece of code comes to -/
inductive Res (α : Type) where
  | ok (a : α) | exc (c : Str) (v : PV) | bad

/-- a name's content: shared (never changed any more), owned by this name alone, or the caller's list that the def may write to -/
inductive LV where
  | sh (p : PV) | ow (p : PV) | po (p : PV)
abbrev PSt := List (Option LV)
abbrev M (α : Type) := PSt → Res (α × PSt)

/-- a list that stays as it is -/
def FzL (K : PySem.W.Frag) (H : Hp) (a : Addr) (xs : List V) : Prop :=
  (∃ o, H a = some (.frz o (.lst xs))) ∨ ∃ (its : Array Value) (n : Nat), K.lookup a = some { cls := .type "list", data := .seq its n } ∧ its.size ≤ sizeLine ∧ Vals xs its.toList
theorem FzL.sql {K : PySem.W.Frag} {H : Hp} {a : Addr} {xs : List V} (h : FzL K H a xs) : SqL K H a xs := by
  rcases h with ⟨o, e⟩ | h
  · exact .inl (.inr ⟨o, e⟩)
  · obtain ⟨its, n, e, z, r⟩ := h
    exact .inr ⟨_, its, n, e, rfl, rfl, rfl, z, r⟩

/-- a closure's object: made by the lambda n of this frame (told by φ) -/
structure CloT where
  clo : Nat → Obj → Addr → Str → Prop
  mg : Str → Option Value

mutual
/-- x stands for the tree p in H -/
def Rep (K : PySem.W.Frag) (C : CloT) (H : Hp) : PV → V → Prop
  | .non, x => x = .non
  | .bl b, x => x = .bl b
  | .int i, x => x = .int i
  | .str s, x => x = .str s
  | .tup ps, x => ∃ a xs, x = .ref a ∧ H a = some (.tup xs) ∧ RepL K C H ps xs
  | .lst ps, x => ∃ a xs, x = .ref a ∧ FzL K H a xs ∧ RepL K C H ps xs
  | .dct ks ps, x => ∃ a xs, x = .ref a ∧ ks.length = ps.length ∧ (∃ o, H a = some (.frz o (.dK (ks.zip xs)))) ∧ RepL K C H ps xs
  | .dtt ks ps, x => ∃ a xs, x = .ref a ∧ ks.length = ps.length ∧ (∃ o, H a = some (.frz o (.dT (ks.zip xs)))) ∧ RepL K C H ps xs
  | .tix ps, x => ∃ a o xs, x = .ref a ∧ (H a = some (.frz o (.tup xs)) ∧ o.dict = none) ∧ RepL K C H ps xs
  | .clo n, x => ∃ a o u c q, x = .ref a ∧ H a = some (.frz o u) ∧ C.clo n o c q ∧ H c = some (LamX.CodeO c q)
  | .fn y, x => ∃ a, x = .ref a ∧ C.mg y = some (.ref a)
  | .err c p, x => ∃ (a d C0 : Addr) (o o' : Obj) (u : HO) (v : V), x = .ref a ∧ C.mg c = some (.ref C0) ∧ H a = some (.frz o u) ∧ o.cls = .ref C0 ∧ o.dict = some d ∧ (∃ vs, o.data = .fields vs) ∧
      H d = some (.frz o' (.xd [("value", v)])) ∧ Rep K C H p v
def RepL (K : PySem.W.Frag) (C : CloT) (H : Hp) : List PV → List V → Prop
  | [], xs => xs = []
  | p :: ps, xs => ∃ x r, xs = x :: r ∧ Rep K C H p x ∧ RepL K C H ps r
end

/-- what stays: tuples and what is frozen -/
structure Ext (H H' : Hp) : Prop where
  tup : ∀ a xs, H a = some (.tup xs) → H' a = some (.tup xs)
  frz : ∀ a o u, H a = some (.frz o u) → H' a = some (.frz o u)
  cod : ∀ a c q, H a = some (LamX.CodeO c q) → H' a = some (LamX.CodeO c q)
theorem Ext.refl (H : Hp) : Ext H H := ⟨fun _ _ h => h, fun _ _ _ h => h, fun _ _ _ h => h⟩
theorem Ext.trans {H H1 H2 : Hp} (a : Ext H H1) (b : Ext H1 H2) : Ext H H2 := ⟨fun _ _ h => b.tup _ _ (a.tup _ _ h), fun _ _ _ h => b.frz _ _ _ (a.frz _ _ _ h), fun _ _ _ h => b.cod _ _ _ (a.cod _ _ _ h)⟩
theorem Ext.of_same {H H' : Hp} (h : ∀ a o, H a = some o → H' a = some o) : Ext H H' := ⟨fun _ _ e => h _ _ e, fun _ _ _ e => h _ _ e, fun _ _ _ e => h _ _ e⟩
/-- what may be written: no tuple, nothing frozen, no code object, no table -/
structure Wr (u : HO) : Prop where
  tup : ∀ xs, u ≠ .tup xs
  frz : ∀ o v, u ≠ .frz o v
  ext : ∀ φ, u ≠ .ext φ
  tbl : ∀ ps, u ≠ .tbl ps
theorem wr_lst {xs : List V} : Wr (.lst xs) := ⟨(fun _ z => nomatch z), (fun _ _ z => nomatch z), (fun _ z => nomatch z), (fun _ z => nomatch z)⟩
theorem wr_dT {xs : List (List Key × V)} : Wr (.dT xs) := ⟨(fun _ z => nomatch z), (fun _ _ z => nomatch z), (fun _ z => nomatch z), (fun _ z => nomatch z)⟩
theorem wr_dK {xs : List (Key × V)} : Wr (.dK xs) := ⟨(fun _ z => nomatch z), (fun _ _ z => nomatch z), (fun _ z => nomatch z), (fun _ z => nomatch z)⟩
theorem Ext.upd {H : Hp} {a : Addr} {o u : HO} (h : H a = some u) (w : Wr u) : Ext H (upd H a o) :=
  ⟨fun b xs e => by rw [upd_ne (fun z => by subst z; rw [h] at e; exact w.tup _ (Option.some.inj e))]; exact e,
   fun b o' v e => by rw [upd_ne (fun z => by subst z; rw [h] at e; exact w.frz _ _ (Option.some.inj e))]; exact e,
   fun b c q e => by rw [upd_ne (fun z => by subst z; rw [h] at e; exact w.ext _ (Option.some.inj e))]; exact e⟩
theorem Ext.new {H : Hp} {a : Addr} {o : HO} (h : H a = none) : Ext H (L2.upd H a o) :=
  ⟨fun b xs e => by rw [upd_ne (ne_of_none e h)]; exact e, fun b o' v e => by rw [upd_ne (ne_of_none e h)]; exact e, fun b c q e => by rw [upd_ne (ne_of_none e h)]; exact e⟩
/-- the tables stay what they are -/
theorem tabs_upd {T : List (Addr × Str)} {H : Hp} {a : Addr} {o u : HO} (t : LamX.Tabs T H) (h : H a = some u) (w : Wr u) : LamX.Tabs T (L2.upd H a o) := fun p hp => by
  obtain ⟨ps, h1, h2, h3⟩ := t p hp
  refine ⟨ps, by rw [upd_ne (fun z => by rw [z, h] at h1; exact w.tbl _ (Option.some.inj h1))]; exact h1, h2, fun pos cv hc => ?_⟩
  obtain ⟨c, e1, e2⟩ := h3 pos cv hc
  exact ⟨c, e1, by rw [upd_ne (fun z => by rw [z, h] at e2; exact w.ext _ (Option.some.inj e2))]; exact e2⟩

section
variable {K : PySem.W.Frag} {C : CloT} {H H' : Hp}
theorem Ext.sqt (x : Ext H H') {a : Addr} {xs : List V} (h : SqT K H a xs) : SqT K H' a xs := by
  rcases h with (h | ⟨o, h⟩) | h
  · exact .inl (.inl (x.tup _ _ h))
  · exact .inl (.inr ⟨o, x.frz _ _ _ h⟩)
  · exact .inr h
theorem Ext.fzl (x : Ext H H') {a : Addr} {xs : List V} (h : FzL K H a xs) : FzL K H' a xs := by
  rcases h with ⟨o, h⟩ | h
  · exact .inl ⟨o, x.frz _ _ _ h⟩
  · exact .inr h
mutual
theorem Rep.ext (x : Ext H H') : ∀ (p : PV) (v : V), Rep K C H p v → Rep K C H' p v
  | .non, _, h => by simpa only [Rep] using h
  | .bl _, _, h => by simpa only [Rep] using h
  | .int _, _, h => by simpa only [Rep] using h
  | .str _, _, h => by simpa only [Rep] using h
  | .tup ps, v, h => by
    simp only [Rep] at h ⊢
    obtain ⟨a, xs, e, s, r⟩ := h
    exact ⟨a, xs, e, x.tup _ _ s, RepL.ext x ps xs r⟩
  | .lst ps, v, h => by
    simp only [Rep] at h ⊢
    obtain ⟨a, xs, e, s, r⟩ := h
    exact ⟨a, xs, e, x.fzl s, RepL.ext x ps xs r⟩
  | .dct ks ps, v, h => by
    simp only [Rep] at h ⊢
    obtain ⟨a, xs, e, l, ⟨o, s⟩, r⟩ := h
    exact ⟨a, xs, e, l, ⟨o, x.frz _ _ _ s⟩, RepL.ext x ps xs r⟩
  | .dtt ks ps, v, h => by
    simp only [Rep] at h ⊢
    obtain ⟨a, xs, e, l, ⟨o, s⟩, r⟩ := h
    exact ⟨a, xs, e, l, ⟨o, x.frz _ _ _ s⟩, RepL.ext x ps xs r⟩
  | .tix ps, v, h => by
    simp only [Rep] at h ⊢
    obtain ⟨a, o, xs, e, ⟨s, d⟩, r⟩ := h
    exact ⟨a, o, xs, e, ⟨x.frz _ _ _ s, d⟩, RepL.ext x ps xs r⟩
  | .clo n, v, h => by
    simp only [Rep] at h ⊢
    obtain ⟨a, o, u, c, q, e, s, r, k⟩ := h
    exact ⟨a, o, u, c, q, e, x.frz _ _ _ s, r, x.cod _ _ _ k⟩
  | .fn _, _, h => by simpa only [Rep] using h
  | .err c p, v, h => by
    simp only [Rep] at h ⊢
    obtain ⟨a, d, C0, o, o', u, w, e, g, s, c1, c2, c3, s2, r⟩ := h
    exact ⟨a, d, C0, o, o', u, w, e, g, x.frz _ _ _ s, c1, c2, c3, x.frz _ _ _ s2, Rep.ext x p w r⟩
theorem RepL.ext (x : Ext H H') : ∀ (ps : List PV) (xs : List V), RepL K C H ps xs → RepL K C H' ps xs
  | [], _, h => by simpa only [RepL] using h
  | p :: ps, _, h => by
    simp only [RepL] at h ⊢
    obtain ⟨y, r, e, h1, h2⟩ := h
    exact ⟨y, r, e, Rep.ext x p y h1, RepL.ext x ps r h2⟩
end
theorem RepL.length : ∀ {ps : List PV} {xs : List V}, RepL K C H ps xs → xs.length = ps.length
  | [], _, h => by simp only [RepL] at h; rw [h]; rfl
  | p :: ps, _, h => by
    simp only [RepL] at h
    obtain ⟨y, r, e, h1, h2⟩ := h
    rw [e, List.length_cons, List.length_cons, RepL.length h2]
theorem RepL.get : ∀ {ps : List PV} {xs : List V}, RepL K C H ps xs → ∀ {i : Nat} {p : PV}, ps[i]? = some p → ∃ x, xs[i]? = some x ∧ Rep K C H p x
  | [], _, _, _, _, h => by simp at h
  | q :: ps, _, h, i, p, e => by
    simp only [RepL] at h
    obtain ⟨y, r, rfl, h1, h2⟩ := h
    cases i with
    | zero => simp at e; subst e; exact ⟨y, rfl, h1⟩
    | succ i => exact RepL.get h2 (by simpa using e)
theorem RepL.get' {ps : List PV} {xs : List V} (h : RepL K C H ps xs) {i : Nat} {x : V} (e : xs[i]? = some x) : ∃ p, ps[i]? = some p ∧ Rep K C H p x := by
  have hi := (List.getElem?_eq_some_iff.mp e).1
  rw [h.length] at hi
  obtain ⟨y, e2, r⟩ := h.get (List.getElem?_eq_getElem hi)
  rw [e] at e2; cases e2
  exact ⟨_, List.getElem?_eq_getElem hi, r⟩
theorem RepL.append : ∀ {ps qs : List PV} {xs ys : List V}, RepL K C H ps xs → RepL K C H qs ys → RepL K C H (ps ++ qs) (xs ++ ys)
  | [], _, _, _, h, h' => by simp only [RepL] at h; subst h; exact h'
  | p :: ps, qs, xs, ys, h, h' => by
    simp only [RepL, List.cons_append] at h ⊢
    obtain ⟨y, r, rfl, h1, h2⟩ := h
    exact ⟨y, r ++ ys, rfl, h1, RepL.append h2 h'⟩
theorem RepL.nil : RepL K C H [] [] := by simp only [RepL]
theorem RepL.cons {p : PV} {ps : List PV} {x : V} {xs : List V} (h : Rep K C H p x) (hs : RepL K C H ps xs) : RepL K C H (p :: ps) (x :: xs) := by
  simp only [RepL]
  exact ⟨x, xs, rfl, h, hs⟩
theorem RepL.head {p : PV} {ps : List PV} {xs : List V} (h : RepL K C H (p :: ps) xs) : ∃ x r, xs = x :: r ∧ Rep K C H p x ∧ RepL K C H ps r := by
  simpa only [RepL] using h
theorem RepL.take : ∀ (n : Nat) {ps : List PV} {xs : List V}, RepL K C H ps xs → RepL K C H (ps.take n) (xs.take n)
  | 0, _, _, _ => by simp only [List.take_zero, RepL]
  | n + 1, [], _, h => by simp only [RepL] at h; subst h; simp only [List.take_nil, RepL]
  | n + 1, p :: ps, _, h => by
    obtain ⟨y, r, rfl, h1, h2⟩ := h.head
    exact RepL.cons h1 (RepL.take n h2)
theorem RepL.drop : ∀ (n : Nat) {ps : List PV} {xs : List V}, RepL K C H ps xs → RepL K C H (ps.drop n) (xs.drop n)
  | 0, _, _, h => h
  | n + 1, [], _, h => by simp only [RepL] at h; subst h; simp only [List.drop_nil, RepL]
  | n + 1, p :: ps, _, h => by
    obtain ⟨y, r, rfl, h1, h2⟩ := h.head
    exact RepL.drop n h2
theorem RepL.set : ∀ (i : Nat) {ps : List PV} {xs : List V} {p : PV} {x : V}, RepL K C H ps xs → Rep K C H p x → RepL K C H (ps.set i p) (xs.set i x)
  | _, [], _, _, _, h, _ => by simp only [RepL] at h; subst h; simp only [List.set_nil, RepL]
  | 0, q :: ps, _, p, x, h, hp => by
    obtain ⟨y, r, rfl, h1, h2⟩ := h.head
    exact RepL.cons hp h2
  | i + 1, q :: ps, _, p, x, h, hp => by
    obtain ⟨y, r, rfl, h1, h2⟩ := h.head
    exact RepL.cons h1 (RepL.set i h2 hp)
end

/-- an owned thing at a -/
def Own (K : PySem.W.Frag) (C : CloT) (H : Hp) : PV → Addr → Prop
  | .lst ps, a => ∃ xs, H a = some (.lst xs) ∧ RepL K C H ps xs
  | .dct ks ps, a => ks.length = ps.length ∧ ∃ xs, H a = some (.dK (ks.zip xs)) ∧ RepL K C H ps xs
  | .dtt ks ps, a => ks.length = ps.length ∧ ∃ xs, H a = some (.dT (ks.zip xs)) ∧ RepL K C H ps xs
  | _, _ => False
theorem Own.ext {K : PySem.W.Frag} {C : CloT} {H H' : Hp} (x : Ext H H') {p : PV} {a : Addr} (h : Own K C H p a) (e : H' a = H a) : Own K C H' p a := by
  cases p with
  | lst ps => obtain ⟨xs, h1, h2⟩ := h; exact ⟨xs, by rw [e]; exact h1, RepL.ext x _ _ h2⟩
  | dct ks ps => obtain ⟨l, xs, h1, h2⟩ := h; exact ⟨l, xs, by rw [e]; exact h1, RepL.ext x _ _ h2⟩
  | dtt ks ps => obtain ⟨l, xs, h1, h2⟩ := h; exact ⟨l, xs, by rw [e]; exact h1, RepL.ext x _ _ h2⟩
  | _ => exact h.elim
theorem Own.get {K : PySem.W.Frag} {C : CloT} {H : Hp} {p : PV} {a : Addr} (h : Own K C H p a) : ∃ u, H a = some u ∧ Wr u ∧ Mut (some u) := by
  cases p with
  | lst ps => obtain ⟨xs, h1, h2⟩ := h; exact ⟨_, h1, wr_lst, trivial⟩
  | dct ks ps => obtain ⟨l, xs, h1, h2⟩ := h; exact ⟨_, h1, wr_dK, trivial⟩
  | dtt ks ps => obtain ⟨l, xs, h1, h2⟩ := h; exact ⟨_, h1, wr_dT, trivial⟩
  | _ => exact h.elim

/-- the frame's base: the abstract heap at the entry; what the def may change of it -/
structure Bs where
  H0 : Hp
  pot : Option Addr
  C : CloT
  T : List (Addr × Str)

/-- a slot's content -/
def RepS (K : PySem.W.Frag) (B : Bs) (H : Hp) : LV → V → Prop
  | .sh p, v => Rep K B.C H p v
  | .ow p, v => ∃ a, v = .ref a ∧ Own K B.C H p a ∧ B.H0 a = none
  | .po p, v => ∃ a, v = .ref a ∧ Own K B.C H p a ∧ B.pot = some a
/-- the trees σp stand in the slots σ -/
structure RelSt (K : PySem.W.Frag) (B : Bs) (σp : PSt) (σ : St) (H : Hp) : Prop where
  len : σp.length = σ.length
  same : ∀ a o, B.H0 a = some o → B.pot ≠ some a → (∀ ps, o ≠ .tbl ps) → H a = some o
  pt : ∀ a, B.pot = some a → (∃ o, H a = some o) ∧ B.H0 a ≠ none
  at_ : ∀ (i : Nat) (l : LV), σp[i]? = some (some l) → ∃ v, σ[i]? = some (some v) ∧ RepS K B H l v
  sep : ∀ (i j : Nat) (p q : PV) (a : Addr), σp[i]? = some (some (.ow p)) → σp[j]? = some (some (.ow q)) → σ[i]? = some (some (.ref a)) → σ[j]? = some (some (.ref a)) → i = j
  sepP : ∀ (i j : Nat) (p q : PV), σp[i]? = some (some (.po p)) → σp[j]? = some (some (.po q)) → i = j
  tb : LamX.Tabs B.T H
  tbs : ∀ a ps, B.H0 a = some (.tbl ps) → ∃ ps', H a = some (.tbl ps')
/-- a is no owned thing of a slot -/
def Lone (σp : PSt) (σ : St) (a : Addr) : Prop := ∀ (i : Nat) (p : PV), σp[i]? = some (some (.ow p)) → σ[i]? ≠ some (some (.ref a))

section
variable {K : PySem.W.Frag} {B : Bs} {σp : PSt} {σ : St} {H H' : Hp}
theorem RelSt.hpot (R : RelSt K B σp σ H) {a : Addr} (h : B.H0 a = none) : B.pot ≠ some a := fun z => (R.pt a z).2 h
theorem set_get {l l' : LV} {i j : Nat} (h : (σp.set i (some l))[j]? = some (some l')) : (i = j ∧ l = l' ∧ i < σp.length) ∨ (i ≠ j ∧ σp[j]? = some (some l')) := by
  by_cases hj : i = j
  · subst hj
    have hlt : i < σp.length := by
      have := (List.getElem?_eq_some_iff.mp h).1
      simpa using this
    rw [List.getElem?_set_self hlt] at h
    cases h
    exact .inl ⟨rfl, rfl, hlt⟩
  · rw [List.getElem?_set_ne hj] at h
    exact .inr ⟨hj, h⟩
/-- the heap grows by what no slot owns -/
theorem RelSt.grow (R : RelSt K B σp σ H) (x : Ext H H') (k : ∀ a o, H a = some o → H' a = some o) : RelSt K B σp σ H' where
  len := R.len
  same := fun a o h1 h2 h3 => k _ _ (R.same a o h1 h2 h3)
  pt := fun a h => let ⟨⟨o, e⟩, n⟩ := R.pt a h; ⟨⟨o, k _ _ e⟩, n⟩
  at_ := fun i l h => by
    obtain ⟨v, e, r⟩ := R.at_ i l h
    refine ⟨v, e, ?_⟩
    cases l with
    | sh p => exact Rep.ext x _ _ r
    | ow p =>
      obtain ⟨a, e1, o, n⟩ := r
      obtain ⟨u, hu, _⟩ := o.get
      exact ⟨a, e1, o.ext x (by rw [k _ _ hu, hu]), n⟩
    | po p =>
      obtain ⟨a, e1, o, n⟩ := r
      obtain ⟨u, hu, _⟩ := o.get
      exact ⟨a, e1, o.ext x (by rw [k _ _ hu, hu]), n⟩
  sep := R.sep
  sepP := R.sepP
  tb := R.tb.ext k
  tbs := fun a ps h => let ⟨ps', e⟩ := R.tbs a ps h; ⟨ps', k _ _ e⟩
theorem RelSt.new (R : RelSt K B σp σ H) {a : Addr} {o : HO} (h : H a = none) : RelSt K B σp σ (upd H a o) :=
  R.grow (Ext.new h) fun b u e => by rw [upd_ne (ne_of_none e h)]; exact e
/-- a store to a slot -/
theorem RelSt.set (R : RelSt K B σp σ H) {i : Nat} {p : PV} {v : V} (hr : Rep K B.C H p v) : RelSt K B (σp.set i (some (.sh p))) (σ.set i (some v)) H where
  len := by simp only [List.length_set]; exact R.len
  same := R.same
  pt := R.pt
  at_ := fun j l h => by
    rcases set_get h with ⟨rfl, rfl, hlt⟩ | ⟨hj, h⟩
    · exact ⟨v, List.getElem?_set_self (by rw [← R.len]; exact hlt), hr⟩
    · obtain ⟨w, e, r⟩ := R.at_ j l h
      exact ⟨w, by rw [List.getElem?_set_ne hj]; exact e, r⟩
  sep := fun j k q q' a h1 h2 h3 h4 => by
    rcases set_get h1 with ⟨_, z, _⟩ | ⟨nj, h1⟩
    · cases z
    rcases set_get h2 with ⟨_, z, _⟩ | ⟨nk, h2⟩
    · cases z
    rw [List.getElem?_set_ne nj] at h3
    rw [List.getElem?_set_ne nk] at h4
    exact R.sep j k q q' a h1 h2 h3 h4
  sepP := fun j k q q' h1 h2 => by
    rcases set_get h1 with ⟨_, z, _⟩ | ⟨nj, h1⟩
    · cases z
    rcases set_get h2 with ⟨_, z, _⟩ | ⟨nk, h2⟩
    · cases z
    exact R.sepP j k q q' h1 h2
  tb := R.tb
  tbs := R.tbs
theorem RelSt.setOw (R : RelSt K B σp σ H) {i : Nat} {p : PV} {a : Addr} (ho : Own K B.C H p a) (hn : B.H0 a = none) (hl : Lone σp σ a) : RelSt K B (σp.set i (some (.ow p))) (σ.set i (some (.ref a))) H where
  len := by simp only [List.length_set]; exact R.len
  same := R.same
  pt := R.pt
  at_ := fun j l h => by
    rcases set_get h with ⟨rfl, rfl, hlt⟩ | ⟨hj, h⟩
    · exact ⟨.ref a, List.getElem?_set_self (by rw [← R.len]; exact hlt), a, rfl, ho, hn⟩
    · obtain ⟨w, e, r⟩ := R.at_ j l h
      exact ⟨w, by rw [List.getElem?_set_ne hj]; exact e, r⟩
  sep := fun j k q q' b h1 h2 h3 h4 => by
    rcases set_get h1 with ⟨nj, e1, hlt⟩ | ⟨nj, h1⟩
    · rcases set_get h2 with ⟨nk, _, _⟩ | ⟨nk, h2⟩
      · exact nj.symm.trans nk
      · subst nj
        rw [List.getElem?_set_self (by rw [← R.len]; exact hlt)] at h3
        cases h3
        rw [List.getElem?_set_ne nk] at h4
        exact absurd h4 (hl k q' h2)
    · rcases set_get h2 with ⟨nk, e2, hlt⟩ | ⟨nk, h2⟩
      · subst nk
        rw [List.getElem?_set_self (by rw [← R.len]; exact hlt)] at h4
        cases h4
        rw [List.getElem?_set_ne nj] at h3
        exact absurd h3 (hl j q h1)
      · rw [List.getElem?_set_ne nj] at h3
        rw [List.getElem?_set_ne nk] at h4
        exact R.sep j k q q' b h1 h2 h3 h4
  sepP := fun j k q q' h1 h2 => by
    rcases set_get h1 with ⟨_, z, _⟩ | ⟨nj, h1⟩
    · cases z
    rcases set_get h2 with ⟨_, z, _⟩ | ⟨nk, h2⟩
    · cases z
    exact R.sepP j k q q' h1 h2
  tb := R.tb
  tbs := R.tbs
theorem set_ow {i k : Nat} {p q q' : PV} (h1 : σp[i]? = some (some (.ow p))) (hk : (σp.set i (some (.ow q)))[k]? = some (some (.ow q'))) : ∃ p', σp[k]? = some (some (.ow p')) := by
  rcases set_get hk with ⟨rfl, _, _⟩ | ⟨_, h⟩
  · exact ⟨p, h1⟩
  · exact ⟨q', h⟩
theorem set_po {i k : Nat} {p q q' : PV} (h1 : σp[i]? = some (some (.po p))) (hk : (σp.set i (some (.po q)))[k]? = some (some (.po q'))) : ∃ p', σp[k]? = some (some (.po p')) := by
  rcases set_get hk with ⟨rfl, _, _⟩ | ⟨_, h⟩
  · exact ⟨p, h1⟩
  · exact ⟨q', h⟩
/-- an owned thing is written -/
theorem RelSt.write (R : RelSt K B σp σ H) {i : Nat} {p q : PV} {a : Addr} {u : HO} (h1 : σp[i]? = some (some (.ow p))) (h2 : σ[i]? = some (some (.ref a))) (ho : Own K B.C (upd H a u) q a) :
    RelSt K B (σp.set i (some (.ow q))) σ (upd H a u) := by
  obtain ⟨v, e, b, eb, own, n⟩ := R.at_ i _ h1
  rw [h2] at e
  have e' := Option.some.inj (Option.some.inj e)
  rw [eb] at e'
  cases e'
  obtain ⟨w, hw, t1, _⟩ := own.get
  have x : Ext H (upd H a u) := Ext.upd hw t1
  refine ⟨by simp only [List.length_set]; exact R.len, fun b o hb hp ht => ?_, fun b hb => ?_, fun j l hj => ?_, fun j k q1 q2 b g1 g2 g3 g4 => ?_, fun j k q1 q2 g1 g2 => ?_, tabs_upd R.tb hw t1, fun b ps e => by
    obtain ⟨ps', e'⟩ := R.tbs b ps e
    exact ⟨ps', by rw [upd_ne (fun z => by rw [z, hw] at e'; exact t1.tbl _ (Option.some.inj e'))]; exact e'⟩⟩
  · have hne : b ≠ a := fun z => by subst z; rw [n] at hb; cases hb
    rw [upd_ne hne]
    exact R.same b o hb hp ht
  · have hne : b ≠ a := fun z => by subst z; exact (R.pt b hb).2 n
    rw [upd_ne hne]
    exact R.pt b hb
  · rcases set_get hj with ⟨rfl, rfl, _⟩ | ⟨hij, hj⟩
    · exact ⟨.ref a, h2, a, rfl, ho, n⟩
    · obtain ⟨v2, e2, r⟩ := R.at_ j l hj
      refine ⟨v2, e2, ?_⟩
      cases l with
      | sh p => exact Rep.ext x _ _ r
      | ow p' =>
        obtain ⟨b, eb, ob, nb⟩ := r
        subst eb
        have hba : b ≠ a := fun z => by
          subst z
          exact hij (R.sep i j p p' b h1 hj h2 e2)
        exact ⟨b, rfl, ob.ext x (upd_ne hba), nb⟩
      | po p' =>
        obtain ⟨b, eb, ob, nb⟩ := r
        subst eb
        have hba : b ≠ a := fun z => by subst z; exact (R.pt b nb).2 n
        exact ⟨b, rfl, ob.ext x (upd_ne hba), nb⟩
  · obtain ⟨p1, k1⟩ := set_ow h1 g1
    obtain ⟨p2, k2⟩ := set_ow h1 g2
    exact R.sep j k p1 p2 b k1 k2 g3 g4
  · rcases set_get g1 with ⟨_, z, _⟩ | ⟨nj, g1⟩
    · cases z
    rcases set_get g2 with ⟨_, z, _⟩ | ⟨nk, g2⟩
    · cases z
    exact R.sepP j k q1 q2 g1 g2
/-- the caller's list is written -/
theorem RelSt.writeP (R : RelSt K B σp σ H) {i : Nat} {p q : PV} {a : Addr} {u : HO} (h1 : σp[i]? = some (some (.po p))) (h2 : σ[i]? = some (some (.ref a))) (ho : Own K B.C (upd H a u) q a) :
    RelSt K B (σp.set i (some (.po q))) σ (upd H a u) := by
  obtain ⟨v, e, b, eb, own, n⟩ := R.at_ i _ h1
  rw [h2] at e
  have e' := Option.some.inj (Option.some.inj e)
  rw [eb] at e'
  cases e'
  obtain ⟨w, hw, t1, _⟩ := own.get
  have x : Ext H (upd H a u) := Ext.upd hw t1
  refine ⟨by simp only [List.length_set]; exact R.len, fun b o hb hp ht => ?_, fun b hb => ?_, fun j l hj => ?_, fun j k q1 q2 b g1 g2 g3 g4 => ?_, fun j k q1 q2 g1 g2 => ?_, tabs_upd R.tb hw t1, fun b ps e => by
    obtain ⟨ps', e'⟩ := R.tbs b ps e
    exact ⟨ps', by rw [upd_ne (fun z => by rw [z, hw] at e'; exact t1.tbl _ (Option.some.inj e'))]; exact e'⟩⟩
  · have hne : b ≠ a := fun z => by subst z; exact hp n
    rw [upd_ne hne]
    exact R.same b o hb hp ht
  · refine ⟨?_, (R.pt b hb).2⟩
    rw [n] at hb
    cases hb
    exact ⟨_, upd_same⟩
  · rcases set_get hj with ⟨rfl, rfl, _⟩ | ⟨hij, hj⟩
    · exact ⟨.ref a, h2, a, rfl, ho, n⟩
    · obtain ⟨v2, e2, r⟩ := R.at_ j l hj
      refine ⟨v2, e2, ?_⟩
      cases l with
      | sh p => exact Rep.ext x _ _ r
      | ow p' =>
        obtain ⟨b, eb, ob, nb⟩ := r
        subst eb
        have hba : b ≠ a := fun z => by subst z; exact (R.pt b n).2 nb
        exact ⟨b, rfl, ob.ext x (upd_ne hba), nb⟩
      | po p' => exact absurd (R.sepP i j p p' h1 hj) hij
  · rcases set_get g1 with ⟨_, z, _⟩ | ⟨nj, g1⟩
    · cases z
    rcases set_get g2 with ⟨_, z, _⟩ | ⟨nk, g2⟩
    · cases z
    exact R.sep j k q1 q2 b g1 g2 g3 g4
  · obtain ⟨p1, k1⟩ := set_po h1 g1
    obtain ⟨p2, k2⟩ := set_po h1 g2
    exact R.sepP j k p1 p2 k1 k2
/-- an owned thing is shared from now on -/
theorem RelSt.freeze (R : RelSt K B σp σ H) {i : Nat} {p : PV} {a : Addr} {u : HO} (h1 : σp[i]? = some (some (.ow p))) (h2 : σ[i]? = some (some (.ref a))) (hr : Rep K B.C (upd H a u) p (.ref a)) :
    RelSt K B (σp.set i (some (.sh p))) σ (upd H a u) := by
  obtain ⟨v, e, b, eb, own, n⟩ := R.at_ i _ h1
  rw [h2] at e
  have e' := Option.some.inj (Option.some.inj e)
  rw [eb] at e'
  cases e'
  obtain ⟨w, hw, t1, _⟩ := own.get
  have x : Ext H (upd H a u) := Ext.upd hw t1
  refine ⟨by simp only [List.length_set]; exact R.len, fun b o hb hp ht => ?_, fun b hb => ?_, fun j l hj => ?_, fun j k q1 q2 b g1 g2 g3 g4 => ?_, fun j k q1 q2 g1 g2 => ?_, tabs_upd R.tb hw t1, fun b ps e => by
    obtain ⟨ps', e'⟩ := R.tbs b ps e
    exact ⟨ps', by rw [upd_ne (fun z => by rw [z, hw] at e'; exact t1.tbl _ (Option.some.inj e'))]; exact e'⟩⟩
  · have hne : b ≠ a := fun z => by subst z; rw [n] at hb; cases hb
    rw [upd_ne hne]
    exact R.same b o hb hp ht
  · have hne : b ≠ a := fun z => by subst z; exact (R.pt b hb).2 n
    rw [upd_ne hne]
    exact R.pt b hb
  · rcases set_get hj with ⟨rfl, rfl, _⟩ | ⟨hij, hj⟩
    · exact ⟨.ref a, h2, hr⟩
    · obtain ⟨v2, e2, r⟩ := R.at_ j l hj
      refine ⟨v2, e2, ?_⟩
      cases l with
      | sh p => exact Rep.ext x _ _ r
      | ow p' =>
        obtain ⟨b, eb, ob, nb⟩ := r
        subst eb
        have hba : b ≠ a := fun z => by
          subst z
          exact hij (R.sep i j p p' b h1 hj h2 e2)
        exact ⟨b, rfl, ob.ext x (upd_ne hba), nb⟩
      | po p' =>
        obtain ⟨b, eb, ob, nb⟩ := r
        subst eb
        have hba : b ≠ a := fun z => by subst z; exact (R.pt b nb).2 n
        exact ⟨b, rfl, ob.ext x (upd_ne hba), nb⟩
  · rcases set_get g1 with ⟨_, z, _⟩ | ⟨nj, g1⟩
    · cases z
    rcases set_get g2 with ⟨_, z, _⟩ | ⟨nk, g2⟩
    · cases z
    exact R.sep j k q1 q2 b g1 g2 g3 g4
  · rcases set_get g1 with ⟨_, z, _⟩ | ⟨nj, g1⟩
    · cases z
    rcases set_get g2 with ⟨_, z, _⟩ | ⟨nk, g2⟩
    · cases z
    exact R.sepP j k q1 q2 g1 g2
end

/-- what is kept: all but tables (which grow) and the list that may be written to -/
structure Kp (pt : Option Addr) (H H' : Hp) : Prop where
  keep : ∀ b o, H b = some o → pt ≠ some b → (∀ ps, o ≠ .tbl ps) → H' b = some o
  tbs : ∀ b ps, H b = some (.tbl ps) → ∃ ps', H' b = some (.tbl ps')
theorem Kp.of {pt : Option Addr} {H H' : Hp} (h : ∀ b o, H b = some o → H' b = some o) : Kp pt H H' := ⟨fun b o e _ _ => h b o e, fun b ps e => ⟨ps, h b _ e⟩⟩
theorem Kp.trans {pt : Option Addr} {H H1 H2 : Hp} (a : Kp pt H H1) (b : Kp pt H1 H2) : Kp pt H H2 := ⟨fun c o e n t => b.keep c o (a.keep c o e n t) n t, fun c ps e => by
  obtain ⟨ps', e'⟩ := a.tbs c ps e
  exact b.tbs c ps' e'⟩
theorem RelSt.kp {K : PySem.W.Frag} {B : Bs} {s : PSt} {σ : St} {H : Hp} (R : RelSt K B s σ H) : Kp B.pot B.H0 H := ⟨R.same, R.tbs⟩
/-- a tracked list or dict is known as it is from now on -/
theorem freeze {X : Cx} {pins : List (Addr × Obj)} {σ : St} {H : Hp} {s : Shared} {a : Addr} {u : HO} (I : Inv X pins σ H s) (h : H a = some u) (h1 : ∀ xs, u ≠ .tup xs) (h2 : ∀ o v, u ≠ .frz o v) (h3 : ∀ ps, u ≠ .tbl ps) (h4 : ∀ x, u ≠ .own x) :
    ∃ o, s.heap.get? a = some o ∧ Inv X pins σ (upd H a (.frz o u)) s := by
  have ok := I.hok a u h
  have hlt := ok.lt
  have hx : ∃ o, s.heap.get? a = some o := by
    cases u with
    | lst xs => obtain ⟨_, _, _, _, e⟩ := ok; exact ⟨_, e⟩
    | tup xs => exact absurd rfl (h1 xs)
    | dK kvs => obtain ⟨_, _, _, _, o, _, _, e, _⟩ := ok; exact ⟨_, e⟩
    | dT kvs => obtain ⟨_, _, _, _, o, _, _, e, _⟩ := ok; exact ⟨_, e⟩
    | set S n => obtain ⟨o, _, _, _, e, _⟩ := ok; exact ⟨_, e⟩
    | ins C dx fs => obtain ⟨_, _, _, e, _⟩ := ok; exact ⟨_, e⟩
    | own y => obtain ⟨_, e⟩ := ok; exact ⟨_, e⟩
    | xd fs => obtain ⟨_, ⟨_, _, _, e, _⟩, _⟩ := ok; exact ⟨_, e⟩
    | rng lo hi => obtain ⟨_, _, _, e⟩ := ok; exact ⟨_, e⟩
    | frz ob u => exact absurd rfl (h2 ob u)
    | tbl ps => exact absurd rfl (h3 ps)
    | met f y => exact ⟨_, (show s.heap.get? a = some _ from ok)⟩
    | ext φ => obtain ⟨_, ⟨o, e⟩, _⟩ := ok; exact ⟨o, e⟩
  obtain ⟨o, ho⟩ := hx
  refine ⟨o, ho, ?_⟩
  have ne : ∀ b w, H b = some w → w ≠ u → b ≠ a := fun b w e n z => by subst z; rw [h] at e; exact n (Option.some.inj e).symm
  have nn : ∀ b, H b = none → b ≠ a := fun b e z => by subst z; rw [h] at e; cases e
  have U : Un X.fs [] H (upd H a (.frz o u)) s.heap s.heap := {
    keep := fun b o q _ _ _ => q
    slot := fun b o q _ _ _ => ⟨o.slots, q⟩
    free := fun b o q n _ => by rw [upd_ne (nn b n)]; exact n
    there := fun b o q _ => ⟨o, q⟩
    tups := fun b xs q => by rw [upd_ne (ne b _ q (fun z => h1 xs z.symm))]; exact q
    frzs := fun b o v q => by rw [upd_ne (ne b _ q (fun z => h2 o v z.symm))]; exact q
    tbls := fun b ps q => ⟨#[], by rw [upd_ne (ne b _ q (fun z => h3 ps z.symm)), q]; simp⟩ }
  refine I.un (h' := s.heap) (t' := s.toks) U fun b w q => ?_
  by_cases hb : b = a
  · subst hb
    rw [upd_same] at q
    cases q
    refine ⟨ho, ok.stay (fun c v _ z => z) (fun c z => ?_) fun c xs z => ?_⟩
    · rw [upd_ne (ne c _ z (fun y => h4 _ y.symm))]; exact z
    · rw [upd_ne (ne c _ z (fun y => h1 xs y.symm))]; exact z
  · rw [upd_ne hb] at q
    refine (I.hok b w q).stay (fun c v _ z => z) (fun c z => ?_) fun c xs z => ?_
    · rw [upd_ne (ne c _ z (fun y => h4 _ y.symm))]; exact z
    · rw [upd_ne (ne c _ z (fun y => h1 xs y.symm))]; exact z
end VL
/-! VL2: readings by trees; the rules of expressions. -/
namespace VL
set_option autoImplicit false
open PySem PySem.Spec PyProof.Rows L2

/-! ### trees as data -/
mutual
def PV.isData : PV → Bool
  | .non | .bl _ | .int _ | .str _ => true
  | .tup xs | .lst xs => isDataL xs
  | _ => false
def isDataL : List PV → Bool
  | [] => true
  | x :: xs => x.isData && isDataL xs
end
mutual
def PV.toD : PV → PyData
  | .non => .none
  | .bl b => .bool b
  | .int i => .int i
  | .str x => .str x
  | .tup xs => .tuple (toDL xs)
  | .lst xs => .list (toDL xs)
  | .dct _ _ | .clo _ | .fn _ | .err _ _ | .dtt _ _ | .tix _ => .none
def toDL : List PV → List PyData
  | [] => []
  | x :: xs => x.toD :: toDL xs
end
theorem toDL_eq (xs : List PV) : toDL xs = xs.map PV.toD := by
  induction xs with
  | nil => simp only [toDL, List.map_nil]
  | cons x xs ih => simp only [toDL, List.map_cons, ih]
theorem isDataL_eq (xs : List PV) : isDataL xs = xs.all PV.isData := by
  induction xs with
  | nil => simp only [isDataL, List.all_nil]
  | cons x xs ih => simp only [isDataL, List.all_cons, ih]
mutual
theorem PV.toD_plain : ∀ p : PV, p.isData = true → p.toD.plain = true
  | .non, _ | .bl _, _ | .int _, _ | .str _, _ => by simp only [PV.toD, PyData.plain]
  | .tup xs, h => by simp only [PV.isData] at h; simp only [PV.toD, PyData.plain]; exact toDL_plain xs h
  | .lst xs, h => by simp only [PV.isData] at h; simp only [PV.toD, PyData.plain]; exact toDL_plain xs h
  | .dct _ _, h | .clo _, h | .fn _, h | .err _ _, h | .dtt _ _, h | .tix _, h => by simp only [PV.isData] at h; cases h
theorem toDL_plain : ∀ xs : List PV, isDataL xs = true → PyData.plainAll (toDL xs) = true
  | [], _ => by simp only [toDL, PyData.plainAll]
  | x :: xs, h => by
    simp only [isDataL, Bool.and_eq_true] at h
    simp only [toDL, PyData.plainAll, x.toD_plain h.1, toDL_plain xs h.2, Bool.and_self]
end
mutual
theorem PV.toD_inj : ∀ p q : PV, p.isData = true → q.isData = true → p.toD = q.toD → p = q
  | .non, q, _, hq, e => by cases q <;> simp_all only [PV.toD, PV.isData, reduceCtorEq, PyData.bool.injEq, PyData.int.injEq, PyData.str.injEq]
  | .bl _, q, _, hq, e => by cases q <;> simp_all only [PV.toD, PV.isData, reduceCtorEq, PyData.bool.injEq, PyData.int.injEq, PyData.str.injEq]
  | .int _, q, _, hq, e => by cases q <;> simp_all only [PV.toD, PV.isData, reduceCtorEq, PyData.bool.injEq, PyData.int.injEq, PyData.str.injEq]
  | .str _, q, _, hq, e => by cases q <;> simp_all only [PV.toD, PV.isData, reduceCtorEq, PyData.bool.injEq, PyData.int.injEq, PyData.str.injEq]
  | .tup xs, q, hp, hq, e => by
    cases q with
    | tup ys =>
      simp only [PV.toD, PyData.tuple.injEq] at e
      simp only [PV.isData] at hp hq
      rw [toDL_inj xs ys hp hq e]
    | _ => simp_all only [PV.toD, PV.isData, reduceCtorEq]
  | .lst xs, q, hp, hq, e => by
    cases q with
    | lst ys =>
      simp only [PV.toD, PyData.list.injEq] at e
      simp only [PV.isData] at hp hq
      rw [toDL_inj xs ys hp hq e]
    | _ => simp_all only [PV.toD, PV.isData, reduceCtorEq]
  | .dct _ _, _, h, _, _ | .clo _, _, h, _, _ | .fn _, _, h, _, _ | .err _ _, _, h, _, _ | .dtt _ _, _, h, _, _ | .tix _, _, h, _, _ => by simp only [PV.isData] at h; cases h
theorem toDL_inj : ∀ xs ys : List PV, isDataL xs = true → isDataL ys = true → toDL xs = toDL ys → xs = ys
  | [], [], _, _, _ => rfl
  | [], _ :: _, _, _, e => by simp only [toDL, reduceCtorEq] at e
  | _ :: _, [], _, _, e => by simp only [toDL, reduceCtorEq] at e
  | x :: xs, y :: ys, h, h', e => by
    simp only [isDataL, Bool.and_eq_true] at h h'
    simp only [toDL, List.cons.injEq] at e
    rw [x.toD_inj y h.1 h'.1 e.1, toDL_inj xs ys h.2 h'.2 e.2]
end
section
variable {X : Cx} {pins : List (Addr × Obj)} {σ : St} {H : Hp} {s : Shared} {C : CloT}
mutual
theorem Rep.reads (I : Inv X pins σ H s) : ∀ (p : PV) (x : V) (u : Value), Rep X.K C H p x → RelV x u → p.isData = true → ∃ as, Reads s.heap u p.toD as
  | .non, x, u, r, e, _ => by simp only [Rep] at r; subst r; cases e; exact ⟨_, by simp only [PV.toD]; exact .none⟩
  | .bl b, x, u, r, e, _ => by simp only [Rep] at r; subst r; cases e; exact ⟨_, by simp only [PV.toD]; exact .bool b⟩
  | .int i, x, u, r, e, _ => by simp only [Rep] at r; subst r; obtain ⟨t, rfl⟩ := e; exact ⟨_, by simp only [PV.toD]; exact .int i t⟩
  | .str z, x, u, r, e, _ => by simp only [Rep] at r; subst r; obtain ⟨t, rfl⟩ := e; exact ⟨_, by simp only [PV.toD]; exact .str z t⟩
  | .tup ps, x, u, r, e, h => by
    simp only [Rep] at r
    simp only [PV.isData] at h
    obtain ⟨a, xs, rfl, hS, hr⟩ := r
    cases e
    obtain ⟨its, rv, ⟨o, ho, hc, n, hd⟩, hz⟩ := I.tuple (SqT.of hS)
    obtain ⟨as, ra⟩ := RepL.reads I ps xs its hr rv h
    exact ⟨_, by simp only [PV.toD]; exact .tuple ho hc hd ra⟩
  | .lst ps, x, u, r, e, h => by
    simp only [Rep] at r
    simp only [PV.isData] at h
    obtain ⟨a, xs, rfl, hS, hr⟩ := r
    cases e
    obtain ⟨its, rv, ⟨o, n, ho, hc, hx, hd⟩, hz⟩ := I.list hS.sql
    obtain ⟨as, ra⟩ := RepL.reads I ps xs its hr rv h
    exact ⟨_, by simp only [PV.toD]; exact .list ho hc hd ra⟩
  | .dct _ _, _, _, _, _, h | .clo _, _, _, _, _, h | .fn _, _, _, _, _, h | .err _ _, _, _, _, _, h | .dtt _ _, _, _, _, _, h | .tix _, _, _, _, _, h => by simp only [PV.isData] at h; cases h
theorem RepL.reads (I : Inv X pins σ H s) : ∀ (ps : List PV) (xs : List V) (us : List Value), RepL X.K C H ps xs → Vals xs us → isDataL ps = true → ∃ as, ReadsAll s.heap us (toDL ps) as
  | [], xs, us, r, e, _ => by
    simp only [RepL] at r
    subst r
    cases e
    exact ⟨_, by simp only [toDL]; exact .nil⟩
  | p :: ps, xs, us, r, e, h => by
    obtain ⟨y, ys, rfl, r1, r2⟩ := r.head
    simp only [isDataL, Bool.and_eq_true] at h
    cases e with
    | cons e1 e2 =>
      obtain ⟨as, a1⟩ := Rep.reads I p y _ r1 e1 h.1
      obtain ⟨bs, a2⟩ := RepL.reads I ps ys _ r2 e2 h.2
      exact ⟨_, by simp only [toDL]; exact .cons a1 a2⟩
end
end

/-! ### readings -/
def Res.bind {α β : Type} : Res α → (α → Res β) → Res β
  | .ok a, f => f a
  | .exc c p, _ => .exc c p
  | .bad, _ => .bad
@[simp] theorem Res.bind_ok {α β : Type} (a : α) (f : α → Res β) : (Res.ok a).bind f = f a := rfl
@[simp] theorem Res.bind_exc {α β : Type} (c : Str) (p : PV) (f : α → Res β) : (Res.exc c p : Res α).bind f = .exc c p := rfl
@[simp] theorem Res.bind_bad {α β : Type} (f : α → Res β) : (Res.bad : Res α).bind f = .bad := rfl

/-- what is to be shown of an exception -/
def ExcR (X : Cx) (W : WX) (B : Bs) (c : Str) (p : PV) : Prop :=
  ∀ (cls : Value) (dx : Addr) (v : V) (σ' : St) (H' : Hp), X.mg c = some cls → H' dx = some (.xd [("value", v)]) → Rep X.K B.C H' p v → B.H0 dx = none → Kp B.pot B.H0 H' → LamX.Tabs B.T H' → W cls (some dx) σ' H'
/-- a result's reading; rep: how what comes out is told -/
def tRa (X : Cx) (W : WX) (B : Bs) {α β : Type} (rep : PSt → St → Hp → α → β → Prop) (r : Res (α × PSt)) (σ : St) (H : Hp) (Q : β → Hp → Prop) : Prop :=
  match r with
  | .ok (a, s) => ∀ b H', RelSt X.K B s σ H' → Ext H H' → rep s σ H' a b → Q b H'
  | .exc c p => ExcR X W B c p
  | .bad => False
def tR (X : Cx) (W : WX) (B : Bs) {α β : Type} (rep : PSt → St → Hp → α → β → Prop) (d : M α) : St → Hp → (β → Hp → Prop) → Prop :=
  fun σ H Q => ∃ s, RelSt X.K B s σ H ∧ tRa X W B rep (d s) σ H Q
abbrev rV (X : Cx) (B : Bs) : PSt → St → Hp → PV → V → Prop := fun _ _ H p v => Rep X.K B.C H p v
abbrev rB : PSt → St → Hp → Bool → Bool → Prop := fun _ _ _ a b => a = b
abbrev rA (X : Cx) (B : Bs) : PSt → St → Hp → List PV → List V → Prop := fun _ _ H ps vs => RepL X.K B.C H ps vs
/-- a new list or dict that nobody else has -/
abbrev rF (X : Cx) (B : Bs) : PSt → St → Hp → PV → V → Prop := fun s σ H p v => ∃ a, v = .ref a ∧ Own X.K B.C H p a ∧ B.H0 a = none ∧ Lone s σ a
def PX (X : Cx) (W : WX) (B : Bs) (e : Expr) (d : M PV) : Prop := PE X e (tR X W B (rV X B) d)
def PF (X : Cx) (W : WX) (B : Bs) (e : Expr) (d : M PV) : Prop := PE X e (tR X W B (rF X B) d)
def PXT (X : Cx) (W : WX) (B : Bs) (e : Expr) (d : M Bool) : Prop := PT X e (tR X W B rB d)
def PXA (X : Cx) (W : WX) (B : Bs) (es : List Expr) (d : M (List PV)) : Prop := PA X es (tR X W B (rA X B) d)

section
variable {X : Cx} {W : WX} {B : Bs} {α β γ δ : Type} {rep : PSt → St → Hp → α → β → Prop} {rep' : PSt → St → Hp → γ → δ → Prop}
theorem tRa.mono {r : Res (α × PSt)} {σ : St} {H H1 : Hp} {Q Q' : β → Hp → Prop} (h : tRa X W B rep r σ H Q) (x : Ext H H1) (k : ∀ b H', Ext H1 H' → Q b H' → Q' b H') : tRa X W B rep r σ H1 Q' := by
  cases r with
  | ok a => obtain ⟨a, s⟩ := a; exact fun b H' R x' r' => k b H' x' (h b H' R (x.trans x') r')
  | exc c p => exact h
  | bad => exact h
/-- one piece behind another -/
theorem tRa.bind {r : Res (α × PSt)} {f : α × PSt → Res (γ × PSt)} {σ : St} {H : Hp} {Q : δ → Hp → Prop} {R : β → Hp → Prop} (h : tRa X W B rep' (r.bind f) σ H Q)
    (k : ∀ a s b H1, RelSt X.K B s σ H1 → Ext H H1 → rep s σ H1 a b → tRa X W B rep' (f (a, s)) σ H1 Q → R b H1) : tRa X W B rep r σ H R := by
  cases r with
  | ok a =>
    obtain ⟨a, s⟩ := a
    exact fun b H1 R1 x r1 => k a s b H1 R1 x r1 (tRa.mono h x fun _ _ _ q => q)
  | exc c p => exact h
  | bad => exact h
theorem PE.weak {e : Expr} {t t' : TE} (h : PE X e t) (k : ∀ σ H Q, t' σ H Q → t σ H Q) : PE X e t' := ⟨fun pins s σ H Q I q => h.run pins s σ H Q I (k σ H Q q)⟩
theorem PT.weak {e : Expr} {t t' : TT} (h : PT X e t) (k : ∀ σ H Q, t' σ H Q → t σ H Q) : PT X e t' := ⟨fun pins s σ H Q I q => h.run pins s σ H Q I (k σ H Q q)⟩
theorem PA.weak {es : List Expr} {t t' : TA} (h : PA X es t) (k : ∀ σ H Q, t' σ H Q → t σ H Q) : PA X es t' := ⟨fun pos pins s σ H Q I q => h.run pos pins s σ H Q I (k σ H Q q)⟩
theorem PS.weak {st : Stmt} {t t' : TS} (h : PS X st t) (k : ∀ D σ H, t' D σ H → t D σ H) : PS X st t' := ⟨fun pins s σ H D I q => h.run pins s σ H D I (k D σ H q)⟩
theorem PSs.weak {st : List Stmt} {t t' : TS} (h : PSs X st t) (k : ∀ D σ H, t' D σ H → t D σ H) : PSs X st t' := ⟨fun pins s σ H D I q => h.run pins s σ H D I (k D σ H q)⟩
end

/-! ### values, names -/
def dC (p : PV) : M PV := fun s => .ok (p, s)
/-- a name: shared from then on if it was owned -/
def dVar (i : Nat) : M PV := fun s => match s[i]? with
  | some (some (.sh p)) => .ok (p, s)
  | some (some (.ow p)) => .ok (p, s.set i (some (.sh p)))
  | _ => .bad
section
variable {X : Cx} {W : WX} {B : Bs} {pos : Pos}
theorem px_const {e : Expr} {v : V} {p : PV} (h : PE X e (tC v)) (hr : ∀ H, Rep X.K B.C H p v) : PX X W B e (dC p) :=
  PE.weak h fun σ H Q ⟨s, R, q⟩ => q v H R (Ext.refl H) (hr H)
theorem px_int {i : Int} {j : Nat} : PX X W B (.Constant (.int i) j pos) (dC (.int i)) := px_const pe_int fun _ => by simp only [Rep]
theorem px_bl {b : Bool} {j : Nat} : PX X W B (.Constant (.bool b) j pos) (dC (.bl b)) := px_const pe_bl fun _ => by simp only [Rep]
theorem px_non {j : Nat} : PX X W B (.Constant .none j pos) (dC .non) := px_const pe_non fun _ => by simp only [Rep]
theorem px_str {x : Str} {j : Nat} : PX X W B (.Constant (.str x) j pos) (dC (.str x)) := px_const pe_str fun _ => by simp only [Rep]
/-- a module's number, text -/
theorem px_gint {x : Str} {i : Int} (hg : Gl X x) (hm : ∃ t, X.mg x = some (.int i t)) (hd : (x == ("__debug__" : Str)) = false := by decide) : PX X W B (.Name x pos) (dC (.int i)) := by
  obtain ⟨t, hm⟩ := hm
  exact px_const (pe_glob (v := .int i) hg hm ⟨t, rfl⟩ hd) fun _ => by simp only [Rep]
theorem px_gstr {x z : Str} (hg : Gl X x) (hm : ∃ t, X.mg x = some (.str z t)) (hd : (x == ("__debug__" : Str)) = false := by decide) : PX X W B (.Name x pos) (dC (.str z)) := by
  obtain ⟨t, hm⟩ := hm
  exact px_const (pe_glob (v := .str z) hg hm ⟨t, rfl⟩ hd) fun _ => by simp only [Rep]
theorem Own.rep_frz {K : PySem.W.Frag} {C : CloT} {H : Hp} {p : PV} {a : Addr} (h : Own K C H p a) : ∃ u, H a = some u ∧ Wr u ∧ (∀ x, u ≠ .own x) ∧
    ∀ o, Rep K C (upd H a (.frz o u)) p (.ref a) := by
  cases p with
  | lst ps =>
    obtain ⟨xs, h1, h2⟩ := h
    refine ⟨_, h1, wr_lst, (fun _ z => nomatch z), fun o => ?_⟩
    simp only [Rep]
    exact ⟨a, xs, rfl, .inl ⟨o, upd_same⟩, RepL.ext (Ext.upd h1 wr_lst) _ _ h2⟩
  | dct ks ps =>
    obtain ⟨l, xs, h1, h2⟩ := h
    refine ⟨_, h1, wr_dK, (fun _ z => nomatch z), fun o => ?_⟩
    simp only [Rep]
    exact ⟨a, xs, rfl, l, ⟨o, upd_same⟩, RepL.ext (Ext.upd h1 wr_dK) _ _ h2⟩
  | dtt ks ps =>
    obtain ⟨l, xs, h1, h2⟩ := h
    refine ⟨_, h1, wr_dT, (fun _ z => nomatch z), fun o => ?_⟩
    simp only [Rep]
    exact ⟨a, xs, rfl, l, ⟨o, upd_same⟩, RepL.ext (Ext.upd h1 wr_dT) _ _ h2⟩
  | _ => exact h.elim
theorem px_var {i : Nat} {x : Str} (hN : X.N[i]? = some x) (hv : Vis X.env.scope x) (hd : (x == ("__debug__" : Str)) = false := by decide) (hcd : (x == ("__classdict__" : Str)) = false := by decide) : PX X W B (.Name x pos) (dVar i) := by
  refine ⟨fun pins s σ H Q I h => ?_⟩
  obtain ⟨sp, R, q⟩ := h
  unfold dVar at q
  cases e : sp[i]? with
  | none => rw [e] at q; exact q.elim
  | some l =>
    cases l with
    | none => rw [e] at q; exact q.elim
    | some l =>
      cases l with
      | sh p =>
        rw [e] at q
        obtain ⟨v, ev, r⟩ := R.at_ i _ e
        exact (pe_var (pos := pos) hN hv hd hcd).run pins s σ H Q I ⟨v, ev, q v H R (Ext.refl H) r⟩
      | ow p =>
        rw [e] at q
        obtain ⟨v, ev, a, rfl, own, n⟩ := R.at_ i _ e
        obtain ⟨u, hu, t1, t4, hr⟩ := own.rep_frz
        obtain ⟨o, ho, I2⟩ := freeze I hu t1.tup t1.frz t1.tbl t4
        exact (pe_var (pos := pos) hN hv hd hcd).run pins s σ _ Q I2 ⟨_, ev, q _ _ (R.freeze e ev (hr o)) (Ext.upd hu t1) (hr o)⟩
      | po p => rw [e] at q; exact q.elim
end

/-! ### operators -/
/-- the heap grows -/
def Grow (H H' : Hp) : Prop := ∀ a o, H a = some o → H' a = some o
theorem Grow.refl (H : Hp) : Grow H H := fun _ _ h => h
theorem Grow.new {H : Hp} {a : Addr} {o : HO} (h : H a = none) : Grow H (upd H a o) := fun b u e => by rw [upd_ne (ne_of_none e h)]; exact e
theorem Grow.ext {H H' : Hp} (g : Grow H H') : Ext H H' := Ext.of_same g
/-- a two-place operation on trees -/
def OpV (X : Cx) (C : CloT) (f : Value → Value → Sem Value) (g : PV → PV → Res PV) : Prop :=
  ∀ (p q r : PV), g p q = .ok r → OpR X f (fun x y H Q => Rep X.K C H p x ∧ Rep X.K C H q y ∧ ∀ v H', Grow H H' → Rep X.K C H' r v → Q v H')
def dBin (g : PV → PV → Res PV) (a b : M PV) : M PV := fun s => (a s).bind fun (p, s) => (b s).bind fun (q, s) => (g p q).bind fun r => .ok (r, s)
section
variable {X : Cx} {W : WX} {B : Bs} {pos : Pos} {a b c : Expr} {da db dc : M PV} {g g' : PV → PV → Res PV}
theorem noexc {r : Res PV} (h : ∀ c p, r ≠ .exc c p) {α : Type} {f : PV → Res α} {P : Res α → Prop} (hb : P .bad → False) (q : P (r.bind f)) : ∃ p, r = .ok p ∧ P (f p) := by
  cases r with
  | ok p => exact ⟨p, rfl, q⟩
  | exc c p => exact absurd rfl (h c p)
  | bad => exact (hb q).elim
def NoExc (g : PV → PV → Res PV) : Prop := ∀ p q c v, g p q ≠ .exc c v
theorem bin_read {f : Value → Value → Sem Value} (ne : NoExc g) (σ : St) (H : Hp) (Q : VK) (h : tR X W B (rV X B) (dBin g da db) σ H Q) :
    tR X W B (rV X B) da σ H fun x H1 => tR X W B (rV X B) db σ H1 fun y H2 => ∃ p q r, g p q = .ok r ∧ Rep X.K B.C H2 p x ∧ Rep X.K B.C H2 q y ∧ ∀ v H', Grow H2 H' → Rep X.K B.C H' r v → Q v H' := by
  obtain ⟨s, R, h⟩ := h
  refine ⟨s, R, tRa.bind (rep' := rV X B) h fun p s1 x H1 R1 x1 r1 h => ⟨s1, R1, tRa.bind (rep' := rV X B) h fun q s2 y H2 R2 x2 r2 h => ?_⟩⟩
  obtain ⟨r, er, h⟩ := noexc (P := fun r => tRa X W B (rV X B) r σ H2 Q) (ne p q) (fun z => z) h
  exact ⟨p, q, r, er, Rep.ext x2 _ _ r1, r2, fun v H' gr rv => h v H' (R2.grow gr.ext gr) gr.ext rv⟩
theorem px_bin {op : Operator} (ho : OpV X B.C (binaryOp op) g) (ne : NoExc g) (ha : PX X W B a da) (hb : PX X W B b db) : PX X W B (.BinOp a op b pos) (dBin g da db) := by
  refine ⟨fun pins s σ H Q I h => ?_⟩
  have h' := bin_read (f := binaryOp op) ne σ H Q h
  refine wpAny_BinOp (binT ha hb I h' fun v u s2 x y H2 I2 rx ry ⟨p, q, r, er, r1, r2, k⟩ => ?_)
  exact ho p q r er pins s2 σ H2 x y v u Q I2 rx ry ⟨r1, r2, k⟩
theorem px_cmp {op : CmpOp} (ho : OpV X B.C (compareOp op) g) (ne : NoExc g) (ha : PX X W B a da) (hb : PX X W B b db) (hm : behindInMarks op b = false) : PX X W B (.Compare a [op] [b] pos) (dBin g da db) := by
  refine ⟨fun pins s σ H Q I h => ?_⟩
  have h' := bin_read (f := compareOp op) ne σ H Q h
  refine wpAny_Compare1 (binT ha hb I h' fun v u s2 x y H2 I2 rx ry ⟨p, q, r, er, r1, r2, k⟩ => ?_) hm
  exact ho p q r er pins s2 σ H2 x y v u Q I2 rx ry ⟨r1, r2, k⟩
end
end VL
/-! VL3: the operators on trees. -/
namespace VL
set_option autoImplicit false
open PySem PySem.Spec PyProof.Rows L2

/-- a size that a list, a tuple, a text may have -/
abbrev fitsL (n : Nat) : Bool := Nat.ble n 16777216
theorem fitsL_le {n : Nat} (h : fitsL n = true) : n ≤ sizeLine := by rw [sizeLine_eq]; exact Nat.le_of_ble_eq_true h
def okD (p : PV) : Bool := p.isData && decide (p.toD.depth ≤ 60)
def mulOk (i j : Int) : Bool := (decide (-(2 ^ 64) < i) && decide (i < 2 ^ 64)) || (decide (-(2 ^ 64) < j) && decide (j < 2 ^ 64))
theorem mulOk_c {i j : Int} (h : mulOk i j = true) : CMul i j := by
  unfold mulOk at h
  simp only [Bool.or_eq_true, Bool.and_eq_true, decide_eq_true_eq] at h
  exact h

def addV : PV → PV → Res PV
  | .int i, .int j => .ok (.int (i + j))
  | .tup xs, .tup ys => if fitsL (xs.length + ys.length) then .ok (.tup (xs ++ ys)) else .bad
  | .lst xs, .lst ys => if fitsL (xs.length + ys.length) then .ok (.lst (xs ++ ys)) else .bad
  | .str x, .str y => if fitsL (x.length + y.length) then .ok (.str (x ++ y)) else .bad
  | _, _ => .bad
def subV : PV → PV → Res PV
  | .int i, .int j => .ok (.int (i - j))
  | _, _ => .bad
def times : Int → Bool
  | .ofNat n => Nat.ble n 1000
  | .negSucc n => Nat.ble n 1000
theorem times_le {j : Int} (h : times j = true) : -1001 ≤ j ∧ j ≤ 1000 := by
  cases j with
  | ofNat n => have := Nat.le_of_ble_eq_true h; exact ⟨by have : (0 : Int) ≤ Int.ofNat n := Int.natCast_nonneg n; omega, by show ((n : Nat) : Int) ≤ 1000; omega⟩
  | negSucc n => have := Nat.le_of_ble_eq_true h; omega
def mulV : PV → PV → Res PV
  | .int i, .int j => if mulOk i j then .ok (.int (i * j)) else .bad
  | .tup xs, .int j => if times j && Nat.ble xs.length 1000 then .ok (.tup (List.replicate j.toNat xs).flatten) else .bad
  | _, _ => .bad
def fdivV : PV → PV → Res PV
  | .int i, .int j => if decide (0 < j) && decide (j < 1073741824) then .ok (.int (i / j)) else .bad
  | _, _ => .bad
def modV : PV → PV → Res PV
  | .int i, .int j => if decide (0 < j) then .ok (.int (i % j)) else .bad
  | _, _ => .bad
def powV : PV → PV → Res PV
  | .int i, .int j => if decide (0 ≤ j) && decide ((Builtin.Int.intBits i : Int) * j ≤ 2 ^ 27) then .ok (.int (i ^ j.toNat)) else .bad
  | _, _ => .bad
def eqB (p q : PV) : Bool := PyData.eqv p.toD q.toD
def eqV' (p q : PV) : Res PV := if okD p && okD q then .ok (.bl (eqB p q)) else .bad
def neV (p q : PV) : Res PV := if okD p && okD q then .ok (.bl (!eqB p q)) else .bad
def isNon : PV → Bool
  | .non => true
  | _ => false
def ltB (p q : PV) : Bool := PySem.W.dataLt p.toD q.toD
/-- of one kind, place by place -/
def alikeV (p q : PV) : Bool := (okD p && okD q) && (PySem.W.alike p.toD q.toD && !isNon p)
def ltV : PV → PV → Res PV
  | .int i, .int j => .ok (.bl (decide (i < j)))
  | p, q => if alikeV p q then .ok (.bl (ltB p q)) else .bad
def gtV : PV → PV → Res PV
  | .int i, .int j => .ok (.bl (decide (j < i)))
  | p, q => if alikeV p q then .ok (.bl (ltB q p)) else .bad
def leV : PV → PV → Res PV
  | .int i, .int j => .ok (.bl (decide (i ≤ j)))
  | p, q => if alikeV p q then .ok (.bl (!ltB q p)) else .bad
def geV : PV → PV → Res PV
  | .int i, .int j => .ok (.bl (decide (j ≤ i)))
  | p, q => if alikeV p q then .ok (.bl (!ltB p q)) else .bad
def isV : PV → PV → Res PV
  | p, .non => .ok (.bl (isNon p))
  | .bl a, .bl b => .ok (.bl (decide (a = b)))
  | _, _ => .bad
def isntV : PV → PV → Res PV
  | p, .non => .ok (.bl (!isNon p))
  | .bl a, .bl b => .ok (.bl (!decide (a = b)))
  | _, _ => .bad
def inL (p : PV) (ps : List PV) : Bool := ps.any fun q => eqB q p
def hasK (p : PV) (ks : List Key) : Option Bool := match p with
  | .int i => some (ks.contains (.inl i))
  | .str x => some (ks.contains (.inr x))
  | _ => none
def inV' (p q : PV) : Res PV := match q with
  | .tup ps => if okD p && okD q then .ok (.bl (inL p ps)) else .bad
  | .lst ps => if okD p && okD q then .ok (.bl (inL p ps)) else .bad
  | _ => .bad
def ninV (p q : PV) : Res PV := match q with
  | .tup ps => if okD p && okD q then .ok (.bl (!inL p ps)) else .bad
  | .lst ps => if okD p && okD q then .ok (.bl (!inL p ps)) else .bad
  | _ => .bad

section
variable {X : Cx} {C : CloT}
theorem rep_int {K : PySem.W.Frag} {H : Hp} {i : Int} {x : V} : Rep K C H (.int i) x ↔ x = .int i := by simp only [Rep]
theorem rep_bl {K : PySem.W.Frag} {H : Hp} {i : Bool} {x : V} : Rep K C H (.bl i) x ↔ x = .bl i := by simp only [Rep]
theorem rep_str {K : PySem.W.Frag} {H : Hp} {i : Str} {x : V} : Rep K C H (.str i) x ↔ x = .str i := by simp only [Rep]
theorem rep_non {K : PySem.W.Frag} {H : Hp} {x : V} : Rep K C H .non x ↔ x = .non := by simp only [Rep]
theorem rep_tup {K : PySem.W.Frag} {H : Hp} {ps : List PV} {x : V} : Rep K C H (.tup ps) x ↔ ∃ a xs, x = .ref a ∧ H a = some (.tup xs) ∧ RepL K C H ps xs := by simp only [Rep]
theorem rep_tupS {K : PySem.W.Frag} {H : Hp} {ps : List PV} {x : V} (h : Rep K C H (.tup ps) x) : ∃ a xs, x = .ref a ∧ SqT K H a xs ∧ RepL K C H ps xs := by
  obtain ⟨a, xs, e, s, r⟩ := rep_tup.mp h
  exact ⟨a, xs, e, SqT.of s, r⟩
theorem rep_lst {K : PySem.W.Frag} {H : Hp} {ps : List PV} {x : V} : Rep K C H (.lst ps) x ↔ ∃ a xs, x = .ref a ∧ FzL K H a xs ∧ RepL K C H ps xs := by simp only [Rep]
/-- a new tuple -/
theorem rep_newT {K : PySem.W.Frag} {H : Hp} {ps : List PV} {xs : List V} {p : Addr} (h : H p = none) (r : RepL K C H ps xs) : Rep K C (upd H p (.tup xs)) (.tup ps) (.ref p) :=
  rep_tup.mpr ⟨p, xs, rfl, upd_same, RepL.ext (Ext.new h) _ _ r⟩
theorem rep_newL {K : PySem.W.Frag} {H : Hp} {ps : List PV} {xs : List V} {p : Addr} {o : Obj} (h : H p = none) (r : RepL K C H ps xs) : Rep K C (upd H p (.frz o (.lst xs))) (.lst ps) (.ref p) :=
  rep_lst.mpr ⟨p, xs, rfl, .inl ⟨o, upd_same⟩, RepL.ext (Ext.new h) _ _ r⟩
/-- a list just made is shared -/
theorem frz_new {pins : List (Addr × Obj)} {σ : St} {H : Hp} {s : Shared} {p : Addr} {xs : List V} (I : Inv X pins σ (upd H p (.lst xs)) s) : ∃ o, Inv X pins σ (upd H p (.frz o (.lst xs))) s := by
  obtain ⟨o, _, J⟩ := freeze I upd_same (fun _ z => nomatch z) (fun _ _ z => nomatch z) (fun _ z => nomatch z) (fun _ z => nomatch z)
  rw [L2.upd_upd] at J
  exact ⟨o, J⟩
theorem epL {pins : List (Addr × Obj)} {σ : St} {H : Hp} {s : Shared} {p : Addr} {xs : List V} {ps : List PV} {Q : VK} (I : Inv X pins σ (upd H p (.lst xs)) s) (hp : H p = none) (r : RepL X.K C H ps xs)
    (q : ∀ v H', Grow H H' → Rep X.K C H' (.lst ps) v → Q v H') : EP X pins σ Q (.ref p) s := by
  obtain ⟨o, J⟩ := frz_new I
  exact ⟨.ref p, _, J, rfl, q _ _ (Grow.new hp) (rep_newL hp r)⟩
theorem FzL.raw {pins : List (Addr × Obj)} {σ : St} {H : Hp} {s : Shared} {a : Addr} {xs : List V} (I : Inv X pins σ H s) (h : FzL X.K H a xs) : xs.length ≤ sizeLine ∧ ∃ (its : List Value) (n : Nat), Vals xs its ∧ s.heap.get? a = some { cls := .type "list", data := .seq its.toArray n } := by
  rcases h with ⟨o, e⟩ | ⟨its, n, e, z, r⟩
  · obtain ⟨_, q⟩ := I.hok a _ e
    exact q
  · refine ⟨?_, its.toList, n, r, I.kIn _ _ e⟩
    have l : xs.length = its.toList.length := r.length
    have l2 : its.toList.length = its.size := Array.length_toList
    omega

theorem opv_add : OpV X C (binaryOp .Add) addV := by
  intro p q r h pins s σ H x y v u Q I rx ry ⟨r1, r2, k⟩
  cases p <;> cases q <;> simp only [addV, Res.ok.injEq, reduceCtorEq] at h
  case int.int i j =>
    subst h
    rw [rep_int] at r1 r2
    exact op_add pins s σ H x y v u Q I rx ry ⟨i, j, r1, r2, k _ H (Grow.refl H) (rep_int.mpr rfl)⟩
  case str.str i j =>
    split at h
    case isFalse => cases h
    rename_i hf
    cases h
    rw [rep_str] at r1 r2
    exact op_add_str pins s σ H x y v u Q I rx ry ⟨i, j, r1, r2, fitsL_le hf, k _ H (Grow.refl H) (rep_str.mpr rfl)⟩
  case tup.tup ps qs =>
    split at h
    case isFalse => cases h
    rename_i hf
    cases h
    obtain ⟨a, xs, rfl, s1, l1⟩ := rep_tupS r1
    obtain ⟨b, ys, rfl, s2, l2⟩ := rep_tupS r2
    have e1 := l1.length
    have e2 := l2.length
    refine op_catA pins s σ H _ _ v u Q I rx ry ⟨a, b, xs, ys, rfl, rfl, s1, s2, by rw [e1, e2]; exact fitsL_le hf, fun z => ?_, fun _ z => ?_, fun _ _ p hp => ?_⟩
    · subst z
      have : ps = [] := List.eq_nil_of_length_eq_zero (by rw [← e1]; rfl)
      subst this
      exact k _ H (Grow.refl H) r2
    · subst z
      have : qs = [] := List.eq_nil_of_length_eq_zero (by rw [← e2]; rfl)
      subst this
      rw [List.append_nil] at k
      exact k _ H (Grow.refl H) r1
    · exact k _ _ (Grow.new hp) (rep_newT hp (l1.append l2))
  case lst.lst ps qs =>
    split at h
    case isFalse => cases h
    rename_i hf
    cases h
    obtain ⟨a, xs, rfl, s1, l1⟩ := rep_lst.mp r1
    obtain ⟨b, ys, rfl, s2, l2⟩ := rep_lst.mp r2
    cases rx
    cases ry
    obtain ⟨z1, its1, n1, v1, g1⟩ := s1.raw I
    obtain ⟨z2, its2, n2, v2, g2⟩ := s2.raw I
    have hz : xs.length + ys.length ≤ sizeLine := by rw [l1.length, l2.length]; exact fitsL_le hf
    have k1 := v1.length
    have k2 := v2.length
    refine PySem.P.add_list g1 g2 ?_ (by rw [List.size_toArray, List.size_toArray, ← k1, ← k2]; exact hz)
    have ea : its1.toArray ++ its2.toArray = (its1 ++ its2).toArray := by simp
    rw [ea]
    exact epL (I.lnew (t' := s.toks) (v1.append v2) (by rw [List.length_append]; exact hz)) I.fresh (l1.append l2) k
theorem ne_add : NoExc addV := by
  intro p q c v
  cases p <;> cases q <;> simp only [addV, ne_eq, reduceCtorEq, not_false_eq_true] <;> split <;> simp only [reduceCtorEq, not_false_eq_true]
theorem opv_sub : OpV X C (binaryOp .Sub) subV := by
  intro p q r h pins s σ H x y v u Q I rx ry ⟨r1, r2, k⟩
  cases p <;> cases q <;> simp only [subV, Res.ok.injEq, reduceCtorEq] at h
  subst h
  rw [rep_int] at r1 r2
  exact op_sub pins s σ H x y v u Q I rx ry ⟨_, _, r1, r2, k _ H (Grow.refl H) (rep_int.mpr rfl)⟩
theorem ne_sub : NoExc subV := by
  intro p q c v
  cases p <;> cases q <;> simp only [subV, ne_eq, reduceCtorEq, not_false_eq_true]
theorem RepL.rep {K : PySem.W.Frag} {H : Hp} {ps : List PV} {xs : List V} (h : RepL K C H ps xs) : ∀ n : Nat, RepL K C H (List.replicate n ps).flatten (List.replicate n xs).flatten
  | 0 => RepL.nil
  | n + 1 => by
    rw [List.replicate_succ, List.replicate_succ, List.flatten_cons, List.flatten_cons]
    exact h.append (RepL.rep h n)
theorem tup_mul1 (l : Addr) (its : Array Value) (n : Nat) (dd : Option Addr) (sl : Array (Option Value)) (x : Int) (u : Tok) (c0 : (decide (x < -(2 ^ 63)) || decide (x ≥ 2 ^ 63)) = false) (c1 : (its.isEmpty || x == 1) = true) :
    Meets (Builtin.«tuple.__mul__» ⟨[.ref l, .int x u], []⟩) (fun _ R s => s.heap.get? l = some { cls := .type "tuple", dict := dd, data := .seq its n, slots := sl } ∧ R (.ok (.ret (.ref l))) s) :=
  .of_wp fun prog w A R s h => by
    obtain ⟨hp, g, d, tk, os⟩ := s
    obtain ⟨hl, h⟩ := h
    have f1 := AutoSeq1.idx_int
    wp_walk using wpAny_loadPart' hl
    repeat (first
      | (refine wpAny_ite_false (decide_eq_false (by rw [c0]; exact Bool.false_ne_true)) ?_; wp_walk using wpAny_loadPart' hl)
      | (refine wpAny_ite_true (decide_eq_true (by rw [c1])) ?_; wp_walk using wpAny_loadPart' hl))
    exact ⟨_, rfl, h⟩
theorem tup_mul0 (l : Addr) (its : Array Value) (n : Nat) (dd : Option Addr) (sl : Array (Option Value)) (x : Int) (u : Tok) (c0 : (decide (x < -(2 ^ 63)) || decide (x ≥ 2 ^ 63)) = false) (c1 : (its.isEmpty || x == 1) = false) (c2 : (decide (x ≤ 0) || its.isEmpty) = true) :
    Meets (Builtin.«tuple.__mul__» ⟨[.ref l, .int x u], []⟩) (fun _ R s => s.heap.get? l = some { cls := .type "tuple", dict := dd, data := .seq its n, slots := sl } ∧
      R (.ok (.ret (Value.ref s.heap.objs.size))) { s with heap := s.heap.push { cls := Value.type "tuple", data := Data.seq #[] }, toks := s.toks }) :=
  .of_wp fun prog w A R s h => by
    obtain ⟨hp, g, d, tk, os⟩ := s
    obtain ⟨hl, h⟩ := h
    have f1 := AutoSeq1.idx_int
    wp_walk using wpAny_loadPart' hl
    repeat (first
      | (refine wpAny_ite_false (decide_eq_false (by rw [c0]; exact Bool.false_ne_true)) ?_; wp_walk using wpAny_loadPart' hl)
      | (refine wpAny_ite_false (decide_eq_false (by rw [c1]; exact Bool.false_ne_true)) ?_; wp_walk using wpAny_loadPart' hl)
      | (refine wpAny_ite_true (decide_eq_true (by rw [c2])) ?_; wp_walk using wpAny_loadPart' hl))
    exact ⟨_, rfl, h⟩
/-- t * k where no longer tuple is made -/
theorem op_rep01 {X : Cx} : OpR X (binaryOp .Mult) (fun x y H Q => ∃ l k xs, x = .ref l ∧ y = .int k ∧ SqT X.K H l xs ∧ (-1001 ≤ k ∧ k ≤ 1000) ∧ (((xs = [] ∨ k = 1) ∧ Q (.ref l) H) ∨ (xs ≠ [] ∧ k ≤ 0 ∧ ∀ p, H p = none → Q (.ref p) (upd H p (.tup []))))) := by
  intro pins s σ H x y v u Q I rx ry h
  obtain ⟨l, k, xs, rfl, rfl, hT, hk, q⟩ := h
  cases rx
  obtain ⟨t, rfl⟩ := ry
  obtain ⟨its, r, ⟨⟨cls, dd, data, sl⟩, ho, hc, n, hd⟩, hs⟩ := I.tuple hT
  simp only at hc hd
  subst hc hd
  have hle : its.length = xs.length := r.length.symm
  have c0 : (decide (k < -(2 ^ 63)) || decide (k ≥ 2 ^ 63)) = false := by
    rw [decide_eq_false (by omega), decide_eq_false (by omega)] <;> rfl
  refine wpAny_binaryOp_repeat_ref (T := "tuple") (U := "int") (by decide) ⟨_, ho, rfl⟩ (fun s' => typeIs_int s' k t) noFill_tuple_mul F.fills_int_mul F.slot_int_rmul repeat_tuple F.slot_int_index.lookup
    (call_meets F.slot_int_rmul (typeIs_int s k t) F.entry_int_rmul (F.args_int_rmul_2 _ _) (int_rmul_tuple k t l its.toArray n dd sl)
      ⟨ho, rfl, ⟨_, ho, rfl⟩, ?_⟩)
  by_cases h1 : (its.toArray.isEmpty || k == 1) = true
  · have q1 : Q (.ref l) H := by
      rcases q with ⟨_, q⟩ | ⟨hx, hk0, _⟩
      · exact q
      · exfalso
        rw [Bool.or_eq_true] at h1
        rcases h1 with h1 | h1
        · have : its = [] := by simpa using h1
          rw [this] at hle
          exact hx (List.eq_nil_of_length_eq_zero hle.symm)
        · have : k = 1 := eq_of_beq h1
          omega
    exact call_meets F.slot_tuple_mul ⟨_, ho, rfl⟩ F.entry_tuple_mul (F.args_tuple_mul_2 _ _) (tup_mul1 l its.toArray n dd sl k t c0 h1) ⟨ho, .ref l, H, I, rfl, q1⟩
  · have h1 : (its.toArray.isEmpty || k == 1) = false := by simpa using h1
    rcases q with ⟨hx, _⟩ | ⟨hx, hk0, q⟩
    · exfalso
      rw [Bool.or_eq_false_iff] at h1
      rcases hx with hx | hx
      · rw [hx] at hle
        have : its = [] := List.eq_nil_of_length_eq_zero hle
        rw [this] at h1
        exact absurd h1.1 (by decide)
      · rw [hx] at h1
        exact absurd h1.2 (by decide)
    · have c2 : (decide (k ≤ 0) || its.toArray.isEmpty) = true := by rw [decide_eq_true hk0]; rfl
      refine call_meets F.slot_tuple_mul ⟨_, ho, rfl⟩ F.entry_tuple_mul (F.args_tuple_mul_2 _ _) (tup_mul0 l its.toArray n dd sl k t c0 h1 c2) ⟨ho, ?_⟩
      refine ⟨.ref s.heap.objs.size, _, I.laid (t' := s.toks) (o := .tup []) (fun b ob q => Heap.get?_push_of_some _ q) (Nat.le_refl _) ?_, rfl, q _ (I.hok.fresh (Nat.le_refl _))⟩
      exact ⟨Nat.zero_le _, [], .nil, IsTup.new _ _⟩
theorem flat_nil {α : Type} (n : Nat) : (List.replicate n ([] : List α)).flatten = [] := by
  induction n with
  | zero => rfl
  | succ n ih => rw [List.replicate_succ, List.flatten_cons, ih]; rfl
theorem opv_mul : OpV X C (binaryOp .Mult) mulV := by
  intro p q r h pins s σ H x y v u Q I rx ry ⟨r1, r2, k⟩
  cases p <;> cases q <;> simp only [mulV, Res.ok.injEq, reduceCtorEq] at h
  case int.int i j =>
    split at h
    case isFalse => cases h
    rename_i hf
    cases h
    rw [rep_int] at r1 r2
    exact op_mul pins s σ H x y v u Q I rx ry ⟨i, j, r1, r2, mulOk_c hf, k _ H (Grow.refl H) (rep_int.mpr rfl)⟩
  case tup.int ps j =>
    split at h
    case isFalse => cases h
    rename_i hf
    cases h
    rw [Bool.and_eq_true] at hf
    have h3 := times_le hf.1
    have h4 := Nat.le_of_ble_eq_true hf.2
    have r0 := r1
    obtain ⟨a, xs, rfl, s1, l1⟩ := rep_tupS r1
    rw [rep_int] at r2
    have hlen := l1.length
    by_cases h1 : xs = [] ∨ j = 1
    · refine op_rep01 pins s σ H _ y v u Q I rx ry ⟨a, j, xs, rfl, r2, s1, h3, .inl ⟨h1, k _ H (Grow.refl H) ?_⟩⟩
      rcases h1 with h1 | h1
      · have : ps = [] := by rw [h1] at hlen; exact List.eq_nil_of_length_eq_zero hlen.symm
        rw [this, flat_nil]
        rw [this] at r0
        exact r0
      · rw [h1, show (1 : Int).toNat = 1 from rfl, List.replicate_one, List.flatten_cons, List.flatten_nil, List.append_nil]
        exact r0
    · have hx : xs ≠ [] := fun z => h1 (.inl z)
      have hj : j ≠ 1 := fun z => h1 (.inr z)
      by_cases h0 : j ≤ 0
      · refine op_rep01 pins s σ H _ y v u Q I rx ry ⟨a, j, xs, rfl, r2, s1, h3, .inr ⟨hx, h0, fun p hp => k _ _ (Grow.new hp) ?_⟩⟩
        rw [show j.toNat = 0 by omega, List.replicate_zero, List.flatten_nil]
        exact rep_newT hp RepL.nil
      · exact op_repT pins s σ H _ y v u Q I rx ry ⟨a, j, xs, rfl, r2, s1, hx, by omega, by omega, by rw [hlen]; exact h4, fun p hp => k _ _ (Grow.new hp) (rep_newT hp (l1.rep _))⟩
theorem ne_mul : NoExc mulV := by
  intro p q c v
  cases p <;> cases q <;> simp only [mulV, ne_eq, reduceCtorEq, not_false_eq_true] <;> split <;> simp only [reduceCtorEq, not_false_eq_true]
theorem opv_fdiv : OpV X C (binaryOp .FloorDiv) fdivV := by
  intro p q r h pins s σ H x y v u Q I rx ry ⟨r1, r2, k⟩
  cases p <;> cases q <;> simp only [fdivV, Res.ok.injEq, reduceCtorEq] at h
  split at h
  case isFalse => cases h
  rename_i hf
  cases h
  simp only [Bool.and_eq_true, decide_eq_true_eq] at hf
  rw [rep_int] at r1 r2
  exact op_fdiv pins s σ H x y v u Q I rx ry ⟨_, _, r1, r2, hf, k _ H (Grow.refl H) (rep_int.mpr rfl)⟩
theorem ne_fdiv : NoExc fdivV := by
  intro p q c v
  cases p <;> cases q <;> simp only [fdivV, ne_eq, reduceCtorEq, not_false_eq_true] <;> split <;> simp only [reduceCtorEq, not_false_eq_true]
theorem opv_mod : OpV X C (binaryOp .Mod) modV := by
  intro p q r h pins s σ H x y v u Q I rx ry ⟨r1, r2, k⟩
  cases p <;> cases q <;> simp only [modV, Res.ok.injEq, reduceCtorEq] at h
  split at h
  case isFalse => cases h
  rename_i hf
  cases h
  simp only [decide_eq_true_eq] at hf
  rw [rep_int] at r1 r2
  exact op_mod pins s σ H x y v u Q I rx ry ⟨_, _, r1, r2, hf, k _ H (Grow.refl H) (rep_int.mpr rfl)⟩
theorem ne_mod : NoExc modV := by
  intro p q c v
  cases p <;> cases q <;> simp only [modV, ne_eq, reduceCtorEq, not_false_eq_true] <;> split <;> simp only [reduceCtorEq, not_false_eq_true]
theorem opv_pow : OpV X C (binaryOp .Pow) powV := by
  intro p q r h pins s σ H x y v u Q I rx ry ⟨r1, r2, k⟩
  cases p <;> cases q <;> simp only [powV, Res.ok.injEq, reduceCtorEq] at h
  split at h
  case isFalse => cases h
  rename_i hf
  cases h
  simp only [Bool.and_eq_true, decide_eq_true_eq] at hf
  rw [rep_int] at r1 r2
  subst r1 r2
  obtain ⟨t, rfl⟩ := rx
  obtain ⟨t', rfl⟩ := ry
  exact pow_int hf.1 hf.2 ⟨.int _, H, I.tok _, ⟨_, rfl⟩, k _ H (Grow.refl H) (rep_int.mpr rfl)⟩
theorem ne_pow : NoExc powV := by
  intro p q c v
  cases p <;> cases q <;> simp only [powV, ne_eq, reduceCtorEq, not_false_eq_true] <;> split <;> simp only [reduceCtorEq, not_false_eq_true]

/-! ### comparisons -/
theorem okD_d {p : PV} (h : okD p = true) : p.isData = true ∧ p.toD.depth ≤ 60 := by
  unfold okD at h
  simpa only [Bool.and_eq_true, decide_eq_true_eq] using h
theorem fin_b {pins : List (Addr × Obj)} {σ : St} {H : Hp} {s : Shared} {Q : VK} {b b' : Bool} (I : Inv X pins σ H s) (k : ∀ v H', Grow H H' → Rep X.K C H' (.bl b) v → Q v H') (e : b' = b) : EP X pins σ Q (.bool b') s := by
  subst e
  exact ⟨.bl b', H, I, rfl, k _ H (Grow.refl H) (rep_bl.mpr rfl)⟩
theorem opv_eq (hu : X.A.units + 64 < cLine) : OpV X C (compareOp .Eq) eqV' := by
  intro p q r h pins s σ H x y v u Q I rx ry ⟨r1, r2, k⟩
  unfold eqV' at h
  split at h
  case isFalse => cases h
  rename_i hf
  cases h
  rw [Bool.and_eq_true] at hf
  obtain ⟨d1, e1⟩ := okD_d hf.1
  obtain ⟨d2, e2⟩ := okD_d hf.2
  obtain ⟨as, ra⟩ := Rep.reads I p x v r1 rx d1
  obtain ⟨bs, rb⟩ := Rep.reads I q y u r2 ry d2
  exact SeqAt.eq_plain ra rb (p.toD_plain d1) (q.toD_plain d2) (by omega) (fin_b I k rfl)
theorem opv_ne (hu : X.A.units + 64 < cLine) : OpV X C (compareOp .NotEq) neV := by
  intro p q r h pins s σ H x y v u Q I rx ry ⟨r1, r2, k⟩
  unfold neV at h
  split at h
  case isFalse => cases h
  rename_i hf
  cases h
  rw [Bool.and_eq_true] at hf
  obtain ⟨d1, e1⟩ := okD_d hf.1
  obtain ⟨d2, e2⟩ := okD_d hf.2
  obtain ⟨as, ra⟩ := Rep.reads I p x v r1 rx d1
  obtain ⟨bs, rb⟩ := Rep.reads I q y u r2 ry d2
  exact SeqAt.ne_plain ra rb (p.toD_plain d1) (q.toD_plain d2) (by omega) (fin_b I k rfl)
theorem ne_eq' : NoExc eqV' := by
  intro p q c v
  unfold eqV'
  split <;> simp only [ne_eq, reduceCtorEq, not_false_eq_true]
theorem ne_ne : NoExc neV := by
  intro p q c v
  unfold neV
  split <;> simp only [ne_eq, reduceCtorEq, not_false_eq_true]
theorem toD_ne {p : PV} (h : p.isData = true) (n : isNon p = false) : p.toD ≠ .none := by
  cases p <;> simp_all only [PV.toD, PV.isData, isNon, ne_eq, reduceCtorEq, not_false_eq_true]
theorem ord_of {op : CmpOp} {f : Int → Int → Bool} {g : PV → PV → Bool} {h : PV → PV → Res PV} (hu : X.A.units + 64 < cLine)
    (h1 : ∀ i j, h (.int i) (.int j) = .ok (.bl (f i j))) (h2 : ∀ p q, (∀ i j, ¬ (p = .int i ∧ q = .int j)) → h p q = if alikeV p q then .ok (.bl (g p q)) else .bad)
    (o1 : OpR X (compareOp op) (rI0 fun i j => .bl (f i j)))
    (o2 : ∀ {p q : PV} {s : Shared} {a b : Value} {as bs : List Addr} {Q : Value → Shared → Prop}, Reads s.heap a p.toD as → Reads s.heap b q.toD bs → PySem.W.alike p.toD q.toD = true → p.toD ≠ .none → X.A.units + min p.toD.depth q.toD.depth < cLine →
      Q (.bool (g p q)) s → wpAny (model X.prog X.w) X.A (compareOp op a b) Q X.xe s) : OpV X C (compareOp op) h := by
  intro p q r e pins s σ H x y v u Q I rx ry ⟨r1, r2, k⟩
  by_cases hi : ∃ i j, p = .int i ∧ q = .int j
  · obtain ⟨i, j, rfl, rfl⟩ := hi
    rw [h1] at e
    cases e
    rw [rep_int] at r1 r2
    exact o1 pins s σ H x y v u Q I rx ry ⟨i, j, r1, r2, k _ H (Grow.refl H) (rep_bl.mpr rfl)⟩
  · rw [h2 p q (fun i j z => hi ⟨i, j, z⟩)] at e
    split at e
    case isFalse => cases e
    rename_i hf
    cases e
    unfold alikeV at hf
    simp only [Bool.and_eq_true, Bool.not_eq_true'] at hf
    obtain ⟨⟨f1, f2⟩, f3, f4⟩ := hf
    obtain ⟨d1, e1⟩ := okD_d f1
    obtain ⟨d2, e2⟩ := okD_d f2
    obtain ⟨as, ra⟩ := Rep.reads I p x v r1 rx d1
    obtain ⟨bs, rb⟩ := Rep.reads I q y u r2 ry d2
    exact o2 ra rb f3 (toD_ne d1 f4) (by omega) (fin_b I k rfl)
theorem opv_lt (hu : X.A.units + 64 < cLine) : OpV X C (compareOp .Lt) ltV :=
  ord_of (f := fun i j => decide (i < j)) (g := ltB) hu (fun _ _ => rfl) (fun p q n => by cases p <;> cases q <;> first | rfl | exact absurd ⟨rfl, rfl⟩ (n _ _)) op_lt (fun ra rb h1 h2 h3 q => PySem.W.lt_data ra rb h1 h2 h3 q)
theorem opv_gt (hu : X.A.units + 64 < cLine) : OpV X C (compareOp .Gt) gtV :=
  ord_of (f := fun i j => decide (j < i)) (g := fun p q => ltB q p) hu (fun _ _ => rfl) (fun p q n => by cases p <;> cases q <;> first | rfl | exact absurd ⟨rfl, rfl⟩ (n _ _)) op_gt (fun ra rb h1 h2 h3 q => PySem.W.gt_data ra rb h1 h2 h3 q)
theorem opv_le (hu : X.A.units + 64 < cLine) : OpV X C (compareOp .LtE) leV :=
  ord_of (f := fun i j => decide (i ≤ j)) (g := fun p q => !ltB q p) hu (fun _ _ => rfl) (fun p q n => by cases p <;> cases q <;> first | rfl | exact absurd ⟨rfl, rfl⟩ (n _ _)) op_le (fun ra rb h1 h2 h3 q => PySem.W.le_data ra rb h1 h2 h3 q)
theorem opv_ge (hu : X.A.units + 64 < cLine) : OpV X C (compareOp .GtE) geV :=
  ord_of (f := fun i j => decide (j ≤ i)) (g := fun p q => !ltB p q) hu (fun _ _ => rfl) (fun p q n => by cases p <;> cases q <;> first | rfl | exact absurd ⟨rfl, rfl⟩ (n _ _)) op_ge (fun ra rb h1 h2 h3 q => PySem.W.ge_data ra rb h1 h2 h3 q)
theorem ne_ord {h : PV → PV → Res PV} {f : PV → PV → Bool} (e : ∀ p q, h p q = .bad ∨ ∃ b, h p q = .ok b) : NoExc h := by
  intro p q c v z
  rcases e p q with e | ⟨b, e⟩ <;> rw [z] at e <;> cases e
theorem ne_lt : NoExc ltV := ne_ord (f := ltB) fun p q => by unfold ltV; split <;> first | exact .inr ⟨_, rfl⟩ | (split <;> first | exact .inr ⟨_, rfl⟩ | exact .inl rfl)
theorem ne_gt : NoExc gtV := ne_ord (f := ltB) fun p q => by unfold gtV; split <;> first | exact .inr ⟨_, rfl⟩ | (split <;> first | exact .inr ⟨_, rfl⟩ | exact .inl rfl)
theorem ne_le : NoExc leV := ne_ord (f := ltB) fun p q => by unfold leV; split <;> first | exact .inr ⟨_, rfl⟩ | (split <;> first | exact .inr ⟨_, rfl⟩ | exact .inl rfl)
theorem ne_ge : NoExc geV := ne_ord (f := ltB) fun p q => by unfold geV; split <;> first | exact .inr ⟨_, rfl⟩ | (split <;> first | exact .inr ⟨_, rfl⟩ | exact .inl rfl)
theorem rep_notN {K : PySem.W.Frag} {H : Hp} {p : PV} {x : V} (h : Rep K C H p x) : decide (x = .non) = isNon p := by
  cases p with
  | non => simp only [Rep] at h; subst h; rfl
  | bl b => simp only [Rep] at h; subst h; rfl
  | int b => simp only [Rep] at h; subst h; rfl
  | str b => simp only [Rep] at h; subst h; rfl
  | tup b => simp only [Rep] at h; obtain ⟨a, xs, rfl, _⟩ := h; rfl
  | lst b => simp only [Rep] at h; obtain ⟨a, xs, rfl, _⟩ := h; rfl
  | dct b c => simp only [Rep] at h; obtain ⟨a, xs, rfl, _⟩ := h; rfl
  | dtt b c => simp only [Rep] at h; obtain ⟨a, xs, rfl, _⟩ := h; rfl
  | tix b => simp only [Rep] at h; obtain ⟨a, o, xs, rfl, _⟩ := h; rfl
  | clo b => simp only [Rep] at h; obtain ⟨a, o, u, c, q, rfl, _⟩ := h; rfl
  | fn b => simp only [Rep] at h; obtain ⟨a, rfl, _⟩ := h; rfl
  | err b c => simp only [Rep] at h; obtain ⟨a, _, _, _, _, _, _, rfl, _⟩ := h; rfl
theorem opv_is : OpV X C (compareOp .Is) isV := by
  intro p q r h pins s σ H x y v u Q I rx ry ⟨r1, r2, k⟩
  cases q with
  | non =>
    have h : Res.ok (.bl (isNon p)) = Res.ok r := by rw [← h]; cases p <;> rfl
    cases h
    refine op_isN pins s σ H x y v u Q I rx ry ⟨rep_non.mp r2, ?_⟩
    rw [rep_notN r1]
    exact k _ H (Grow.refl H) (rep_bl.mpr rfl)
  | bl b =>
    cases p with
    | bl a =>
      simp only [isV] at h
      cases h
      exact op_is_bl pins s σ H x y v u Q I rx ry ⟨a, b, rep_bl.mp r1, rep_bl.mp r2, k _ H (Grow.refl H) (rep_bl.mpr rfl)⟩
    | _ => cases h
  | _ => cases p <;> cases h
theorem opv_isnt : OpV X C (compareOp .IsNot) isntV := by
  intro p q r h pins s σ H x y v u Q I rx ry ⟨r1, r2, k⟩
  cases q with
  | non =>
    have h : Res.ok (.bl (!isNon p)) = Res.ok r := by rw [← h]; cases p <;> rfl
    cases h
    refine op_notN pins s σ H x y v u Q I rx ry ⟨rep_non.mp r2, ?_⟩
    rw [rep_notN r1]
    exact k _ H (Grow.refl H) (rep_bl.mpr rfl)
  | bl b =>
    cases p with
    | bl a =>
      simp only [isntV] at h
      cases h
      exact op_isnot_bl pins s σ H x y v u Q I rx ry ⟨a, b, rep_bl.mp r1, rep_bl.mp r2, k _ H (Grow.refl H) (rep_bl.mpr rfl)⟩
    | _ => cases h
  | _ => cases p <;> cases h
theorem ne_is : NoExc isV := by
  intro p q c v
  cases p <;> cases q <;> simp only [isV, ne_eq, reduceCtorEq, not_false_eq_true]
theorem ne_isnt : NoExc isntV := by
  intro p q c v
  cases p <;> cases q <;> simp only [isntV, ne_eq, reduceCtorEq, not_false_eq_true]
end
end VL
/-! VL4: containers, tests, displays, items, slices. -/
namespace VL
set_option autoImplicit false
open PySem PySem.Spec PyProof.Rows L2

/-! ### what may be looked into: a shared value, or a name's own thing -/
inductive Src where
  | val (p : PV) | slot (i : Nat)
def slotP : Option (Option LV) → Option PV
  | some (some (.sh p)) => some p
  | some (some (.ow p)) => some p
  | some (some (.po p)) => some p
  | _ => none
def Src.get : Src → PSt → Option PV
  | .val p, _ => some p
  | .slot i, s => slotP s[i]?
/-- what stands in v just now -/
def Now (K : PySem.W.Frag) (C : CloT) (H : Hp) : PV → V → Prop
  | .lst ps, v => ∃ a xs, v = .ref a ∧ SqL K H a xs ∧ RepL K C H ps xs
  | .dct ks ps, v => ∃ a xs, v = .ref a ∧ ks.length = ps.length ∧ Rd H a (.dK (ks.zip xs)) ∧ RepL K C H ps xs
  | .dtt ks ps, v => ∃ a xs, v = .ref a ∧ ks.length = ps.length ∧ Rd H a (.dT (ks.zip xs)) ∧ RepL K C H ps xs
  | p, v => Rep K C H p v
theorem Rep.now {K : PySem.W.Frag} {C : CloT} {H : Hp} {p : PV} {v : V} (h : Rep K C H p v) : Now K C H p v := by
  cases p with
  | lst ps => obtain ⟨a, xs, e, f, r⟩ := rep_lst.mp h; exact ⟨a, xs, e, f.sql, r⟩
  | dct ks ps => simp only [Rep] at h; obtain ⟨a, xs, e, l, ⟨o, f⟩, r⟩ := h; exact ⟨a, xs, e, l, .inr ⟨o, f⟩, r⟩
  | dtt ks ps => simp only [Rep] at h; obtain ⟨a, xs, e, l, ⟨o, f⟩, r⟩ := h; exact ⟨a, xs, e, l, .inr ⟨o, f⟩, r⟩
  | _ => exact h
theorem Own.now {K : PySem.W.Frag} {C : CloT} {H : Hp} {p : PV} {a : Addr} (h : Own K C H p a) : Now K C H p (.ref a) := by
  cases p with
  | lst ps => obtain ⟨xs, e, r⟩ := h; exact ⟨a, xs, rfl, SqL.of e, r⟩
  | dct ks ps => obtain ⟨l, xs, e, r⟩ := h; exact ⟨a, xs, rfl, l, .inl e, r⟩
  | dtt ks ps => obtain ⟨l, xs, e, r⟩ := h; exact ⟨a, xs, rfl, l, .inl e, r⟩
  | _ => exact h.elim
abbrev rC (X : Cx) (B : Bs) : PSt → St → Hp → Src → V → Prop := fun _ σ H c v => match c with
  | .val p => Rep X.K B.C H p v
  | .slot i => σ[i]? = some (some v)
def PXC (X : Cx) (W : WX) (B : Bs) (e : Expr) (d : M Src) : Prop := PE X e (tR X W B (rC X B) d)
theorem src_now {X : Cx} {B : Bs} {s s0 : PSt} {σ : St} {H : Hp} {c : Src} {v : V} {p : PV} (R : RelSt X.K B s σ H) (h : rC X B s0 σ H c v) (e : c.get s = some p) : Now X.K B.C H p v := by
  cases c with
  | val q =>
    have e : some q = some p := e
    cases e
    exact Rep.now h
  | slot i =>
    have h : σ[i]? = some (some v) := h
    have e : slotP s[i]? = some p := e
    cases hs : s[i]? with
    | none => rw [hs] at e; cases e
    | some l =>
      cases l with
      | none => rw [hs] at e; cases e
      | some l =>
        obtain ⟨w, ew, r⟩ := R.at_ i l hs
        rw [h] at ew
        cases ew
        rw [hs] at e
        cases l with
        | sh q => cases e; exact Rep.now r
        | ow q => cases e; obtain ⟨a, rfl, o, _⟩ := r; exact o.now
        | po q => cases e; obtain ⟨a, rfl, o, _⟩ := r; exact o.now
theorem src_ext {X : Cx} {B : Bs} {s s1 : PSt} {σ : St} {H H' : Hp} {c : Src} {v : V} (h : rC X B s σ H c v) (x : Ext H H') : rC X B s1 σ H' c v := by
  cases c with
  | val q => exact Rep.ext x _ _ h
  | slot i => exact h
def dSlot (i : Nat) : M Src := fun s => match s[i]? with
  | some (some _) => .ok (.slot i, s)
  | _ => .bad
def dVal (d : M PV) : M Src := fun s => (d s).bind fun (p, s) => .ok (.val p, s)
section
variable {X : Cx} {W : WX} {B : Bs} {pos : Pos}
theorem pxc_slot {i : Nat} {x : Str} (hN : X.N[i]? = some x) (hv : Vis X.env.scope x) (hd : (x == ("__debug__" : Str)) = false := by decide) (hcd : (x == ("__classdict__" : Str)) = false := by decide) : PXC X W B (.Name x pos) (dSlot i) := by
  refine PE.weak (pe_var (pos := pos) hN hv hd hcd) fun σ H Q ⟨s, R, q⟩ => ?_
  unfold dSlot at q
  cases e : s[i]? with
  | none => rw [e] at q; exact q.elim
  | some l =>
    cases l with
    | none => rw [e] at q; exact q.elim
    | some l =>
      rw [e] at q
      obtain ⟨v, ev, r⟩ := R.at_ i _ e
      exact ⟨v, ev, q v H R (Ext.refl H) ev⟩
theorem pxc_val {e : Expr} {d : M PV} (h : PX X W B e d) : PXC X W B e (dVal d) :=
  PE.weak h fun σ H Q ⟨s, R, q⟩ => ⟨s, R, tRa.bind (rep' := rC X B) q fun p s1 v H1 R1 x1 r1 q => q v H1 R1 (Ext.refl H1) r1⟩

/-! ### tests -/
def truthV : PV → Option Bool
  | .non => some false
  | .bl b => some b
  | .int i => some (i != 0)
  | .str y => if fitsL y.length then some ((y.length : Int) != 0) else none
  | .tup xs => some (!xs.isEmpty)
  | .lst xs => some (!xs.isEmpty)
  | .dct ks _ => some (!ks.isEmpty)
  | _ => none
def optR {α : Type} (o : Option α) : Res α := match o with
  | some a => .ok a
  | none => .bad
@[simp] theorem optR_some {α : Type} (a : α) : optR (some a) = .ok a := rfl
@[simp] theorem optR_none {α : Type} : optR (none : Option α) = .bad := rfl
/-- a value's truth -/
def dTru (d : M Src) : M Bool := fun s => (d s).bind fun (c, s) => (optR ((c.get s).bind truthV)).bind fun b => .ok (b, s)
/-- a value that is a bool -/
def dTst (d : M PV) : M Bool := fun s => (d s).bind fun (p, s) => match p with
  | .bl b => .ok (b, s)
  | _ => .bad
def dBl (d : M Bool) : M PV := fun s => (d s).bind fun (b, s) => .ok (.bl b, s)
theorem optR_ok {X : Cx} {W : WX} {B : Bs} {α β γ : Type} {rep : PSt → St → Hp → β → γ → Prop} {o : Option α} {f : α → Res (β × PSt)} {σ : St} {H : Hp} {Q : γ → Hp → Prop} (h : tRa X W B rep ((optR o).bind f) σ H Q) : ∃ a, o = some a ∧ tRa X W B rep (f a) σ H Q := by
  cases o with
  | some a => exact ⟨a, rfl, h⟩
  | none => exact (show False from h).elim
theorem now_tru {X : Cx} {C : CloT} {pins : List (Addr × Obj)} {s : Shared} {σ : St} {H : Hp} {p : PV} {v : V} {u : Value} {b : Bool} {Q : Bool → Hp → Prop} (I : Inv X pins σ H s) (r : RelV v u) (h : Now X.K C H p v) (e : truthV p = some b) (q : Q b H) :
    wpAny (model X.prog X.w) X.A (truthy u) (TP X pins σ Q) X.xe s := by
  have go : TruV X.K v H b → wpAny (model X.prog X.w) X.A (truthy u) (TP X pins σ Q) X.xe s := fun t => tru_ok pins s σ H v u Q I r ⟨b, t, q⟩
  cases p with
  | non => have h := (rep_non (K := X.K) (C := C) (H := H)).mp h; subst h; cases e; exact go rfl
  | bl c => have h := (rep_bl (K := X.K) (C := C) (H := H)).mp h; subst h; cases e; exact go rfl
  | int i => have h := (rep_int (K := X.K) (C := C) (H := H)).mp h; subst h; cases e; exact go rfl
  | str y =>
    have h := (rep_str (K := X.K) (C := C) (H := H)).mp h
    subst h
    have e : (if fitsL y.length = true then some ((y.length : Int) != 0) else none) = some b := e
    split at e
    case isFalse => cases e
    rename_i hf
    cases e
    exact go ⟨fitsL_le hf, rfl⟩
  | tup xs =>
    obtain ⟨a, ys, rfl, s, r⟩ := rep_tupS h
    cases e
    refine go (.inr (.inl ⟨ys, s, ?_⟩))
    have := r.length
    cases xs <;> cases ys <;> simp_all
  | lst xs =>
    obtain ⟨a, ys, rfl, s, r⟩ := h
    cases e
    refine go (.inl ⟨ys, s, ?_⟩)
    have := r.length
    cases xs <;> cases ys <;> simp_all
  | dct ks xs =>
    cases e
    obtain ⟨a, ys, rfl, l, s, r'⟩ := h
    have e1 := r'.length
    cases r
    refine d_truth I s fun s' J => ⟨H, J, ?_⟩
    have e2 : (!(ks.zip ys).isEmpty) = !ks.isEmpty := by
      cases ks with
      | nil => rfl
      | cons k ks =>
        cases ys with
        | nil => rw [← e1] at l; cases l
        | cons y ys => rfl
    rw [e2]
    exact q
  | _ => cases e
/-- any expression whose test is its value's truth -/
theorem pxt_tru {e : Expr} {d : M Src} (h : PXC X W B e d) (he : ∀ whole, isTrue e X.env whole = (do let v ← whole; standAt e.pos; holding [v] (truthy v)) := by intro _; rfl) : PXT X W B e (dTru d) := by
  refine ⟨fun pins s σ H Q I q => ?_⟩
  obtain ⟨sp, R, q⟩ := q
  refine isTrue_plain (thn (h.run pins s σ H (fun v H' => ∃ p b, Now X.K B.C H' p v ∧ truthV p = some b ∧ Q b H') I ⟨sp, R, tRa.bind (rep' := rB) q fun c s1 v H1 R1 x1 r1 q => ?_⟩) fun v s1 ⟨x, H1, I1, r1, p, b, n1, e1, q1⟩ => now_tru I1 r1 n1 e1 q1) (he _)
  obtain ⟨b, e1, q⟩ := optR_ok q
  obtain ⟨p, e2, e3⟩ := Option.bind_eq_some_iff.mp e1
  exact ⟨p, b, src_now R1 r1 e2, e3, q b H1 R1 (Ext.refl H1) rfl⟩
theorem tst_read {d : M PV} {σ : St} {H : Hp} {Q : Bool → Hp → Prop} (h : tR X W B rB (dTst d) σ H Q) : tR X W B (rV X B) d σ H fun v H1 => ∃ b, v = .bl b ∧ Q b H1 := by
  obtain ⟨s, R, h⟩ := h
  refine ⟨s, R, tRa.bind (rep' := rB) h fun p s1 v H1 R1 x1 r1 q => ?_⟩
  cases p with
  | bl b => exact ⟨b, rep_bl.mp r1, q b H1 R1 (Ext.refl H1) rfl⟩
  | _ => exact (show False from q).elim
theorem bl_read {d : M Bool} {σ : St} {H : Hp} {Q : VK} (h : tR X W B (rV X B) (dBl d) σ H Q) : tR X W B rB d σ H fun b H1 => Q (.bl b) H1 := by
  obtain ⟨s, R, h⟩ := h
  refine ⟨s, R, tRa.bind (rep' := rV X B) h fun b s1 b' H1 R1 x1 r1 q => ?_⟩
  cases r1
  exact q _ H1 R1 (Ext.refl H1) (rep_bl.mpr rfl)
/-- a comparison as a test -/
theorem pxt_cmp {op : CmpOp} {a b : Expr} {da db : M PV} {g : PV → PV → Res PV} (ho : OpV X B.C (compareOp op) g) (ne : NoExc g) (ha : PX X W B a da) (hb : PX X W B b db) (hm : behindInMarks op b = false) : PXT X W B (.Compare a [op] [b] pos) (dTst (dBin g da db)) := by
  refine ⟨fun pins s σ H Q I h => ?_⟩
  have h' := bin_read (f := compareOp op) ne σ H _ (tst_read h)
  refine wpAny_isTrue_Compare1 (binT ha hb I h' fun v u s2 x y H2 I2 rx ry ⟨p, q, r, er, r1, r2, k⟩ => ?_) hm
  refine thn (ho p q r er pins s2 σ H2 x y v u _ I2 rx ry ⟨r1, r2, k⟩) fun c s3 ⟨z, H3, I3, r3, d, e, q3⟩ => ?_
  subst e
  cases r3
  exact wpAny_truthy_bool ⟨H3, I3, q3⟩

/-! ### and, or, not, if .. else -/
def dAnd (a b : M Bool) : M Bool := fun s => (a s).bind fun (c, s) => if c then b s else .ok (false, s)
def dOr (a b : M Bool) : M Bool := fun s => (a s).bind fun (c, s) => if c then .ok (true, s) else b s
def dNot (a : M Bool) : M Bool := fun s => (a s).bind fun (c, s) => .ok (!c, s)
def dIfE {α : Type} (c : M Bool) (a b : M α) : M α := fun s => (c s).bind fun (k, s) => if k then a s else b s
def PXW (X : Cx) (W : WX) (B : Bs) (e : Expr) (d : M Bool) : Prop := PW X e (tR X W B rB d)
theorem and_read {a b : M Bool} {σ : St} {H : Hp} {Q : Bool → Hp → Prop} (h : tR X W B rB (dAnd a b) σ H Q) : tR X W B rB a σ H fun c H1 => if c = true then tR X W B rB b σ H1 Q else Q false H1 := by
  obtain ⟨s, R, h⟩ := h
  refine ⟨s, R, tRa.bind (rep' := rB) h fun c s1 c' H1 R1 x1 r1 q => ?_⟩
  cases r1
  cases c with
  | true => rw [if_pos rfl]; exact ⟨s1, R1, q⟩
  | false => rw [if_neg Bool.false_ne_true]; exact q _ H1 R1 (Ext.refl H1) rfl
theorem or_read {a b : M Bool} {σ : St} {H : Hp} {Q : Bool → Hp → Prop} (h : tR X W B rB (dOr a b) σ H Q) : tR X W B rB a σ H fun c H1 => if c = true then Q true H1 else tR X W B rB b σ H1 Q := by
  obtain ⟨s, R, h⟩ := h
  refine ⟨s, R, tRa.bind (rep' := rB) h fun c s1 c' H1 R1 x1 r1 q => ?_⟩
  cases r1
  cases c with
  | false => rw [if_neg Bool.false_ne_true]; exact ⟨s1, R1, q⟩
  | true => rw [if_pos rfl]; exact q _ H1 R1 (Ext.refl H1) rfl
theorem not_read {a : M Bool} {σ : St} {H : Hp} {Q : Bool → Hp → Prop} (h : tR X W B rB (dNot a) σ H Q) : tR X W B rB a σ H fun c H1 => Q (!c) H1 := by
  obtain ⟨s, R, h⟩ := h
  refine ⟨s, R, tRa.bind (rep' := rB) h fun c s1 c' H1 R1 x1 r1 q => ?_⟩
  cases r1
  exact q _ H1 R1 (Ext.refl H1) rfl
theorem ife_read {α β : Type} {rep : PSt → St → Hp → α → β → Prop} {c : M Bool} {a b : M α} {σ : St} {H : Hp} {Q : β → Hp → Prop} (h : tR X W B rep (dIfE c a b) σ H Q) : tR X W B rB c σ H fun k H1 => if k = true then tR X W B rep a σ H1 Q else tR X W B rep b σ H1 Q := by
  obtain ⟨s, R, h⟩ := h
  refine ⟨s, R, tRa.bind (rep' := rep) h fun c s1 c' H1 R1 x1 r1 q => ?_⟩
  cases r1
  cases c with
  | true => rw [if_pos rfl]; exact ⟨s1, R1, q⟩
  | false => rw [if_neg Bool.false_ne_true]; exact ⟨s1, R1, q⟩
section
variable {a b : Expr} {rest : List Expr} {da db : M Bool} {va vb : M PV}
theorem PXW.t {e : Expr} {d : M Bool} (h : PXW X W B e d) : PXT X W B e d := PW.pt h
theorem pxw_and1 (h : PXT X W B a da) : PXW X W B (.BoolOp .And [a] pos) da := pw_and1 h
theorem pxw_or1 (h : PXT X W B a da) : PXW X W B (.BoolOp .Or [a] pos) da := pw_or1 h
theorem pxw_and (h : PXT X W B a da) (k : PXW X W B (.BoolOp .And (b :: rest) pos) db) : PXW X W B (.BoolOp .And (a :: b :: rest) pos) (dAnd da db) :=
  ⟨fun wh pins s σ H Q I q => (pw_and h k).run wh pins s σ H Q I (and_read q)⟩
theorem pxw_or (h : PXT X W B a da) (k : PXW X W B (.BoolOp .Or (b :: rest) pos) db) : PXW X W B (.BoolOp .Or (a :: b :: rest) pos) (dOr da db) :=
  ⟨fun wh pins s σ H Q I q => (pw_or h k).run wh pins s σ H Q I (or_read q)⟩
theorem pxt_not (h : PXT X W B a da) : PXT X W B (.UnaryOp .Not a pos) (dNot da) := PT.weak (pt_not h) fun _ _ _ q => not_read q
/-- .. as values that are bools -/
def dAndV (a b : M PV) : M PV := fun s => (a s).bind fun (p, s) => match p with
  | .bl c => if c then b s else .ok (.bl false, s)
  | _ => .bad
def dOrV (a b : M PV) : M PV := fun s => (a s).bind fun (p, s) => match p with
  | .bl c => if c then .ok (.bl true, s) else b s
  | _ => .bad
theorem px_one {op : BoolOp} (h : PX X W B a va) : PX X W B (.BoolOp op [a] pos) va := pe_one h
theorem px_and (h : PX X W B a va) (k : PX X W B (.BoolOp .And (b :: rest) pos) vb) : PX X W B (.BoolOp .And (a :: b :: rest) pos) (dAndV va vb) := by
  refine PE.weak (pe_and h k) fun σ H Q ⟨s, R, q⟩ => ⟨s, R, tRa.bind (rep' := rV X B) q fun p s1 v H1 R1 x1 r1 q => ?_⟩
  cases p with
  | bl c =>
    refine ⟨c, rep_bl.mp r1, ?_⟩
    cases c with
    | true => rw [if_pos rfl]; exact ⟨s1, R1, q⟩
    | false => rw [if_neg Bool.false_ne_true]; exact q _ H1 R1 (Ext.refl H1) (rep_bl.mpr rfl)
  | _ => exact (show False from q).elim
theorem px_or (h : PX X W B a va) (k : PX X W B (.BoolOp .Or (b :: rest) pos) vb) : PX X W B (.BoolOp .Or (a :: b :: rest) pos) (dOrV va vb) := by
  refine PE.weak (pe_or h k) fun σ H Q ⟨s, R, q⟩ => ⟨s, R, tRa.bind (rep' := rV X B) q fun p s1 v H1 R1 x1 r1 q => ?_⟩
  cases p with
  | bl c =>
    refine ⟨c, rep_bl.mp r1, ?_⟩
    cases c with
    | false => rw [if_neg Bool.false_ne_true]; exact ⟨s1, R1, q⟩
    | true => rw [if_pos rfl]; exact q _ H1 R1 (Ext.refl H1) (rep_bl.mpr rfl)
  | _ => exact (show False from q).elim
/-- not x as a value, x any value -/
theorem px_not {d : M Src} (h : PXC X W B a d) : PX X W B (.UnaryOp .Not a pos) (dBl (dNot (dTru d))) := by
  refine ⟨fun pins s σ H Q I q => ?_⟩
  obtain ⟨sp, R, q⟩ := not_read (bl_read q)
  refine UnaryOp_ (thn (h.run pins s σ H (fun v H' => ∃ p b, Now X.K B.C H' p v ∧ truthV p = some b ∧ Q (.bl (!b)) H') I ⟨sp, R, tRa.bind (rep' := rB) q fun c s1 v H1 R1 x1 r1 q => ?_⟩) fun v s1 ⟨x, H1, I1, r1, p, b, n1, e1, q1⟩ => ?_)
  · obtain ⟨b, e1, q⟩ := optR_ok q
    obtain ⟨p, e2, e3⟩ := Option.bind_eq_some_iff.mp e1
    exact ⟨p, b, src_now R1 r1 e2, e3, q b H1 R1 (Ext.refl H1) rfl⟩
  · exact not_of (thn (now_tru (Q := fun b H => Q (.bl (!b)) H) I1 r1 n1 e1 q1) fun c s2 ⟨H2, I2, q2⟩ => ⟨.bl (!c), H2, I2, rfl, q2⟩)
theorem px_ife {c : Expr} {dc : M Bool} (hc : PXT X W B c dc) (ha : PX X W B a va) (hb : PX X W B b vb) : PX X W B (.IfExp c a b pos) (dIfE dc va vb) := PE.weak (pe_ifExp hc ha hb) fun _ _ _ q => ife_read q
theorem pxc_ife {c : Expr} {dc : M Bool} {ca cb : M Src} (hc : PXT X W B c dc) (ha : PXC X W B a ca) (hb : PXC X W B b cb) : PXC X W B (.IfExp c a b pos) (dIfE dc ca cb) := PE.weak (pe_ifExp hc ha hb) fun _ _ _ q => ife_read q
/-- -x -/
def dNeg (d : M PV) : M PV := fun s => (d s).bind fun (p, s) => match p with
  | .int i => .ok (.int (-i), s)
  | _ => .bad
theorem px_neg (h : PX X W B a va) : PX X W B (.UnaryOp .USub a pos) (dNeg va) := by
  refine PE.weak (pe_un un_neg h) fun σ H Q ⟨s, R, q⟩ => ⟨s, R, tRa.bind (rep' := rV X B) q fun p s1 v H1 R1 x1 r1 q => ?_⟩
  cases p with
  | int i => exact ⟨i, rep_int.mp r1, q _ H1 R1 (Ext.refl H1) (rep_int.mpr rfl)⟩
  | _ => exact (show False from q).elim

/-! ### chains -/
def dChain (g g' : PV → PV → Res PV) (a b c : M PV) : M PV := fun s => (a s).bind fun (p, s) => (b s).bind fun (q, s) => (g p q).bind fun r => match r with
  | .bl k => if k then (c s).bind fun (t, s) => (g' q t).bind fun r => .ok (r, s) else .ok (.bl false, s)
  | _ => .bad
def isBlR (g : PV → PV → Res PV) : Prop := ∀ p q r, g p q = .ok r → ∃ b, r = .bl b
theorem chain_read {g g' : PV → PV → Res PV} {a b c : M PV} (ne : NoExc g) (ne' : NoExc g') (σ : St) (H : Hp) (Q : VK) (h : tR X W B (rV X B) (dChain g g' a b c) σ H Q) :
    tR X W B (rV X B) a σ H fun x H1 => tR X W B (rV X B) b σ H1 fun y H2 => ∃ p q k, g p q = .ok (.bl k) ∧ Rep X.K B.C H2 p x ∧ Rep X.K B.C H2 q y ∧
      ∀ H3, Grow H2 H3 → (if k = true then tR X W B (rV X B) c σ H3 fun z H4 => ∃ t r, g' q t = .ok r ∧ Rep X.K B.C H4 q y ∧ Rep X.K B.C H4 t z ∧ ∀ v H', Grow H4 H' → Rep X.K B.C H' r v → Q v H' else Q (.bl false) H3) := by
  obtain ⟨s, R, h⟩ := h
  refine ⟨s, R, tRa.bind (rep' := rV X B) h fun p s1 x H1 R1 x1 r1 h => ⟨s1, R1, tRa.bind (rep' := rV X B) h fun q s2 y H2 R2 x2 r2 h => ?_⟩⟩
  obtain ⟨r, er, h⟩ := noexc (P := fun r => tRa X W B (rV X B) r σ H2 Q) (ne p q) (fun z => z) h
  cases r with
  | bl k =>
    refine ⟨p, q, k, er, Rep.ext x2 _ _ r1, r2, fun H3 gr => ?_⟩
    have R3 := R2.grow gr.ext gr
    cases k with
    | false => rw [if_neg Bool.false_ne_true]; exact h _ H3 R3 gr.ext (rep_bl.mpr rfl)
    | true =>
      rw [if_pos rfl]
      have h := tRa.mono (H1 := H3) (Q' := Q) h gr.ext fun _ _ _ q => q
      refine ⟨s2, R3, tRa.bind (rep' := rV X B) h fun t s3 z H4 R4 x4 r4 h => ?_⟩
      obtain ⟨r, er', h⟩ := noexc (P := fun r => tRa X W B (rV X B) r σ H4 Q) (ne' q t) (fun z => z) h
      exact ⟨t, r, er', Rep.ext (gr.ext.trans x4) _ _ r2, r4, fun v H' g rv => h v H' (R4.grow g.ext g) g.ext rv⟩
  | _ => exact (show False from h).elim
theorem px_chain {op op' : CmpOp} {g g' : PV → PV → Res PV} {c : Expr} {da db dc : M PV} (ho : OpV X B.C (compareOp op) g) (ne : NoExc g) (ho' : OpV X B.C (compareOp op') g') (ne' : NoExc g') (ha : PX X W B a da) (hb : PX X W B b db) (hc : PX X W B c dc)
    (hm : lastMarks [op, op'] [b, c] = false := by with_unfolding_all rfl) : PX X W B (.Compare a [op, op'] [b, c] pos) (dChain g g' da db dc) := by
  refine ⟨fun pins s σ H Q I h => ?_⟩
  have h' := chain_read ne ne' σ H Q h
  refine Compare_chain (thn (ha.run pins s σ H _ I h') fun v s1 ⟨x, H1, I1, r1, q1⟩ => chain_link (thn (hb.run pins s1 σ H1 _ I1 q1) fun u s2 ⟨y, H2, I2, r2, p, q, k, er, p1, p2, q2⟩ => ?_)) hm
  refine thn (ho p q _ er pins s2 σ H2 x y v u (fun z H3 => Rep X.K B.C H3 (.bl k) z ∧ Grow H2 H3) I2 r1 r2 ⟨p1, p2, fun _ _ g r => ⟨r, g⟩⟩) fun d s3 ⟨z, H3, I3, r3, b3, g3⟩ => ?_
  have b3 := rep_bl.mp b3
  subst b3
  cases r3
  refine wpAny_truthy_bool ?_
  have q3 := q2 H3 g3
  cases k with
  | false => exact ite_ff ⟨.bl false, H3, I3, rfl, q3⟩
  | true => exact ite_tt (chain_last (thn (hc.run pins s3 σ H3 _ I3 q3) fun w' s4 ⟨z', H4, I4, r4, t, r, er', p3, p4, q4⟩ => ho' q t r er' pins s4 σ H4 y z' u w' Q I4 r2 r4 ⟨p3, p4, q4⟩))
theorem pxt_chain {op op' : CmpOp} {g g' : PV → PV → Res PV} {c : Expr} {da db dc : M PV} (ho : OpV X B.C (compareOp op) g) (ne : NoExc g) (ho' : OpV X B.C (compareOp op') g') (ne' : NoExc g') (ha : PX X W B a da) (hb : PX X W B b db) (hc : PX X W B c dc)
    (hm : lastMarks [op, op'] [b, c] = false := by with_unfolding_all rfl) : PXT X W B (.Compare a [op, op'] [b, c] pos) (dTst (dChain g g' da db dc)) := by
  refine ⟨fun pins s σ H Q I h => ?_⟩
  have h' := chain_read ne ne' σ H _ (tst_read h)
  refine isTrue_chain (thn (ha.run pins s σ H _ I h') fun v s1 ⟨x, H1, I1, r1, q1⟩ => test_link (thn (hb.run pins s1 σ H1 _ I1 q1) fun u s2 ⟨y, H2, I2, r2, p, q, k, er, p1, p2, q2⟩ => ?_)) hm
  refine thn (ho p q _ er pins s2 σ H2 x y v u (fun z H3 => Rep X.K B.C H3 (.bl k) z ∧ Grow H2 H3) I2 r1 r2 ⟨p1, p2, fun _ _ g r => ⟨r, g⟩⟩) fun d s3 ⟨z, H3, I3, r3, b3, g3⟩ => ?_
  have b3 := rep_bl.mp b3
  subst b3
  cases r3
  refine wpAny_truthy_bool ?_
  have q3 := q2 H3 g3
  cases k with
  | false =>
    obtain ⟨k', e', q'⟩ := q3
    cases e'
    exact ite_ff ⟨H3, I3, q'⟩
  | true =>
    refine ite_tt (test_last (thn (hc.run pins s3 σ H3 _ I3 q3) fun w' s4 ⟨z', H4, I4, r4, t, r, er', p3, p4, q4⟩ => thn (ho' q t r er' pins s4 σ H4 y z' u w' _ I4 r2 r4 ⟨p3, p4, q4⟩) fun d' s5 ⟨z2, H5, I5, r5, k2, e2, q5⟩ => ?_))
    subst e2
    cases r5
    exact wpAny_truthy_bool ⟨H5, I5, q5⟩
end
end
end VL
/-! VL5: displays, items, slices, calls of built-ins. -/
namespace VL
set_option autoImplicit false
open PySem PySem.Spec PyProof.Rows L2

/-! ### lists of values -/
def dNil : M (List PV) := fun s => .ok ([], s)
def dCons (a : M PV) (r : M (List PV)) : M (List PV) := fun s => (a s).bind fun (p, s) => (r s).bind fun (ps, s) => .ok (p :: ps, s)
def itemsV : PV → Option (List PV)
  | .tup ps => some ps
  | .lst ps => some ps
  | .tix ps => some ps
  | _ => none
def dStar (a : M Src) (r : M (List PV)) : M (List PV) := fun s => (a s).bind fun (c, s) => (optR ((c.get s).bind itemsV)).bind fun ps => (r s).bind fun (qs, s) => .ok (ps ++ qs, s)
section
variable {X : Cx} {W : WX} {B : Bs} {pos : Pos} {e : Expr} {es : List Expr} {da : M PV} {dr : M (List PV)}
theorem pxa_nil : PXA X W B [] dNil := PA.weak pa_nil fun σ H Q ⟨s, R, q⟩ => q [] H R (Ext.refl H) RepL.nil
theorem pxa_cons (h : PX X W B e da) (k : PXA X W B es dr) (hs : starEach (e :: es) X.env = (false, eval e X.env) :: starEach es X.env := by rfl) : PXA X W B (e :: es) (dCons da dr) :=
  PA.weak (pa_cons h k hs) fun σ H Q ⟨s, R, q⟩ => ⟨s, R, tRa.bind (rep' := rA X B) q fun p s1 v H1 R1 x1 r1 q => ⟨s1, R1, tRa.bind (rep' := rA X B) q fun ps s2 vs H2 R2 x2 r2 q => q _ H2 R2 (Ext.refl H2) (RepL.cons (Rep.ext x2 _ _ r1) r2)⟩⟩
theorem rep_tix {K : PySem.W.Frag} {C : CloT} {H : Hp} {ps : List PV} {x : V} : Rep K C H (.tix ps) x ↔ ∃ a o xs, x = .ref a ∧ (H a = some (.frz o (.tup xs)) ∧ o.dict = none) ∧ RepL K C H ps xs := by simp only [Rep]
theorem now_items {C : CloT} {H : Hp} {p : PV} {v : V} {ps : List PV} (h : Now X.K C H p v) (e : itemsV p = some ps) : ∃ a xs, v = .ref a ∧ (SqT X.K H a xs ∨ SqL X.K H a xs) ∧ RepL X.K C H ps xs := by
  cases p with
  | tup qs => cases e; obtain ⟨a, xs, rfl, s, r⟩ := rep_tupS h; exact ⟨a, xs, rfl, .inl s, r⟩
  | lst qs => cases e; obtain ⟨a, xs, rfl, s, r⟩ := h; exact ⟨a, xs, rfl, .inr s, r⟩
  | tix qs => cases e; obtain ⟨a, o, xs, rfl, s, r⟩ := rep_tix.mp h; exact ⟨a, xs, rfl, .inl (.inl (.inr ⟨o, s.1⟩)), r⟩
  | _ => cases e
theorem pxa_star {c : M Src} {p : Pos} (h : PXC X W B e c) (k : PXA X W B es dr) (hs : starEach (.Starred e p :: es) X.env = (true, eval e X.env) :: starEach es X.env := by rfl) : PXA X W B (.Starred e p :: es) (dStar c dr) := by
  refine PA.weak (StX.pa_star h k hs) fun σ H Q ⟨s, R, q⟩ => ⟨s, R, tRa.bind (rep' := rA X B) q fun c s1 v H1 R1 x1 r1 q => ?_⟩
  obtain ⟨ps, e1, q⟩ := optR_ok q
  obtain ⟨p, e2, e3⟩ := Option.bind_eq_some_iff.mp e1
  obtain ⟨a, xs, rfl, sq, rl⟩ := now_items (src_now R1 r1 e2) e3
  exact ⟨a, xs, rfl, sq, s1, R1, tRa.bind (rep' := rA X B) q fun qs s2 vs H2 R2 x2 r2 q => q _ H2 R2 (Ext.refl H2) ((RepL.ext x2 _ _ rl).append r2)⟩

/-! ### displays -/
def dTup (d : M (List PV)) : M PV := fun s => (d s).bind fun (ps, s) => if fitsL ps.length then .ok (.tup ps, s) else .bad
def dLst (d : M (List PV)) : M PV := fun s => (d s).bind fun (ps, s) => if fitsL ps.length then .ok (.lst ps, s) else .bad
theorem px_tup {k : Nat} (h : PXA X W B es dr) : PX X W B (.Tuple es k pos) (dTup dr) := by
  refine PE.weak (pe_tup h) fun σ H Q ⟨s, R, q⟩ => ⟨s, R, tRa.bind (rep' := rV X B) q fun ps s1 vs H1 R1 x1 r1 q => ?_⟩
  dsimp only at q
  split at q
  case isFalse => exact q.elim
  rename_i hf
  exact ⟨by rw [r1.length]; exact fitsL_le hf, fun p hp => q _ _ (R1.new hp) (Ext.new hp) (rep_newT hp r1)⟩
/-- what is new is nobody's -/
theorem RelSt.lone {s : PSt} {σ : St} {H : Hp} {a : Addr} (R : RelSt X.K B s σ H) (h : H a = none) : Lone s σ a := fun i p h1 h2 => by
  obtain ⟨v, e, b, rfl, o, _⟩ := R.at_ i _ h1
  rw [h2] at e
  cases e
  obtain ⟨u, hu, _⟩ := o.get
  rw [h] at hu
  cases hu
theorem RelSt.h0 {s : PSt} {σ : St} {H : Hp} {a : Addr} (R : RelSt X.K B s σ H) (h : H a = none) : B.H0 a = none := by
  cases e : B.H0 a with
  | none => rfl
  | some o =>
    by_cases ht : ∃ ps, o = .tbl ps
    · obtain ⟨ps, rfl⟩ := ht
      obtain ⟨ps', e'⟩ := R.tbs a ps e
      rw [h] at e'
      cases e'
    · have := R.same a o e (fun z => by
        obtain ⟨⟨u, hu⟩, _⟩ := R.pt a z
        rw [h] at hu
        cases hu) fun ps z => ht ⟨ps, z⟩
      rw [h] at this
      cases this
/-- a new list -/
theorem newL_read {s : PSt} {σ : St} {H : Hp} {Q : VK} {ps : List PV} {vs : List V} {p : Addr} (R : RelSt X.K B s σ H) (r : RepL X.K B.C H ps vs) (hp : H p = none) (q : tRa X W B (rF X B) (.ok (.lst ps, s)) σ H Q) : Q (.ref p) (upd H p (.lst vs)) :=
  q _ _ (R.new hp) (Ext.new hp) ⟨p, rfl, ⟨vs, upd_same, RepL.ext (Ext.new hp) _ _ r⟩, R.h0 hp, R.lone hp⟩
theorem pf_lst (h : PXA X W B es dr) : PF X W B (.List es pos) (dLst dr) := by
  refine PE.weak (pe_lst h) fun σ H Q ⟨s, R, q⟩ => ⟨s, R, tRa.bind (rep' := rF X B) q fun ps s1 vs H1 R1 x1 r1 q => ?_⟩
  dsimp only at q
  split at q
  case isFalse => exact q.elim
  rename_i hf
  exact ⟨by rw [r1.length]; exact fitsL_le hf, fun p hp => newL_read R1 r1 hp q⟩
/-- what is new may be shared -/
theorem RelSt.share {s : PSt} {σ : St} {H : Hp} {a : Addr} {u : HO} {p : PV} (R : RelSt X.K B s σ H) (o : Own X.K B.C H p a) (n : B.H0 a = none) (l : Lone s σ a) : RelSt X.K B s σ (upd H a u) := by
  obtain ⟨w, hw, t1, _⟩ := o.get
  have x : Ext H (upd H a u) := Ext.upd hw t1
  refine ⟨R.len, fun b v hb hp ht => ?_, fun b hb => ?_, fun i lv hi => ?_, R.sep, R.sepP, tabs_upd R.tb hw t1, fun b ps e => by
    obtain ⟨ps', e'⟩ := R.tbs b ps e
    exact ⟨ps', by rw [upd_ne (fun z => by rw [z, hw] at e'; exact t1.tbl _ (Option.some.inj e'))]; exact e'⟩⟩
  · rw [upd_ne (fun z => by subst z; rw [n] at hb; cases hb)]
    exact R.same b v hb hp ht
  · have hba : b ≠ a := fun z => by subst z; exact (R.pt b hb).2 n
    rw [upd_ne hba]; exact R.pt b hb
  · obtain ⟨v, e, r⟩ := R.at_ i lv hi
    refine ⟨v, e, ?_⟩
    cases lv with
    | sh q => exact Rep.ext x _ _ r
    | ow q =>
      obtain ⟨b, eb, ob, nb⟩ := r
      subst eb
      exact ⟨b, rfl, ob.ext x (upd_ne fun z => by subst z; exact l i q hi e), nb⟩
    | po q =>
      obtain ⟨b, eb, ob, nb⟩ := r
      subst eb
      exact ⟨b, rfl, ob.ext x (upd_ne fun z => by subst z; exact (R.pt b nb).2 n), nb⟩
theorem PF.px {d : M PV} (h : PF X W B e d) : PX X W B e d := by
  refine ⟨fun pins s σ H Q I q => ?_⟩
  obtain ⟨sp, R, q⟩ := q
  refine thn (h.run pins s σ H (fun v H' => ∃ p s1 a, v = .ref a ∧ RelSt X.K B s1 σ H' ∧ Ext H H' ∧ Own X.K B.C H' p a ∧ B.H0 a = none ∧ Lone s1 σ a ∧ tRa X W B (rV X B) (.ok (p, s1)) σ H Q) I ⟨sp, R, ?_⟩) fun u s1 ⟨v, H1, I1, r1, p, s2, a, ea, R2, x2, o2, n2, l2, q2⟩ => ?_
  · cases e : d sp with
    | ok a =>
      obtain ⟨p, s1⟩ := a
      rw [e] at q
      exact fun v H' R' x' ⟨a, ea, o, n, l⟩ => ⟨p, s1, a, ea, R', x', o, n, l, q⟩
    | exc c p => rw [e] at q; exact q
    | bad => rw [e] at q; exact q
  · subst ea
    obtain ⟨w, hw, t1, t4, hr⟩ := o2.rep_frz
    obtain ⟨ob, _, J⟩ := freeze I1 hw t1.tup t1.frz t1.tbl t4
    exact ⟨_, _, J, r1, q2 _ _ (R2.share o2 n2 l2) (x2.trans (Ext.upd hw t1)) (hr ob)⟩
/-- {} -/
def dEmp : M PV := fun s => .ok (.dct [] [], s)
theorem pf_dict : PF X W B (.Dict [] [] pos) dEmp :=
  PE.weak pe_dnewK fun σ H Q ⟨s, R, q⟩ p hp => q _ _ (R.new hp) (Ext.new hp) ⟨p, rfl, ⟨rfl, [], upd_same, RepL.nil⟩, R.h0 hp, R.lone hp⟩

/-! ### items -/
def ixV (p q : PV) : Res PV := match p, q with
  | .tup ps, .int i => optR (atI ps i)
  | .lst ps, .int i => optR (atI ps i)
  | .tix ps, .int i => optR (atI ps i)
  | .str z, .int i => if fitsL z.length then (match atI z.cps.toList i with | some c => .ok (.str ⟨#[c]⟩) | none => .bad) else .bad
  | _, _ => .bad
def keyV : PV → Option Key
  | .int i => some (.inl i)
  | .str x => some (.inr x)
  | _ => none
def dIx (a : M Src) (b : M PV) : M PV := fun s => (a s).bind fun (c, s) => (b s).bind fun (q, s) => (optR (c.get s)).bind fun p => (ixV p q).bind fun r => .ok (r, s)
theorem atI_rep {C : CloT} {H : Hp} {ps : List PV} {xs : List V} {i : Int} {p : PV} (r : RepL X.K C H ps xs) (e : atI ps i = some p) : ∃ v, atI xs i = some v ∧ Rep X.K C H p v := by
  unfold atI at e ⊢
  obtain ⟨j, h1, h2⟩ := Option.bind_eq_some_iff.mp e
  obtain ⟨v, h3, h4⟩ := r.get h2
  exact ⟨v, by rw [r.length, h1]; exact h3, h4⟩
theorem px_ix {a b : Expr} {da : M Src} {db : M PV} (ha : PXC X W B a da) (hb : PX X W B b db) (hs : PlainIx b) : PX X W B (.Subscript a b pos) (dIx da db) := by
  refine PE.weak (pe_ix ix_seq ha hb hs) fun σ H Q ⟨s, R, q⟩ => ⟨s, R, tRa.bind (rep' := rV X B) q fun c s1 v H1 R1 x1 r1 q => ⟨s1, R1, tRa.bind (rep' := rV X B) q fun t s2 y H2 R2 x2 r2 q => ?_⟩⟩
  obtain ⟨p, e1, q⟩ := optR_ok q
  have n := src_now R2 (src_ext (s1 := s2) r1 x2) e1
  cases t with
  | int i =>
    have ey := rep_int.mp r2
    cases p with
    | tup ps =>
      obtain ⟨b, xs, rfl, sq, rl⟩ := rep_tupS n
      obtain ⟨p, e2, q⟩ := optR_ok q
      obtain ⟨w, e3, r3⟩ := atI_rep rl e2
      exact .inr (.inl ⟨b, xs, i, w, rfl, ey, sq, e3, q w H2 R2 (Ext.refl H2) r3⟩)
    | lst ps =>
      obtain ⟨b, xs, rfl, sq, rl⟩ := n
      obtain ⟨p, e2, q⟩ := optR_ok q
      obtain ⟨w, e3, r3⟩ := atI_rep rl e2
      exact .inl ⟨b, xs, i, w, rfl, ey, sq, e3, q w H2 R2 (Ext.refl H2) r3⟩
    | tix ps =>
      obtain ⟨b, o, xs, rfl, ⟨sq, _⟩, rl⟩ := rep_tix.mp n
      obtain ⟨p, e2, q⟩ := optR_ok q
      obtain ⟨w, e3, r3⟩ := atI_rep rl e2
      exact .inr (.inl ⟨b, xs, i, w, rfl, ey, .inl (.inr ⟨o, sq⟩), e3, q w H2 R2 (Ext.refl H2) r3⟩)
    | str z =>
      have ez := (rep_str (K := X.K) (C := B.C) (H := H2)).mp n
      simp only [ixV] at q
      split at q
      case isFalse => exact q.elim
      rename_i hf
      cases e4 : atI z.cps.toList i with
      | none => rw [e4] at q; exact q.elim
      | some c =>
        rw [e4] at q
        exact .inr (.inr ⟨z, i, c, ez, ey, fitsL_le hf, e4, q _ H2 R2 (Ext.refl H2) (rep_str.mpr rfl)⟩)
    | _ => exact (show False from q).elim
  | _ => cases p <;> exact (show False from q).elim

/-! ### slices -/
def dNo : M (Option Int) := fun s => .ok (none, s)
def dPart (d : M PV) : M (Option Int) := fun s => (d s).bind fun (p, s) => match p with
  | .int i => .ok (some i, s)
  | _ => .bad
def cutP (ps : List PV) (lo hi : Option Int) : List PV := (ps.drop (HT.sIx ps.length 0 lo)).take (HT.sIx ps.length ps.length hi - HT.sIx ps.length 0 lo)
def cutR (p : PV) (lo hi : Option Int) : Res PV := match p with
  | .tup ps => .ok (.tup (cutP ps lo hi))
  | .lst ps => .ok (.lst (cutP ps lo hi))
  | .str z => if fitsL z.length then .ok (.str (cutS z lo hi)) else .bad
  | _ => .bad
def dCut (a : M Src) (l h : M (Option Int)) : M PV := fun s => (a s).bind fun (c, s) => (l s).bind fun (l, s) => (h s).bind fun (h, s) => (optR (c.get s)).bind fun p => (cutR p l h).bind fun r => .ok (r, s)
abbrev rO : PSt → St → Hp → Option Int → Option Int → Prop := fun _ _ _ a b => a = b
def PXO (X : Cx) (W : WX) (B : Bs) (e : Option Expr) (d : M (Option Int)) : Prop := PO X e (tR X W B rO d)
theorem pxo_none : PXO X W B none dNo := ⟨fun pins s σ H Q I ⟨sp, R, q⟩ => po_none.run pins s σ H Q I (q none H R (Ext.refl H) rfl)⟩
theorem pxo_some (h : PX X W B e da) : PXO X W B (some e) (dPart da) := ⟨fun pins s σ H Q I ⟨sp, R, q⟩ => (po_some h).run pins s σ H Q I ⟨sp, R, tRa.bind (rep' := rO) q fun p s1 v H1 R1 x1 r1 q => by
  cases p with
  | int i => exact ⟨i, rep_int.mp r1, q _ H1 R1 (Ext.refl H1) rfl⟩
  | _ => exact (show False from q).elim⟩⟩
theorem cutP_rep {C : CloT} {H : Hp} {ps : List PV} {xs : List V} {lo hi : Option Int} (r : RepL X.K C H ps xs) : RepL X.K C H (cutP ps lo hi) (cutV xs lo hi) := by
  unfold cutP cutV
  rw [r.length]
  exact (r.drop _).take _
theorem cutP_whole {ps : List PV} {lo hi : Option Int} (h : HT.sIx ps.length 0 lo = 0 ∧ HT.sIx ps.length ps.length hi = ps.length) : cutP ps lo hi = ps := by
  unfold cutP
  rw [h.1, h.2, List.drop_zero, Nat.sub_zero, List.take_length]
/-- a slice: of a tuple; of a list, shared -/
theorem px_cut {a : Expr} {lo hi : Option Expr} {da : M Src} {dl dh : M (Option Int)} {p2 : Pos} (ha : PXC X W B a da) (hl : PXO X W B lo dl) (hh : PXO X W B hi dh) : PX X W B (.Subscript a (.Slice lo hi none p2) pos) (dCut da dl dh) := by
  refine ⟨fun pins s σ H Q I h => ?_⟩
  have key : SlR X (fun x lo hi H Q => (rSlA X.K x lo hi H Q ∨ rSlL X.K x lo hi H Q) ∨ rSlS x lo hi H Q) := SlR.or (SlR.or sl_tupA sl_list) sl_str
  refine thn ((pe_slice (p2 := p2) (pos := pos) key ha hl hh).run pins s σ H (fun v H' => Q v H' ∨ ∃ b xs ps s2 H2, v = .ref b ∧ H2 b = none ∧ H' = upd H2 b (.lst xs) ∧ RepL X.K B.C H2 ps xs ∧ RelSt X.K B s2 σ H2 ∧ tRa X W B (rV X B) (.ok (.lst ps, s2)) σ H2 Q) I ?_) fun u s1 ⟨v, H1, I1, r1, q1⟩ => ?_
  · obtain ⟨s, R, q⟩ := h
    refine ⟨s, R, tRa.bind (rep' := rV X B) q fun c s1 v H1 R1 x1 r1 q => ⟨s1, R1, tRa.bind (rep' := rV X B) q fun l s2 l' H2 R2 x2 r2 q => ⟨s2, R2, tRa.bind (rep' := rV X B) q fun u s3 u' H3 R3 x3 r3 q => ?_⟩⟩⟩
    cases r2
    cases r3
    obtain ⟨p, e1, q⟩ := optR_ok q
    have n := src_now R3 (src_ext (s1 := s3) r1 (x2.trans x3)) e1
    cases p with
    | tup ps =>
      obtain ⟨b, xs, rfl, sq, rl⟩ := rep_tupS n
      refine .inl (.inl ⟨b, xs, rfl, sq, fun hw => .inl ?_, fun _ p hp => .inl (q _ _ (R3.new hp) (Ext.new hp) (rep_newT hp (cutP_rep rl)))⟩)
      rw [rl.length] at hw
      have q : tRa X W B (rV X B) (.ok (.tup (cutP ps l u), s3)) σ H3 Q := q
      rw [cutP_whole hw] at q
      exact q _ H3 R3 (Ext.refl H3) n
    | lst ps =>
      obtain ⟨b, xs, rfl, sq, rl⟩ := n
      exact .inl (.inr ⟨b, xs, rfl, sq, fun p hp => .inr ⟨p, _, _, s3, H3, rfl, hp, rfl, cutP_rep rl, R3, q⟩⟩)
    | str z =>
      have n : Rep X.K B.C H3 (.str z) v := n
      have n := rep_str.mp n
      subst n
      by_cases hz : fitsL z.length = true
      · unfold cutR at q
        dsimp only at q
        rw [if_pos hz] at q
        exact .inr ⟨z, rfl, fitsL_le hz, .inl (q _ H3 R3 (Ext.refl H3) (rep_str.mpr rfl))⟩
      · unfold cutR at q
        dsimp only at q
        rw [if_neg hz] at q
        exact (show False from q).elim
    | _ => exact (show False from q).elim
  · rcases q1 with q1 | ⟨b, xs, ps, s2, H2, rfl, hb, rfl, rl, R2, q2⟩
    · exact ⟨v, H1, I1, r1, q1⟩
    · obtain ⟨o, J⟩ := frz_new I1
      exact ⟨_, _, J, r1, q2 _ _ (R2.new hb) (Ext.new hb) (rep_newL hb rl)⟩

/-! ### calls of built-ins of one thing -/
/-- a call by values: f of what is told by p comes to r -/
def Call1 (X : Cx) (C : CloT) (f : Value) (g : PV → Res PV) : Prop :=
  ∀ (p r : PV), g p = .ok r → CallR X f (fun xs H Q => ∃ x, xs = [x] ∧ Now X.K C H p x ∧ ∀ v H', Grow H H' → Rep X.K C H' r v → Q v H')
/-- .. to a new list -/
def Call1F (X : Cx) (C : CloT) (f : Value) (g : PV → Res (List PV)) : Prop :=
  ∀ (p : PV) (r : List PV), g p = .ok r → CallR X f (fun xs H Q => ∃ x, xs = [x] ∧ Now X.K C H p x ∧ ∀ a vs H', H a = none → Ext H H' → (∀ b o, H b = some o → H' b = some o) → H' a = some (.lst vs) → RepL X.K C H' r vs → Q (.ref a) H')
def dC1 (g : PV → Res PV) (a : M Src) : M PV := fun s => (a s).bind fun (c, s) => (optR (c.get s)).bind fun p => (g p).bind fun r => .ok (r, s)
def dC1F (g : PV → Res (List PV)) (a : M Src) : M PV := fun s => (a s).bind fun (c, s) => (optR (c.get s)).bind fun p => (g p).bind fun r => .ok (.lst r, s)
def NoEx1 {α : Type} (g : PV → Res α) : Prop := ∀ p c v, g p ≠ .exc c v
theorem ne1 {α β γ : Type} {rep : PSt → St → Hp → β → γ → Prop} {r : Res α} {f : α → Res (β × PSt)} {σ : St} {H : Hp} {Q : γ → Hp → Prop} (n : ∀ c v, r ≠ .exc c v) (h : tRa X W B rep (r.bind f) σ H Q) : ∃ a, r = .ok a ∧ tRa X W B rep (f a) σ H Q := by
  cases r with
  | ok a => exact ⟨a, rfl, h⟩
  | exc c v => exact absurd rfl (n c v)
  | bad => exact h.elim
theorem px_b1 {id : String} {x : Str} {a : Expr} {da : M Src} {g : PV → Res PV} {p : Pos} (hc : Call1 X B.C (.builtin id) g) (ne : NoEx1 g) (hg : Gl X x) (hm : X.mg x = none) (hv : bootBuiltins x = some (.builtin id)) (ha : PXC X W B a da)
    (na : starEach [a] X.env = (false, eval a X.env) :: starEach [] X.env := by rfl) (hn : x ≠ "__name__" := by decide) (hdb : (x == ("__debug__" : Str)) = false := by decide) : PX X W B (.Call (.Name x p) [a] [] pos) (dC1 g da) := by
  refine ⟨fun pins s σ H Q I h => ?_⟩
  obtain ⟨s0, R, h⟩ := h
  have hc' : CallR X (.builtin id) (fun xs H Q => ∃ p r, g p = .ok r ∧ ∃ x, xs = [x] ∧ Now X.K B.C H p x ∧ ∀ v H', Grow H H' → Rep X.K B.C H' r v → Q v H') := fun pins s σ H xs us Q I r ⟨p, r', e, q⟩ => hc p r' e pins s σ H xs us Q I r q
  refine (pe_callB (pos := pos) (p := p) hc' hg hm hv (pa_cons ha pa_nil na) hn hdb na).run pins s σ H Q I ⟨s0, R, tRa.bind (rep' := rV X B) h fun c s1 v H1 R1 x1 r1 q => ?_⟩
  obtain ⟨p, e1, q⟩ := optR_ok q
  obtain ⟨r, e2, q⟩ := ne1 (ne p) q
  exact ⟨p, r, e2, v, rfl, src_now R1 r1 e1, fun w H' gr rw' => q w H' (R1.grow gr.ext gr) gr.ext rw'⟩
theorem px_t1 {T : String} {x : Str} {a : Expr} {da : M Src} {g : PV → Res PV} {p : Pos} (hc : Call1 X B.C (.type T) g) (ne : NoEx1 g) (hg : Gl X x) (hm : X.mg x = none) (hv : bootBuiltins x = some (.type T)) (ha : PXC X W B a da)
    (na : starEach [a] X.env = (false, eval a X.env) :: starEach [] X.env := by rfl) (hn : x ≠ "__name__" := by decide) (hdb : (x == ("__debug__" : Str)) = false := by decide) : PX X W B (.Call (.Name x p) [a] [] pos) (dC1 g da) := by
  refine ⟨fun pins s σ H Q I h => ?_⟩
  obtain ⟨s0, R, h⟩ := h
  have hc' : CallR X (.type T) (fun xs H Q => ∃ p r, g p = .ok r ∧ ∃ x, xs = [x] ∧ Now X.K B.C H p x ∧ ∀ v H', Grow H H' → Rep X.K B.C H' r v → Q v H') := fun pins s σ H xs us Q I r ⟨p, r', e, q⟩ => hc p r' e pins s σ H xs us Q I r q
  refine (pe_callTy (pos := pos) (p := p) hc' hg hm hv (pa_cons ha pa_nil na) hn hdb na).run pins s σ H Q I ⟨s0, R, tRa.bind (rep' := rV X B) h fun c s1 v H1 R1 x1 r1 q => ?_⟩
  obtain ⟨p, e1, q⟩ := optR_ok q
  obtain ⟨r, e2, q⟩ := ne1 (ne p) q
  exact ⟨p, r, e2, v, rfl, src_now R1 r1 e1, fun w H' gr rw' => q w H' (R1.grow gr.ext gr) gr.ext rw'⟩
theorem newF {s : PSt} {σ : St} {H H' : Hp} {Q : VK} {ps : List PV} {vs : List V} {a : Addr} (R : RelSt X.K B s σ H) (ha : H a = none) (x : Ext H H') (k : ∀ b o, H b = some o → H' b = some o) (e : H' a = some (.lst vs)) (r : RepL X.K B.C H' ps vs) (q : tRa X W B (rF X B) (.ok (.lst ps, s)) σ H Q) : Q (.ref a) H' :=
  q _ _ (R.grow x k) x ⟨a, rfl, ⟨vs, e, r⟩, R.h0 ha, R.lone ha⟩
theorem pf_b1 {id : String} {x : Str} {a : Expr} {da : M Src} {g : PV → Res (List PV)} {p : Pos} (hc : Call1F X B.C (.builtin id) g) (ne : NoEx1 g) (hg : Gl X x) (hm : X.mg x = none) (hv : bootBuiltins x = some (.builtin id)) (ha : PXC X W B a da)
    (na : starEach [a] X.env = (false, eval a X.env) :: starEach [] X.env := by rfl) (hn : x ≠ "__name__" := by decide) (hdb : (x == ("__debug__" : Str)) = false := by decide) : PF X W B (.Call (.Name x p) [a] [] pos) (dC1F g da) := by
  refine ⟨fun pins s σ H Q I h => ?_⟩
  obtain ⟨s0, R, h⟩ := h
  have hc' : CallR X (.builtin id) (fun xs H Q => ∃ p r, g p = .ok r ∧ ∃ x, xs = [x] ∧ Now X.K B.C H p x ∧ ∀ a vs H', H a = none → Ext H H' → (∀ b o, H b = some o → H' b = some o) → H' a = some (.lst vs) → RepL X.K B.C H' r vs → Q (.ref a) H') := fun pins s σ H xs us Q I r ⟨p, r', e, q⟩ => hc p r' e pins s σ H xs us Q I r q
  refine (pe_callB (pos := pos) (p := p) hc' hg hm hv (pa_cons ha pa_nil na) hn hdb na).run pins s σ H Q I ⟨s0, R, tRa.bind (rep' := rF X B) h fun c s1 v H1 R1 x1 r1 q => ?_⟩
  obtain ⟨p, e1, q⟩ := optR_ok q
  obtain ⟨r, e2, q⟩ := ne1 (ne p) q
  exact ⟨p, r, e2, v, rfl, src_now R1 r1 e1, fun a vs H' ha x k e r => newF R1 ha x k e r q⟩
theorem pf_t1 {T : String} {x : Str} {a : Expr} {da : M Src} {g : PV → Res (List PV)} {p : Pos} (hc : Call1F X B.C (.type T) g) (ne : NoEx1 g) (hg : Gl X x) (hm : X.mg x = none) (hv : bootBuiltins x = some (.type T)) (ha : PXC X W B a da)
    (na : starEach [a] X.env = (false, eval a X.env) :: starEach [] X.env := by rfl) (hn : x ≠ "__name__" := by decide) (hdb : (x == ("__debug__" : Str)) = false := by decide) : PF X W B (.Call (.Name x p) [a] [] pos) (dC1F g da) := by
  refine ⟨fun pins s σ H Q I h => ?_⟩
  obtain ⟨s0, R, h⟩ := h
  have hc' : CallR X (.type T) (fun xs H Q => ∃ p r, g p = .ok r ∧ ∃ x, xs = [x] ∧ Now X.K B.C H p x ∧ ∀ a vs H', H a = none → Ext H H' → (∀ b o, H b = some o → H' b = some o) → H' a = some (.lst vs) → RepL X.K B.C H' r vs → Q (.ref a) H') := fun pins s σ H xs us Q I r ⟨p, r', e, q⟩ => hc p r' e pins s σ H xs us Q I r q
  refine (pe_callTy (pos := pos) (p := p) hc' hg hm hv (pa_cons ha pa_nil na) hn hdb na).run pins s σ H Q I ⟨s0, R, tRa.bind (rep' := rF X B) h fun c s1 v H1 R1 x1 r1 q => ?_⟩
  obtain ⟨p, e1, q⟩ := optR_ok q
  obtain ⟨r, e2, q⟩ := ne1 (ne p) q
  exact ⟨p, r, e2, v, rfl, src_now R1 r1 e1, fun a vs H' ha x k e r => newF R1 ha x k e r q⟩
end
end VL
/-! VL6: the built-ins. -/
namespace VL
set_option autoImplicit false
open PySem PySem.Spec PyProof.Rows L2
def lenV : PV → Res PV
  | .tup ps => .ok (.int ps.length)
  | .lst ps => .ok (.int ps.length)
  | .dct ks _ => .ok (.int ks.length)
  | .str x => if fitsL x.length then .ok (.int x.length) else .bad
  | _ => .bad
def absV' : PV → Res PV
  | .int i => .ok (.int (if i < 0 then -i else i))
  | _ => .bad
def intV : PV → Res PV
  | .int i => .ok (.int i)
  | .bl b => .ok (.int (if b then 1 else 0))
  | _ => .bad
def tupleV : PV → Res PV
  | .tup ps => .ok (.tup ps)
  | .lst ps => .ok (.tup ps)
  | _ => .bad
def listV : PV → Res (List PV)
  | .tup ps => .ok ps
  | .lst ps => .ok ps
  | _ => .bad
def intsV : List PV → Option (List Int)
  | [] => some []
  | .int i :: ps => (intsV ps).map (i :: ·)
  | .bl b :: ps => none
  | _ => none
def sumV (p : PV) : Res PV := (optR ((itemsV p).bind intsV)).bind fun ns => .ok (.int ns.sum)
def okT : PV → Bool
  | .str x => fitsL x.length
  | .lst xs => fitsL xs.length
  | .tup xs => fitsL xs.length
  | _ => true
def truB (p : PV) : Bool := PySem.PyData.truthy p.toD
def allV (p : PV) : Res PV := (optR (itemsV p)).bind fun ps => if isDataL ps && ps.all okT then .ok (.bl (ps.all truB)) else .bad
def anyV (p : PV) : Res PV := (optR (itemsV p)).bind fun ps => if isDataL ps && ps.all okT then .ok (.bl (ps.any truB)) else .bad
def leB (p q : PV) : Bool := !ltB q p
def isTup1 : PV → Bool
  | .tup (_ :: _) => true
  | _ => false
def isOther : PV → Bool
  | .tup _ => false
  | .non => false
  | _ => true
def sortOk (ps : List PV) : Bool := (ps.all okD && (fitsL ps.length && (ps.all isTup1 || ps.all isOther))) && ps.all fun p => ps.all fun q => PySem.W.alike p.toD q.toD
def sortedV (p : PV) : Res (List PV) := (optR (itemsV p)).bind fun ps => if sortOk ps then .ok (ps.mergeSort leB) else .bad
section
variable {X : Cx} {C : CloT}
theorem now_int {H : Hp} {i : Int} {v : V} (h : Now X.K C H (.int i) v) : v = .int i := (rep_int (K := X.K) (C := C) (H := H)).mp h
theorem now_bl {H : Hp} {i : Bool} {v : V} (h : Now X.K C H (.bl i) v) : v = .bl i := (rep_bl (K := X.K) (C := C) (H := H)).mp h
theorem now_str {H : Hp} {i : Str} {v : V} (h : Now X.K C H (.str i) v) : v = .str i := (rep_str (K := X.K) (C := C) (H := H)).mp h
theorem now_non {H : Hp} {v : V} (h : Now X.K C H .non v) : v = .non := (rep_non (K := X.K) (C := C) (H := H)).mp h
theorem c1_len : Call1 X C (.builtin "len") lenV := by
  intro p r e pins s σ H xs us Q I rv ⟨x, ex, n, k⟩
  subst ex
  cases p with
  | tup ps =>
    cases e
    obtain ⟨a, ys, rfl, sq, rl⟩ := rep_tupS n
    exact call_len_seq pins s σ H _ us Q I rv ⟨a, ys, rfl, .inr sq, by rw [rl.length]; exact k _ H (Grow.refl H) (rep_int.mpr rfl)⟩
  | lst ps =>
    cases e
    obtain ⟨a, ys, rfl, sq, rl⟩ := n
    exact call_len_seq pins s σ H _ us Q I rv ⟨a, ys, rfl, .inl sq, by rw [rl.length]; exact k _ H (Grow.refl H) (rep_int.mpr rfl)⟩
  | dct ks ps =>
    cases e
    obtain ⟨a, ys, rfl, l, rd, rl⟩ := n
    obtain ⟨u, rfl, r1⟩ := vals1 rv
    cases r1
    refine d_len I rd fun t s' J => ⟨.int _, H, J, ⟨t, rfl⟩, ?_⟩
    have e1 : (ks.zip ys).length = ks.length := by rw [List.length_zip, rl.length, ← l]; exact Nat.min_self _
    rw [e1]
    exact k _ H (Grow.refl H) (rep_int.mpr rfl)
  | str x =>
    have ex := now_str n
    subst ex
    simp only [lenV] at e
    split at e
    case isFalse => cases e
    rename_i hf
    cases e
    exact call_len_str pins s σ H _ us Q I rv ⟨x, rfl, fitsL_le hf, k _ H (Grow.refl H) (rep_int.mpr rfl)⟩
  | _ => cases e
theorem n1_len : NoEx1 lenV := by
  intro p c v
  cases p <;> simp only [lenV, ne_eq, reduceCtorEq, not_false_eq_true] <;> split <;> simp only [reduceCtorEq, not_false_eq_true]
theorem c1_abs : Call1 X C (.builtin "abs") absV' := by
  intro p r e pins s σ H xs us Q I rv ⟨x, ex, n, k⟩
  cases p with
  | int i => cases e; have ei := now_int n; subst ei; exact call_abs pins s σ H _ us Q I rv ⟨i, ex, k _ H (Grow.refl H) (rep_int.mpr rfl)⟩
  | _ => cases e
theorem n1_abs : NoEx1 absV' := by
  intro p c v
  cases p <;> simp only [absV', ne_eq, reduceCtorEq, not_false_eq_true]
theorem c1_int : Call1 X C (.type "int") intV := by
  intro p r e pins s σ H xs us Q I rv ⟨x, ex, n, k⟩
  cases p with
  | int i => cases e; have ei := now_int n; subst ei; exact call_int1 pins s σ H _ us Q I rv (.inl ⟨i, ex, k _ H (Grow.refl H) (rep_int.mpr rfl)⟩)
  | bl b => cases e; have ei := now_bl n; subst ei; exact call_int1 pins s σ H _ us Q I rv (.inr ⟨b, ex, k _ H (Grow.refl H) (rep_int.mpr rfl)⟩)
  | _ => cases e
theorem n1_int : NoEx1 intV := by
  intro p c v
  cases p <;> simp only [intV, ne_eq, reduceCtorEq, not_false_eq_true]
theorem c1_tuple : Call1 X C (.type "tuple") tupleV := by
  intro p r e pins s σ H xs us Q I rv ⟨x, ex, n, k⟩
  subst ex
  cases p with
  | tup ps =>
    cases e
    obtain ⟨a, ys, rfl, sq, rl⟩ := rep_tupS n
    exact call_tuple_of pins s σ H _ us Q I rv ⟨a, ys, rfl, .inr ⟨sq, k _ H (Grow.refl H) n⟩⟩
  | lst ps =>
    cases e
    obtain ⟨a, ys, rfl, sq, rl⟩ := n
    exact call_tuple_of pins s σ H _ us Q I rv ⟨a, ys, rfl, .inl ⟨sq, fun l hl => k _ _ (Grow.new hl) (rep_newT hl rl)⟩⟩
  | _ => cases e
theorem n1_tuple : NoEx1 tupleV := by
  intro p c v
  cases p <;> simp only [tupleV, ne_eq, reduceCtorEq, not_false_eq_true]
theorem c1_list : Call1F X C (.type "list") listV := by
  intro p r e pins s σ H xs us Q I rv ⟨x, ex, n, k⟩
  subst ex
  have go : ∀ a ys, x = .ref a → (SqL X.K H a ys ∨ SqT X.K H a ys) → RepL X.K C H r ys → wpAny (model X.prog X.w) X.A (call (.type "list") us) (EP X pins σ Q) X.xe s := fun a ys ea sq rl => by
    subst ea
    exact call_list_of pins s σ H _ us Q I rv ⟨a, ys, rfl, sq, fun l hl => k l ys _ hl (Ext.new hl) (Grow.new hl) upd_same (RepL.ext (Ext.new hl) _ _ rl)⟩
  cases p with
  | tup ps => cases e; obtain ⟨a, ys, rfl, sq, rl⟩ := rep_tupS n; exact go a ys rfl (.inr sq) rl
  | lst ps => cases e; obtain ⟨a, ys, rfl, sq, rl⟩ := n; exact go a ys rfl (.inl sq) rl
  | _ => cases e
theorem n1_list : NoEx1 listV := by
  intro p c v
  cases p <;> simp only [listV, ne_eq, reduceCtorEq, not_false_eq_true]
theorem intsV_rep {H : Hp} : ∀ {ps : List PV} {ns : List Int} {xs : List V}, intsV ps = some ns → RepL X.K C H ps xs → xs = ns.map V.int
  | [], ns, xs, e, r => by cases e; simp only [RepL] at r; subst r; rfl
  | p :: ps, ns, xs, e, r => by
    obtain ⟨y, ys, rfl, r1, r2⟩ := r.head
    cases p with
    | int i =>
      simp only [intsV, Option.map_eq_some_iff] at e
      obtain ⟨ms, e1, rfl⟩ := e
      rw [rep_int.mp r1, intsV_rep e1 r2]
      rfl
    | _ => cases e
theorem ok_bind {α β : Type} {o : Option α} {f : α → Res β} {b : β} (h : (optR o).bind f = .ok b) : ∃ a, o = some a ∧ f a = .ok b := by
  cases o with
  | some a => exact ⟨a, rfl, h⟩
  | none => cases h
theorem ne_bind {α β : Type} {o : Option α} {f : α → Res β} {c : Str} {v : PV} (h : ∀ a, f a ≠ .exc c v) : (optR o).bind f ≠ .exc c v := by
  cases o with
  | some a => exact h a
  | none => intro z; cases z
theorem tup_list {pins : List (Addr × Obj)} {σ : St} {H : Hp} {s : Shared} {a : Addr} {ys : List V} (I : Inv X pins σ H s) (sq : SqT X.K H a ys ∨ SqL X.K H a ys) : ∃ its : List Value, Vals ys its ∧ (s.heap.IsTuple a its.toArray ∨ s.heap.IsList a its.toArray) := by
  rcases sq with sq | sq
  · obtain ⟨its, rv, p, _⟩ := I.tuple sq
    exact ⟨its, rv, .inl p⟩
  · obtain ⟨its, rv, p, _⟩ := I.list sq
    exact ⟨its, rv, .inr p.isList⟩

/-! ### any, all, min, max, sum, sorted -/
theorem units_depth {A : Around} {ps : List PV} (hu : A.units + 64 < cLine) (h : ps.all okD = true) : A.units + 1 + PyData.depthAll (toDL ps) < cLine := by
  have key : ∀ qs : List PV, (∀ p ∈ qs, p.toD.depth ≤ 60) → PyData.depthAll (toDL qs) ≤ 60 := by
    intro qs
    induction qs with
    | nil => intro _; simp only [toDL, PyData.depthAll]; exact Nat.zero_le _
    | cons q qs ih =>
      intro hq
      simp only [toDL, PyData.depthAll]
      exact Nat.max_le.mpr ⟨hq q List.mem_cons_self, ih fun p hp => hq p (List.mem_cons_of_mem _ hp)⟩
  have := key ps fun p hp => (okD_d (List.all_eq_true.mp h p hp)).2
  omega
theorem fits_of {p : PV} (h : okT p = true) : p.toD.fits63 := by
  have hs : sizeLine = 16777216 := sizeLine_eq
  cases p with
  | str x => simp only [PV.toD]; have := fitsL_le (n := x.length) h; show (x.length : Int) < 2 ^ 63; omega
  | lst xs => simp only [PV.toD]; have := fitsL_le (n := xs.length) h; show ((toDL xs).length : Int) < 2 ^ 63; rw [toDL_eq, List.length_map]; omega
  | tup xs => simp only [PV.toD]; have := fitsL_le (n := xs.length) h; show ((toDL xs).length : Int) < 2 ^ 63; rw [toDL_eq, List.length_map]; omega
  | _ => simp only [PV.toD]; trivial
theorem any_toD (ps : List PV) : (toDL ps).any PyData.truthy = ps.any truB := by rw [toDL_eq, List.any_map]; rfl
theorem all_toD (ps : List PV) : (toDL ps).all PyData.truthy = ps.all truB := by rw [toDL_eq, List.all_map]; rfl
theorem fits_all {ps : List PV} (h : ps.all okT = true) : ∀ d ∈ toDL ps, d.fits63 := by
  intro d hd
  rw [toDL_eq] at hd
  obtain ⟨p, hp, rfl⟩ := List.mem_map.mp hd
  exact fits_of (List.all_eq_true.mp h p hp)
theorem c1_any (hc : X.calm = true) : Call1 X C (.builtin "any") anyV := by
  intro p r e pins s σ H xs us Q I rv ⟨x, ex, n, k⟩
  subst ex
  obtain ⟨ps, e1, e⟩ := ok_bind e
  split at e
  case isFalse => cases e
  rename_i hf
  cases e
  rw [Bool.and_eq_true] at hf
  obtain ⟨a, ys, rfl, sq, rl⟩ := now_items n e1
  obtain ⟨its, rv2, hl⟩ := tup_list I sq
  obtain ⟨u, rfl, r1⟩ := vals1 rv
  cases r1
  obtain ⟨as, ra⟩ := RepL.reads I ps ys its rl rv2 hf.1
  have fin : ∀ h' tk, (∀ b o, s.heap.get? b = some o → h'.get? b = some o) → EP X pins σ Q (.bool ((toDL ps).any PyData.truthy)) { s with heap := h', toks := tk } := fun h' tk kp => by
    rw [any_toD]
    exact ⟨.bl _, H, I.kept kp, rfl, k _ H (Grow.refl H) (rep_bl.mpr rfl)⟩
  rcases hl with hl | hl
  · exact PySem.W.any_tuple_data (I.ok.hd hc) hl ra (toDL_plain ps hf.1) (fits_all hf.2) fin
  · exact PySem.W.any_list_data (I.ok.hd hc) hl ra (toDL_plain ps hf.1) (fits_all hf.2) fin
theorem c1_all (hc : X.calm = true) : Call1 X C (.builtin "all") allV := by
  intro p r e pins s σ H xs us Q I rv ⟨x, ex, n, k⟩
  subst ex
  obtain ⟨ps, e1, e⟩ := ok_bind e
  split at e
  case isFalse => cases e
  rename_i hf
  cases e
  rw [Bool.and_eq_true] at hf
  obtain ⟨a, ys, rfl, sq, rl⟩ := now_items n e1
  obtain ⟨its, rv2, hl⟩ := tup_list I sq
  obtain ⟨u, rfl, r1⟩ := vals1 rv
  cases r1
  obtain ⟨as, ra⟩ := RepL.reads I ps ys its rl rv2 hf.1
  have fin : ∀ h' tk, (∀ b o, s.heap.get? b = some o → h'.get? b = some o) → EP X pins σ Q (.bool ((toDL ps).all PyData.truthy)) { s with heap := h', toks := tk } := fun h' tk kp => by
    rw [all_toD]
    exact ⟨.bl _, H, I.kept kp, rfl, k _ H (Grow.refl H) (rep_bl.mpr rfl)⟩
  rcases hl with hl | hl
  · exact PySem.W.all_tuple_data (I.ok.hd hc) hl ra (toDL_plain ps hf.1) (fits_all hf.2) fin
  · exact PySem.W.all_list_data (I.ok.hd hc) hl ra (toDL_plain ps hf.1) (fits_all hf.2) fin
theorem n1_any : NoEx1 anyV := fun p c v => ne_bind fun a => by split <;> simp only [ne_eq, reduceCtorEq, not_false_eq_true]
theorem n1_all : NoEx1 allV := fun p c v => ne_bind fun a => by split <;> simp only [ne_eq, reduceCtorEq, not_false_eq_true]
def minB (x : PV) (xs : List PV) : PV := xs.foldl (fun m y => if ltB y m then y else m) x
def maxB (x : PV) (xs : List PV) : PV := xs.foldl (fun m y => if ltB m y then y else m) x
theorem minB_toD : ∀ (xs : List PV) (x : PV), (minB x xs).toD = PySem.W.minD x.toD (toDL xs)
  | [], x => by simp only [minB, toDL, PySem.W.minD, List.foldl_nil]
  | y :: ys, x => by
    have ih := minB_toD ys (if ltB y x then y else x)
    simp only [minB, toDL, PySem.W.minD, List.foldl_cons] at ih ⊢
    rw [ih]
    congr 1
    unfold ltB
    split <;> rfl
theorem maxB_toD : ∀ (xs : List PV) (x : PV), (maxB x xs).toD = PySem.W.maxD x.toD (toDL xs)
  | [], x => by simp only [maxB, toDL, PySem.W.maxD, List.foldl_nil]
  | y :: ys, x => by
    have ih := maxB_toD ys (if ltB x y then y else x)
    simp only [maxB, toDL, PySem.W.maxD, List.foldl_cons] at ih ⊢
    rw [ih]
    congr 1
    unfold ltB
    split <;> rfl
theorem minB_mem : ∀ (xs : List PV) (x : PV), minB x xs ∈ x :: xs
  | [], x => List.mem_cons_self
  | y :: ys, x => by
    have ih := minB_mem ys (if ltB y x then y else x)
    show minB (if ltB y x then y else x) ys ∈ _
    rcases List.mem_cons.mp ih with e | e
    · rw [e]; split
      · exact List.mem_cons_of_mem _ List.mem_cons_self
      · exact List.mem_cons_self
    · exact List.mem_cons_of_mem _ (List.mem_cons_of_mem _ e)
theorem maxB_mem : ∀ (xs : List PV) (x : PV), maxB x xs ∈ x :: xs
  | [], x => List.mem_cons_self
  | y :: ys, x => by
    have ih := maxB_mem ys (if ltB x y then y else x)
    show maxB (if ltB x y then y else x) ys ∈ _
    rcases List.mem_cons.mp ih with e | e
    · rw [e]; split
      · exact List.mem_cons_of_mem _ List.mem_cons_self
      · exact List.mem_cons_self
    · exact List.mem_cons_of_mem _ (List.mem_cons_of_mem _ e)
def cmpOkL (ps : List PV) : Bool := (ps.all okD && ps.all fun p => !isNon p) && ps.all fun p => ps.all fun q => PySem.W.alike p.toD q.toD
def minV (p : PV) : Res PV := (optR (itemsV p)).bind fun ps => match ps with
  | [] => .bad
  | x :: xs => if cmpOkL (x :: xs) then .ok (minB x xs) else .bad
def maxV (p : PV) : Res PV := (optR (itemsV p)).bind fun ps => match ps with
  | [] => .bad
  | x :: xs => if cmpOkL (x :: xs) then .ok (maxB x xs) else .bad
theorem n1_min : NoEx1 minV := fun p c v => ne_bind fun a => by
  split
  · simp only [ne_eq, reduceCtorEq, not_false_eq_true]
  · split <;> simp only [ne_eq, reduceCtorEq, not_false_eq_true]
theorem n1_max : NoEx1 maxV := fun p c v => ne_bind fun a => by
  split
  · simp only [ne_eq, reduceCtorEq, not_false_eq_true]
  · split <;> simp only [ne_eq, reduceCtorEq, not_false_eq_true]
theorem cmpOkL_d {ps : List PV} (h : cmpOkL ps = true) : ps.all okD = true ∧ isDataL ps = true ∧ PySem.W.AlikeAll (toDL ps) := by
  unfold cmpOkL at h
  simp only [Bool.and_eq_true] at h
  obtain ⟨⟨h1, h2⟩, h3⟩ := h
  have h1' := List.all_eq_true.mp h1
  have h2' := List.all_eq_true.mp h2
  have h3' := List.all_eq_true.mp h3
  refine ⟨h1, by rw [isDataL_eq, List.all_eq_true]; exact fun p hp => (okD_d (h1' p hp)).1, fun d hd d' hd' => ?_, fun d hd => ?_⟩
  · rw [toDL_eq] at hd hd'
    obtain ⟨p, hp, rfl⟩ := List.mem_map.mp hd
    obtain ⟨q, hq, rfl⟩ := List.mem_map.mp hd'
    exact List.all_eq_true.mp (h3' p hp) q hq
  · rw [toDL_eq] at hd
    obtain ⟨p, hp, rfl⟩ := List.mem_map.mp hd
    exact toD_ne (okD_d (h1' p hp)).1 (by simpa only [Bool.not_eq_true'] using h2' p hp)
/-- one of the items, by what it reads as -/
theorem item_of {pins : List (Addr × Obj)} {σ : St} {H : Hp} {s : Shared} {ps : List PV} {ys : List V} {its : List Value} {m : PV} {i : Nat} {v : Value} {h' : Heap} {bs : List Addr} (I : Inv X pins σ H s) (rl : RepL X.K C H ps ys) (rv : Vals ys its) (hd : isDataL ps = true) (hm : m.isData = true)
    (hi : its[i]? = some v) (hr : Reads h' v m.toD bs) (kp : ∀ b o, s.heap.get? b = some o → h'.get? b = some o) : ∃ y, RelV y v ∧ Rep X.K C H m y := by
  have hlen : ys.length = its.length := rv.length
  have hlt : i < its.length := (List.getElem?_eq_some_iff.mp hi).1
  have hy := List.getElem?_eq_getElem (l := ys) (i := i) (by omega)
  obtain ⟨p, hp, rp⟩ := rl.get' hy
  obtain ⟨u, hu, ru⟩ := rv.get hy
  rw [hi] at hu
  cases hu
  have hpd : p.isData = true := by
    rw [isDataL_eq, List.all_eq_true] at hd
    exact hd p (List.mem_of_getElem? hp)
  obtain ⟨as, ra⟩ := Rep.reads I p _ v rp ru hpd
  have := SeqAt.plain_unique p.toD m.toD v as bs (p.toD_plain hpd) (PyProof.Rows.Reads.keeps kp ra) hr
  rw [← p.toD_inj m hpd hm this]
  exact ⟨_, ru, rp⟩
theorem c1_min (hc : X.calm = true) (hu : X.A.units + 64 < cLine) : Call1 X C (.builtin "min") minV := by
  intro p r e pins s σ H xs us Q I rv ⟨x, ex, n, k⟩
  subst ex
  obtain ⟨ps, e1, e⟩ := ok_bind e
  cases ps with
  | nil => cases e
  | cons y ps =>
    dsimp only at e
    split at e
    case isFalse => cases e
    rename_i hf
    cases e
    obtain ⟨h1, h2, h3⟩ := cmpOkL_d hf
    obtain ⟨a, ys, rfl, sq, rl⟩ := now_items n e1
    obtain ⟨its, rv2, hl⟩ := tup_list I sq
    obtain ⟨u, rfl, r1⟩ := vals1 rv
    cases r1
    obtain ⟨as, ra⟩ := RepL.reads I _ ys its rl rv2 h2
    have hm : (minB y ps).isData = true := by
      rw [isDataL_eq, List.all_eq_true] at h2
      exact h2 _ (minB_mem ps y)
    have fin : ∀ (i : Nat) v h' tk bs, its.toArray[i]? = some v → Reads h' v (PySem.W.minD y.toD (toDL ps)) bs → (∀ b o, s.heap.get? b = some o → h'.get? b = some o) → EP X pins σ Q v { s with heap := h', toks := tk } := fun i v h' tk bs hi hr kp => by
      rw [← minB_toD] at hr
      obtain ⟨z, rz, pz⟩ := item_of I rl rv2 h2 hm (by simpa using hi) hr kp
      exact ⟨z, H, I.kept kp, rz, k z H (Grow.refl H) pz⟩
    have hu' := units_depth hu h1
    simp only [toDL] at ra h3 hu'
    rcases hl with hl | hl
    · exact PySem.W.min_tuple_data (I.ok.hd hc) hl ra h3 hu' fin
    · exact PySem.W.min_list_data (I.ok.hd hc) hl ra h3 hu' fin
theorem c1_max (hc : X.calm = true) (hu : X.A.units + 64 < cLine) : Call1 X C (.builtin "max") maxV := by
  intro p r e pins s σ H xs us Q I rv ⟨x, ex, n, k⟩
  subst ex
  obtain ⟨ps, e1, e⟩ := ok_bind e
  cases ps with
  | nil => cases e
  | cons y ps =>
    dsimp only at e
    split at e
    case isFalse => cases e
    rename_i hf
    cases e
    obtain ⟨h1, h2, h3⟩ := cmpOkL_d hf
    obtain ⟨a, ys, rfl, sq, rl⟩ := now_items n e1
    obtain ⟨its, rv2, hl⟩ := tup_list I sq
    obtain ⟨u, rfl, r1⟩ := vals1 rv
    cases r1
    obtain ⟨as, ra⟩ := RepL.reads I _ ys its rl rv2 h2
    have hm : (maxB y ps).isData = true := by
      rw [isDataL_eq, List.all_eq_true] at h2
      exact h2 _ (maxB_mem ps y)
    have fin : ∀ (i : Nat) v h' tk bs, its.toArray[i]? = some v → Reads h' v (PySem.W.maxD y.toD (toDL ps)) bs → (∀ b o, s.heap.get? b = some o → h'.get? b = some o) → EP X pins σ Q v { s with heap := h', toks := tk } := fun i v h' tk bs hi hr kp => by
      rw [← maxB_toD] at hr
      obtain ⟨z, rz, pz⟩ := item_of I rl rv2 h2 hm (by simpa using hi) hr kp
      exact ⟨z, H, I.kept kp, rz, k z H (Grow.refl H) pz⟩
    have hu' := units_depth hu h1
    simp only [toDL] at ra h3 hu'
    rcases hl with hl | hl
    · exact PySem.W.max_tuple_data (I.ok.hd hc) hl ra h3 hu' fin
    · exact PySem.W.max_list_data (I.ok.hd hc) hl ra h3 hu' fin
theorem c1_sum (hc : X.calm = true) : Call1 X C (.builtin "sum") (fun p => match p with | .lst _ => sumV p | _ => .bad) := by
  intro p r e pins s σ H xs us Q I rv ⟨x, ex, n, k⟩
  cases p with
  | lst ps =>
    obtain ⟨ns, e1, e⟩ := ok_bind e
    cases e
    obtain ⟨a, ys, rfl, sq, rl⟩ := n
    have e2 : intsV ps = some ns := e1
    have ey := intsV_rep e2 rl
    subst ey
    exact cr_sum hc pins s σ H _ us Q I rv ⟨a, ns, ex, sq, k _ H (Grow.refl H) (rep_int.mpr rfl)⟩
  | _ => cases e
theorem n1_sum : NoEx1 (fun p => match p with | .lst _ => sumV p | _ => .bad) := fun p c v => by
  cases p <;> first | exact ne_bind fun a => by simp only [ne_eq, reduceCtorEq, not_false_eq_true] | exact fun z => nomatch z

/-! ### sorted -/
theorem leB_eq : PySem.W.dataLe false PV.toD = leB := by
  rw [PySem.W.dataLe_eq]
  rfl
theorem each_of {H : Hp} : ∀ {ps : List PV} {ys : List V} {its : List Value}, RepL X.K C H ps ys → Vals ys its → PySem.W.EachIs (fun v p => ∃ y, RelV y v ∧ Rep X.K C H p y) its ps
  | [], ys, its, r, rv => by
    simp only [RepL] at r
    subst r
    cases rv
    exact .nil
  | p :: ps, ys, its, r, rv => by
    obtain ⟨y, zs, rfl, r1, r2⟩ := r.head
    cases rv with
    | cons v1 v2 => exact .cons ⟨y, v1, r1⟩ (each_of r2 v2)
theorem of_each {H : Hp} : ∀ {its : List Value} {ps : List PV}, PySem.W.EachIs (fun v p => ∃ y, RelV y v ∧ Rep X.K C H p y) its ps → ∃ ys, Vals ys its ∧ RepL X.K C H ps ys
  | _, _, .nil => ⟨[], .nil, RepL.nil⟩
  | _, _, .cons ⟨y, v1, r1⟩ t => by
    obtain ⟨ys, v2, r2⟩ := of_each t
    exact ⟨y :: ys, .cons v1 v2, RepL.cons r1 r2⟩
theorem each_reads {pins : List (Addr × Obj)} {σ : St} {H : Hp} {s : Shared} (I : Inv X pins σ H s) : ∀ {ps : List PV} {ys : List V} {its : List Value}, RepL X.K C H ps ys → Vals ys its → isDataL ps = true → PySem.W.EachIs (fun v p => ∃ as, Reads s.heap v p.toD as) its ps
  | [], ys, its, r, rv, _ => by
    simp only [RepL] at r
    subst r
    cases rv
    exact .nil
  | p :: ps, ys, its, r, rv, h => by
    obtain ⟨y, zs, rfl, r1, r2⟩ := r.head
    simp only [isDataL, Bool.and_eq_true] at h
    cases rv with
    | cons v1 v2 => exact .cons (Rep.reads I p y _ r1 v1 h.1) (each_reads I r2 v2 h.2)
theorem sortOk_d {ps : List PV} (h : sortOk ps = true) : ps.all okD = true ∧ isDataL ps = true ∧ ps.length ≤ sizeLine ∧ PySem.W.AllAlike (ps.map PV.toD) ∧ PySem.W.Sortable (ps.map PV.toD) := by
  unfold sortOk at h
  simp only [Bool.and_eq_true, Bool.or_eq_true] at h
  obtain ⟨⟨h1, h2, h3⟩, h4⟩ := h
  have h1' := List.all_eq_true.mp h1
  have h4' := List.all_eq_true.mp h4
  refine ⟨h1, by rw [isDataL_eq, List.all_eq_true]; exact fun p hp => (okD_d (h1' p hp)).1, fitsL_le h2, fun d hd d' hd' => ?_, ?_⟩
  · obtain ⟨p, hp, rfl⟩ := List.mem_map.mp hd
    obtain ⟨q, hq, rfl⟩ := List.mem_map.mp hd'
    exact List.all_eq_true.mp (h4' p hp) q hq
  · rcases h3 with h3 | h3
    · refine .inl fun d hd => ?_
      obtain ⟨p, hp, rfl⟩ := List.mem_map.mp hd
      have := List.all_eq_true.mp h3 p hp
      cases p with
      | tup xs =>
        cases xs with
        | nil => cases this
        | cons x xs => exact ⟨x.toD, toDL xs, by simp only [PV.toD, toDL]⟩
      | _ => cases this
    · refine .inr fun d hd => ?_
      obtain ⟨p, hp, rfl⟩ := List.mem_map.mp hd
      have h5 := List.all_eq_true.mp h3 p hp
      have h6 := (okD_d (h1' p hp)).1
      cases p <;> simp_all [PV.toD, isOther, PV.isData]
theorem mergeSort_len (ps : List PV) : (ps.mergeSort leB).length = ps.length := (List.mergeSort_perm ps leB).length_eq
theorem c1_sorted (hu : X.A.units + 64 < cLine) : Call1F X C (.builtin "sorted") (fun p => match p with | .lst _ => sortedV p | _ => .bad) := by
  intro p r e pins s σ H xs us Q I rv ⟨x, ex, n, k⟩
  cases p with
  | lst ps =>
    obtain ⟨qs, e1, e⟩ := ok_bind e
    have e1 : some ps = some qs := e1
    cases e1
    split at e
    case isFalse => cases e
    rename_i hf
    cases e
    obtain ⟨h1, h2, h3, h4, h5⟩ := sortOk_d hf
    subst ex
    obtain ⟨a, ys, rfl, sq, rl⟩ := n
    obtain ⟨its, rv2, pl, hz⟩ := I.list sq
    obtain ⟨u, rfl, r1⟩ := vals1 rv
    cases r1
    refine PySem.W.sorted_data (enc := PV.toD) pl.isList (each_of rl rv2) (each_reads I rl rv2 h2) h4 h5 h3 (fun p hp => ?_) fun out ho he => ?_
    · have := (okD_d (List.all_eq_true.mp h1 p hp)).2
      omega
    · rw [leB_eq] at he
      obtain ⟨zs, v2, r2⟩ := of_each he
      obtain ⟨ep, hat⟩ := sortedAll_at s.heap its out.toArray
      have hn : H (s.heap.objs.size + 1) = none := I.hok.fresh (Nat.le_add_right _ _)
      have hzl : zs.length ≤ sizeLine := by rw [r2.length, mergeSort_len]; exact h3
      have J : Inv X pins σ (upd H (s.heap.objs.size + 1) (.lst zs)) { s with heap := sortedAll s.heap its out.toArray } :=
        I.laid (t' := s.toks) (fun b o q => sortedAll_old q) (Nat.le_add_right _ _) ⟨hzl, out, ep, v2, hat⟩
      exact ⟨.ref _, _, J, rfl, k _ zs _ hn (Ext.new hn) (Grow.new hn) upd_same (RepL.ext (Ext.new hn) _ _ r2)⟩
  | _ => cases e
theorem n1_sorted : NoEx1 (fun p => match p with | .lst _ => sortedV p | _ => .bad) := fun p c v => by
  cases p <;> first | exact ne_bind fun a => by split <;> simp only [ne_eq, reduceCtorEq, not_false_eq_true] | exact fun z => nomatch z

/-! ### repr -/
mutual
/-- how long the text is at most -/
def PV.wide : PV → Nat
  | .int i => i.natAbs.log2 + 3
  | .str x => 10 * x.length + 2
  | .tup xs | .lst xs => 3 + wideL xs
  | _ => 5
def wideL : List PV → Nat
  | [] => 0
  | x :: xs => x.wide + 2 + wideL xs
end
def reprV (p : PV) : Res PV := if okD p && (p.toD.showable && fitsL p.toD.shown.length) then .ok (.str p.toD.shown) else .bad
mutual
theorem data_noDict : ∀ d : PyData, d.plain = true → d.hasDict = false
  | .none, _ | .bool _, _ | .int _, _ | .str _, _ => by simp only [PyData.hasDict]
  | .list xs, h => by simp only [PyData.plain] at h; simp only [PyData.hasDict]; exact data_noDictL xs h
  | .tuple xs, h => by simp only [PyData.plain] at h; simp only [PyData.hasDict]; exact data_noDictL xs h
  | .dict _, h => by simp only [PyData.plain] at h; cases h
theorem data_noDictL : ∀ xs : List PyData, PyData.plainAll xs = true → PyData.hasDictAll xs = false
  | [], _ => by simp only [PyData.hasDictAll]
  | x :: xs, h => by
    simp only [PyData.plainAll, Bool.and_eq_true] at h
    simp only [PyData.hasDictAll, data_noDict x h.1, data_noDictL xs h.2, Bool.or_self]
end
theorem c1_repr (hg : X.A.guards = some []) (hu : X.A.units + 64 < cLine) : Call1 X C (.builtin "repr") reprV := by
  intro p r e pins s σ H xs us Q I rv ⟨x, ex, n, k⟩
  subst ex
  unfold reprV at e
  split at e
  case isFalse => cases e
  rename_i hf
  cases e
  simp only [Bool.and_eq_true] at hf
  obtain ⟨h1, h2, h3⟩ := hf
  obtain ⟨d1, d2⟩ := okD_d h1
  obtain ⟨u, rfl, r1⟩ := vals1 rv
  have hsz := fitsL_le h3
  have fin : ∀ h' u' tk, (∀ b o, s.heap.get? b = some o → h'.get? b = some o) → EP X pins σ Q (.str p.toD.shown u') { s with heap := h', toks := tk } := fun h' u' tk kp =>
    ⟨.str _, H, I.kept kp, ⟨_, rfl⟩, k _ H (Grow.refl H) (rep_str.mpr rfl)⟩
  have hnow : ∃ as, Reads s.heap u p.toD as := by
    cases p with
    | lst ps =>
      obtain ⟨a, ys, rfl, sq, rl⟩ := n
      cases r1
      obtain ⟨its, rv2, ⟨o, m, ho, hc, hx, hd⟩, hz⟩ := I.list sq
      simp only [PV.isData] at d1
      obtain ⟨as, ra⟩ := RepL.reads I ps ys its rl rv2 d1
      exact ⟨_, by simp only [PV.toD]; exact .list ho hc hd ra⟩
    | dct ks ps => simp only [PV.isData] at d1; cases d1
    | dtt ks ps => simp only [PV.isData] at d1; cases d1
    | tix ps => simp only [PV.isData] at d1; cases d1
    | non => exact Rep.reads (C := C) I _ x u n r1 d1
    | bl _ => exact Rep.reads (C := C) I _ x u n r1 d1
    | int _ => exact Rep.reads (C := C) I _ x u n r1 d1
    | str _ => exact Rep.reads (C := C) I _ x u n r1 d1
    | tup _ => exact Rep.reads (C := C) I _ x u n r1 d1
    | clo _ => exact Rep.reads (C := C) I _ x u n r1 d1
    | fn _ => exact Rep.reads (C := C) I _ x u n r1 d1
    | err _ _ => exact Rep.reads (C := C) I _ x u n r1 d1
  obtain ⟨as, ra⟩ := hnow
  cases hp : p.toD with
  | none =>
    rw [hp] at ra fin
    cases ra
    simp only [PyData.shown] at fin
    exact PySem.P.repr_of_none (fin s.heap s.toks _ fun _ _ q => q)
  | bool b =>
    rw [hp] at ra fin
    cases ra
    simp only [PyData.shown] at fin
    exact PySem.P.repr_of_bool (fin s.heap s.toks _ fun _ _ q => q)
  | int i =>
    rw [hp] at ra fin h2
    cases ra
    simp only [PyData.shown] at fin
    exact PySem.P.repr_of_int (by simpa only [PyData.showable, decide_eq_true_eq] using h2) (fin s.heap s.toks _ fun _ _ q => q)
  | str z =>
    rw [hp] at ra fin hsz
    cases ra
    simp only [PyData.shown] at fin hsz
    exact PySem.P.repr_of_str (fin s.heap s.toks _ fun _ _ q => q) hsz
  | list ds =>
    have ra' := ra
    rw [hp] at ra'
    cases ra'
    exact repr_of_reads' ra h2 (PyData.noDict_hsm (data_noDict _ (p.toD_plain d1))) hg (by omega) (fun _ _ q => q) fin hsz
  | tuple ds =>
    have ra' := ra
    rw [hp] at ra'
    cases ra'
    exact repr_of_reads' ra h2 (PyData.noDict_hsm (data_noDict _ (p.toD_plain d1))) hg (by omega) (fun _ _ q => q) fin hsz
  | dict kvs =>
    have := p.toD_plain d1
    rw [hp] at this
    simp only [PyData.plain] at this
    cases this
theorem n1_repr : NoEx1 reprV := fun p c v => by
  unfold reprV
  split <;> simp only [ne_eq, reduceCtorEq, not_false_eq_true]
end
end VL
/-! VL7: what loops walk. -/
namespace PySem
set_option maxHeartbeats 1000000 in
/-- enumerate(v), v anything whose iterator is known -/
theorem vl_enum_new {v : Value} {o : Obj} {H : Heap → Prop} (B : Begins v o H) :
    Meets (Builtin.«enumerate.__new__» ⟨[.type "enumerate", v], []⟩) (fun _ R s => H s.heap ∧ R (.ok (.ret (.ref (s.heap.objs.size + 1))))
      { s with heap := (s.heap.push o).push { cls := .type "enumerate", data := .fields #[.none, .bool false, .ref s.heap.objs.size, rawInt 0, .none, .none] } }) :=
  .of_wp fun prog w A R s h => by
    obtain ⟨hp, g, d, tk, os⟩ := s
    obtain ⟨h1, h⟩ := h
    have e1 : hp.objs.size + 1 = (hp.push o).objs.size := (Heap.size_push ..).symm
    replace h : R (.ok (.ret (.ref (hp.objs.size + 1)))) ⟨(hp.push o).push { cls := .type "enumerate", data := .fields #[.none, .bool false, .ref hp.objs.size, rawInt 0, .none, .none] }, g, d, tk, os⟩ := h
    rw [e1] at h
    have sub := sub_enumerate
    have it : ∀ {A' : Around} {E : Value → Shared → Prop} {Q : Value → Shared → Prop}, Q (.ref hp.objs.size) ⟨hp.push o, g, d, tk, os⟩ → wpAny (model prog w) A' (pyIter v) Q E ⟨hp, g, d, tk, os⟩ :=
      fun q => B.iter prog w _ _ ⟨hp, g, d, tk, os⟩ _ h1 q
    wp_walk using it
    refine wpAny_stack_any fun st => wpAny_pure ?_
    split
    · rename_i c _ _ _ _ _
      cases (c == Value.type "enumerate") <;> (wp_walk using it; exact ⟨_, rfl, h⟩)
    · wp_walk using it
      exact ⟨_, rfl, h⟩
section
variable {prog : Program} {w : World} {A : Around} {E : Value → Shared → Prop} {s : Shared}
theorem vl_enum {v : Value} {o : Obj} {H : Heap → Prop} {Q : Value → Shared → Prop} (B : Begins v o H) (h1 : H s.heap)
    (h : ∀ h', IsEnum h' (s.heap.objs.size + 1) s.heap.objs.size 0 .none → h'.get? s.heap.objs.size = some o → h'.objs.size = s.heap.objs.size + 2 → (∀ b o, s.heap.get? b = some o → h'.get? b = some o) → Q (.ref (s.heap.objs.size + 1)) { s with heap := h' }) :
    wpAny (model prog w) A (call (.type "enumerate") [v]) Q E s := by
  refine callType_new F.called_enumerate (by decide) (F.typeCall_enumerate_1 _) (F.newCall_enumerate_1 _) (fun obj => F.args_object_init_2 obj _) F.entry_enumerate_new (vl_enum_new B) ⟨h1, ?_⟩
  have z1 : (s.heap.push o).objs.size = s.heap.objs.size + 1 := Heap.size_push ..
  have he : IsEnum ((s.heap.push o).push { cls := .type "enumerate", data := .fields #[.none, .bool false, .ref s.heap.objs.size, rawInt 0, .none, .none] }) (s.heap.objs.size + 1) s.heap.objs.size 0 .none := by
    have q := Heap.get?_push_size (s.heap.push o) (o := { cls := .type "enumerate", data := .fields #[.none, .bool false, .ref s.heap.objs.size, rawInt 0, .none, .none] }) rfl
    rw [z1] at q
    exact q
  exact ⟨⟨_, he, rfl⟩, h _ he (Heap.get?_push_of_some _ (Heap.get?_push_size _ B.free)) (by rw [Heap.size_push, z1]) fun b ob x => Heap.get?_push_of_some _ (Heap.get?_push_of_some _ x)⟩
end
end PySem

namespace VL
set_option autoImplicit false
open PySem PySem.Spec PyProof.Rows L2

/-! ### tuples and shared lists, by their kind -/
/-- at a: a tuple (k) or a list that stays -/
def SqK (k : Bool) (K : PySem.W.Frag) (H : Hp) (a : Addr) (xs : List V) : Prop := if k = true then SqT K H a xs else FzL K H a xs
def IterO (k : Bool) (a : Addr) (i : Nat) : Obj := if k = true then { cls := .type "tuple_iterator", data := .fields #[.ref a, rawInt i] } else { cls := .type "list_iterator", data := .fields #[.ref a, rawInt i] }
def ItAt (k : Bool) (h : Heap) (it a : Addr) (i : Nat) : Prop := if k = true then h.IsTupleIter it a i else h.IsListIter it a i
def SrcAt (k : Bool) (h : Heap) (a : Addr) (its : Array Value) : Prop := if k = true then h.IsTuple a its else h.IsList a its
theorem SqK.ext {k : Bool} {K : PySem.W.Frag} {H H' : Hp} {a : Addr} {xs : List V} (x : Ext H H') (h : SqK k K H a xs) : SqK k K H' a xs := by
  cases k with
  | true => exact x.sqt h
  | false => exact Ext.fzl (K := K) x h
theorem SqK.raw {k : Bool} {X : Cx} {pins : List (Addr × Obj)} {σ : St} {H : Hp} {s : Shared} {a : Addr} {xs : List V} (I : Inv X pins σ H s) (h : SqK k X.K H a xs) : ∃ its : List Value, Vals xs its ∧ SrcAt k s.heap a its.toArray ∧ a < s.heap.objs.size := by
  cases k with
  | true =>
    obtain ⟨its, rv, p, _⟩ := I.tuple h
    exact ⟨its, rv, p, p.lt⟩
  | false =>
    obtain ⟨its, rv, p, _⟩ := I.list (FzL.sql h)
    exact ⟨its, rv, p.isList, p.lt⟩
theorem ItAt.obj {k : Bool} {h : Heap} {it a : Addr} {i : Nat} (x : ItAt k h it a i) : ∃ o, h.get? it = some o ∧ ∀ v, o.data ≠ .cell v := by
  cases k with
  | true => obtain ⟨o, e, _, d⟩ := (show h.IsTupleIter it a i from x); exact ⟨o, e, fun v q => by rw [d] at q; cases q⟩
  | false => obtain ⟨o, e, _, d⟩ := (show h.IsListIter it a i from x); exact ⟨o, e, fun v q => by rw [d] at q; cases q⟩
theorem ItAt.keep {k : Bool} {h h' : Heap} {it a : Addr} {i : Nat} (x : ItAt k h it a i) (kp : ∀ o, h.get? it = some o → h'.get? it = some o) : ItAt k h' it a i := by
  cases k with
  | true => exact Heap.IsTupleIter.at (show h.IsTupleIter it a i from x) kp
  | false => exact Heap.IsListIter.at (show h.IsListIter it a i from x) kp
theorem draws_k {k : Bool} {P : Program} {w : World} {A : Around} (hh : A.handled = none) (it a : Addr) (hne : a ≠ it) (its : Array Value) :
    Draws P w A it [it, a] its.size (fun i v => its[i]? = some v) (fun i h => ItAt k h it a i ∧ SrcAt k h a its) := by
  cases k with
  | true => exact Draws.tuple hh it a hne its
  | false => exact Draws.list hh it a hne its
theorem begins_k (k : Bool) (a : Addr) (its : Array Value) : Begins (.ref a) (IterO k a 0) (fun h => SrcAt k h a its) := by
  cases k with
  | true => exact begins_tuple a its
  | false => exact begins_list a its
theorem itAt_new {k : Bool} {h : Heap} {it a : Addr} (e : h.get? it = some (IterO k a 0)) : ItAt k h it a 0 := by
  cases k with
  | true => exact ⟨_, e, rfl, rfl⟩
  | false => exact ⟨_, e, rfl, rfl⟩

/-- (i, item), each a new tuple -/
def ItE (k : Bool) (K : PySem.W.Frag) (a : Addr) (xs : List V) : It :=
  ⟨fun i H => SqK k K H a xs ∧ i < xs.length, fun i H v H' => ∃ T x, v = .ref T ∧ H T = none ∧ xs[i]? = some x ∧ H' = upd H T (.tup [.int (i : Nat), x]), fun i H => SqK k K H a xs ∧ i = xs.length⟩
/-- (item, item), each a new tuple -/
def ItZ (k j : Bool) (K : PySem.W.Frag) (a b : Addr) (xs ys : List V) : It :=
  ⟨fun i H => SqK k K H a xs ∧ SqK j K H b ys ∧ i < xs.length ∧ i < ys.length, fun i H v H' => ∃ T x y, v = .ref T ∧ H T = none ∧ xs[i]? = some x ∧ ys[i]? = some y ∧ H' = upd H T (.tup [x, y]),
    fun i H => SqK k K H a xs ∧ SqK j K H b ys ∧ i = min xs.length ys.length⟩
def ItZ3 (k j l : Bool) (K : PySem.W.Frag) (a b c : Addr) (xs ys zs : List V) : It :=
  ⟨fun i H => SqK k K H a xs ∧ SqK j K H b ys ∧ SqK l K H c zs ∧ i < xs.length ∧ i < ys.length ∧ i < zs.length, fun i H v H' => ∃ T x y z, v = .ref T ∧ H T = none ∧ xs[i]? = some x ∧ ys[i]? = some y ∧ zs[i]? = some z ∧ H' = upd H T (.tup [x, y, z]),
    fun i H => SqK k K H a xs ∧ SqK j K H b ys ∧ SqK l K H c zs ∧ i = min (min xs.length ys.length) zs.length⟩
section
variable {P : Program} {w : World} {K : PySem.W.Frag} {elts : List Expr} {kk : Nat} {tpos : Pos}
theorem turn_enumS (k : Bool) (a e it : Addr) (xs : List V) :
    Turn P w K (.Tuple elts kk tpos) (ItE k K a xs) [e, it] e (fun i h => (∃ old, IsEnum h e it ((i : Nat) : Int) old) ∧ ItAt k h it a i ∧ e ≠ it ∧ a ≠ e ∧ a ≠ it) where
  mem := List.mem_cons_self
  obj := fun i h st b hb => by
    obtain ⟨⟨old, he⟩, hi, _⟩ := st
    rcases List.mem_cons.mp hb with z | hb
    · rw [z]; exact ⟨_, he, fun v q => nomatch q⟩
    · rw [List.mem_singleton.mp hb]; exact hi.obj
  keep := fun i h h' st kp => by
    obtain ⟨⟨old, he⟩, hi, ne⟩ := st
    exact ⟨⟨old, kp e List.mem_cons_self _ he⟩, hi.keep fun o q => kp it (List.mem_cons_of_mem _ List.mem_cons_self) o q, ne⟩
  item := by
    intro X hP hw hK hc i pins s σ H E I hf st hg
    subst hP hw hK
    obtain ⟨⟨old, he⟩, hit, hne, nae, nai⟩ := st
    obtain ⟨hq, hlt⟩ := hg
    obtain ⟨its, rv, src, hal⟩ := hq.raw I
    have hlen := rv.length
    have hel : e < s.heap.objs.size := Heap.lt_size he
    obtain ⟨oi, hoi, _⟩ := hit.obj
    have hil : it < s.heap.objs.size := Heap.lt_size hoi
    refine wpAny_pyNext_enum_itemC (draws_k (A := X.A.in1) (k := k) (I.ok.hd hc) it a nai its.toArray) he ⟨hit, src⟩ (by simp only [List.size_toArray]; omega) hne (by simp [hne, Ne.symm nae]) fun u h' tk hu ho st' hT hsz kp => ?_
    have hu : its[i]? = some u := by simpa using hu
    obtain ⟨x, hx, rx⟩ : ∃ x, xs[i]? = some x ∧ RelV x u := by
      have hy := List.getElem?_eq_getElem (l := xs) (i := i) hlt
      obtain ⟨u', hu', ru⟩ := rv.get hy
      rw [hu] at hu'
      cases hu'
      exact ⟨_, hy, ru⟩
    refine ⟨_, rfl, wpAny_letOwnedTupleGo_enum (s := { s with heap := h', toks := tk + 1 }) ho fun h'' he' sb => ?_⟩
    have hT2 : h''.get? s.heap.objs.size = some { cls := .type "tuple", data := .seq #[.int i tk, u] } := (sb.2 _ (Nat.ne_of_gt hel)).trans hT
    have new : ObjOk X.prog X.w (upd H s.heap.objs.size (.tup [.int (i : Nat), x])) h'' s.heap.objs.size (.tup [.int (i : Nat), x]) :=
      ⟨by show 2 ≤ sizeLine; decide, [.int i tk, u], .cons ⟨_, rfl⟩ (.cons rx .nil), ⟨_, hT2, rfl, _, rfl⟩⟩
    have J := I.turnedNew (t' := tk + 1) (ch := [e, it]) (fun b ob hb q => by
      have h1 : b ≠ e := fun z => hb (by rw [z]; exact List.mem_cons_self)
      have h2 : b ≠ it := fun z => hb (by rw [z]; exact List.mem_cons_of_mem _ List.mem_cons_self)
      exact (sb.2 b h1).trans (kp b ob h1 h2 q)) hf (Nat.le_refl _) new
    refine ⟨.ref s.heap.objs.size, _, J, rfl, ⟨_, x, rfl, I.hok.fresh (Nat.le_refl _), hx, rfl⟩, ⟨⟨u, ?_⟩, st'.1.keep fun o q => (sb.2 it (Ne.symm hne)).trans q, hne, nae, nai⟩, fun b hb => ?_⟩
    · have e1 : ((i + 1 : Nat) : Int) = (i : Int) + 1 := by omega
      rw [e1]
      exact he'
    · have hb' : b < s.heap.objs.size := by
        rcases List.mem_cons.mp hb with z | hb
        · rw [z]; exact hel
        · rw [List.mem_singleton.mp hb]; exact hil
      rw [upd_ne (Nat.ne_of_lt hb')]
      exact (hf b hb).1
  done := by
    intro X hP hw hK hc i pins s σ H E I hf st hg
    subst hP hw hK
    obtain ⟨⟨old, he⟩, hit, hne, nae, nai⟩ := st
    obtain ⟨hq, hle⟩ := hg
    obtain ⟨its, rv, src, hal⟩ := hq.raw I
    have hlen := rv.length
    have ei : i = its.toArray.size := by simp only [List.size_toArray]; omega
    subst ei
    refine wpAny_pyNext_enum_endD (draws_k (A := X.A.in1) (k := k) (I.ok.hd hc) it a nai its.toArray) he ⟨hit, src⟩ fun h' hx => ⟨rfl, ?_⟩
    exact I.turnedL (t' := s.toks) (ch := [e, it]) (fun b ob hb q => hx b ob (fun z => hb (by rw [z]; exact List.mem_cons_of_mem _ List.mem_cons_self)) q) hf
  self := fun A i s Q E st h => let ⟨⟨_, he⟩, _⟩ := st; wpAny_pyIter_enum he h

/-- the cells of a zip of two -/
structure ZipC2 (z TI TO i1 i2 a b : Addr) : Prop where
  s : ZipSep2 z TI TO i1 i2 [i1, a] [i2, b]
  a1 : a ≠ i1
  b2 : b ≠ i2
  i1z : i1 ≠ z
  i2z : i2 ≠ z
theorem turn_zipS (k j : Bool) {a b z TI TO i1 i2 : Addr} (xs ys : List V) (D : ZipC2 z TI TO i1 i2 a b) :
    Turn P w K (.Tuple elts kk tpos) (ItZ k j K a b xs ys) [z, TI, TO, i1, i2] z (fun i h => IsZip h z TI TO .none ∧ IsTupOf2 h TI (.ref i1) (.ref i2) ∧ (∃ x y, IsTupOf2 h TO x y) ∧ ItAt k h i1 a i ∧ ItAt j h i2 b i) where
  mem := List.mem_cons_self
  obj := fun i h st c hc => by
    obtain ⟨hz, hTI, ⟨x, y, hTO⟩, h1, h2⟩ := st
    simp only [List.mem_cons, List.not_mem_nil, or_false] at hc
    rcases hc with q | q | q | q | q
    · rw [q]; exact ⟨_, hz, fun v q => nomatch q⟩
    · rw [q]; exact ⟨_, hTI, fun v q => nomatch q⟩
    · rw [q]; exact ⟨_, hTO, fun v q => nomatch q⟩
    · rw [q]; exact h1.obj
    · rw [q]; exact h2.obj
  keep := fun i h h' st kp => by
    obtain ⟨hz, hTI, ⟨x, y, hTO⟩, h1, h2⟩ := st
    exact ⟨kp z (by simp) _ hz, kp TI (by simp) _ hTI, ⟨x, y, kp TO (by simp) _ hTO⟩, h1.keep fun o q => kp i1 (by simp) o q, h2.keep fun o q => kp i2 (by simp) o q⟩
  item := by
    intro X hP hw hK hc i pins s σ H E I hf st hg
    subst hP hw hK
    obtain ⟨hz, hTI, ⟨x0, y0, hTO⟩, h1, h2⟩ := st
    obtain ⟨hqx, hqy, hlx, hly⟩ := hg
    obtain ⟨its, rv, src1, _⟩ := hqx.raw I
    obtain ⟨its2, rv2, src2, _⟩ := hqy.raw I
    have l1 := rv.length
    have l2 := rv2.length
    have hzl : z < s.heap.objs.size := Heap.lt_size hz
    refine wpAny_pyNext_zipD2_item D.s (draws_k (A := X.A.in1) (k := k) (I.ok.hd hc) i1 a D.a1 its.toArray) (draws_k (A := X.A.in1) (k := j) (I.ok.hd hc) i2 b D.b2 its2.toArray) hz hTI hTO ⟨h1, src1⟩ ⟨h2, src2⟩ (by simp only [List.size_toArray]; omega) (by simp only [List.size_toArray]; omega)
      fun u u2 h' tk hu hu2 z' TO' st1 st2 hT hsz kp => ?_
    have get : ∀ {xs : List V} {its : List Value} {u : Value}, Vals xs its → its.toArray[i]? = some u → i < xs.length → ∃ x, xs[i]? = some x ∧ RelV x u := fun {xs its u} rv hu hlt => by
      obtain ⟨u', hu', ru⟩ := rv.get (List.getElem?_eq_getElem (l := xs) (i := i) hlt)
      have hu : its[i]? = some u := by simpa using hu
      rw [hu] at hu'
      cases hu'
      exact ⟨_, List.getElem?_eq_getElem hlt, ru⟩
    obtain ⟨x, hx, rx⟩ := get rv hu hlx
    obtain ⟨y, hy, ry⟩ := get rv2 hu2 hly
    refine ⟨_, rfl, wpAny_letOwnedTupleGo_zip (s := { s with heap := h', toks := tk }) z' fun h'' z'' sb => ?_⟩
    have hT2 : h''.get? s.heap.objs.size = some { cls := .type "tuple", data := .seq #[u, u2] } := (sb.2 _ (Nat.ne_of_gt hzl)).trans hT
    have new : ObjOk X.prog X.w (upd H s.heap.objs.size (.tup [x, y])) h'' s.heap.objs.size (.tup [x, y]) :=
      ⟨by show 2 ≤ sizeLine; decide, [u, u2], .cons rx (.cons ry .nil), ⟨_, hT2, rfl, _, rfl⟩⟩
    have J : Inv X pins σ (upd H s.heap.objs.size (.tup [x, y])) { s with heap := h'', toks := tk } :=
      I.turnedNew (t' := tk) (ch := [z, TI, TO, i1, i2]) (fun c o hb q => (sb.2 c (fun q' => hb (by simp [q']))).trans (kp c o (fun q' => hb (by simp [q'])) (fun q' => hb (by simp [q'])) (fun q' => hb (by simp [q'])) (fun q' => hb (by simp [q'])) q)) hf (Nat.le_refl _) new
    refine ⟨.ref s.heap.objs.size, _, J, rfl, ⟨_, x, y, rfl, I.hok.fresh (Nat.le_refl _), hx, hy, rfl⟩, ⟨z'', ?_, ⟨u, u2, ?_⟩, ?_, ?_⟩, fun c hcm => ?_⟩
    · refine (sb.2 _ D.s.TIz).trans (kp _ _ D.s.TIz D.s.TITO D.s.TIi1 D.s.TIi2 hTI)
    · exact (sb.2 _ D.s.TOz).trans TO'
    · exact st1.1.keep fun o q => (sb.2 _ D.i1z).trans q
    · exact st2.1.keep fun o q => (sb.2 _ D.i2z).trans q
    · have hlt : c < s.heap.objs.size := by
        simp only [List.mem_cons, List.not_mem_nil, or_false] at hcm
        rcases hcm with q | q | q | q | q
        · rw [q]; exact hzl
        · rw [q]; exact Heap.lt_size hTI
        · rw [q]; exact Heap.lt_size hTO
        · rw [q]; obtain ⟨_, e1, _⟩ := h1.obj; exact Heap.lt_size e1
        · rw [q]; obtain ⟨_, e2, _⟩ := h2.obj; exact Heap.lt_size e2
      rw [upd_ne (Nat.ne_of_lt hlt)]
      exact (hf c hcm).1
  done := by
    intro X hP hw hK hc i pins s σ H E I hf st hg
    subst hP hw hK
    obtain ⟨hz, hTI, ⟨x0, y0, hTO⟩, h1, h2⟩ := st
    obtain ⟨hqx, hqy, hend⟩ := hg
    obtain ⟨its, rv, src1, _⟩ := hqx.raw I
    obtain ⟨its2, rv2, src2, _⟩ := hqy.raw I
    have l1 := rv.length
    have l2 := rv2.length
    refine wpAny_pyNext_zipD2_end D.s (draws_k (A := X.A.in1) (k := k) (I.ok.hd hc) i1 a D.a1 its.toArray) (draws_k (A := X.A.in1) (k := j) (I.ok.hd hc) i2 b D.b2 its2.toArray) hz hTI hTO ⟨h1, src1⟩ ⟨h2, src2⟩ (by simp only [List.size_toArray]; omega) (by simp only [List.size_toArray]; omega)
      (by simp only [List.size_toArray]; omega) fun h' tk kp => ⟨rfl, I.turnedL (t' := tk) (ch := [z, TI, TO, i1, i2]) (fun c o hb q =>
      kp c o (fun q' => hb (by simp [q'])) (fun q' => hb (by simp [q'])) (fun q' => hb (by simp [q'])) (fun q' => hb (by simp [q'])) q) hf⟩
  self := fun A i s Q E st h => wpAny_pyIter_zip st.1 h
end
end VL
/-! VL8: sources of loops. -/
namespace VL
set_option autoImplicit false
open PySem PySem.Spec PyProof.Rows L2
/-- J hands out what the trees ps tell -/
def rI (X : Cx) (B : Bs) : PSt → St → Hp → List PV → It → Prop := fun _ _ H ps J =>
  ∀ (i : Nat) (H' : Hp), Ext H H' → (∀ p, ps[i]? = some p → J.go i H' ∧ ∀ x H'', J.yld i H' x H'' → Grow H' H'' ∧ Rep X.K B.C H'' p x) ∧ (i = ps.length → J.stop i H')
def PXI (X : Cx) (W : WX) (B : Bs) (tg iter : Expr) (d : M (List PV)) : Prop := PI X tg iter (tR X W B (rI X B) d)
theorem PI.weak {X : Cx} {tg iter : Expr} {t t' : TI} (h : PI X tg iter t) (k : ∀ σ H R, t' σ H R → t σ H R) : PI X tg iter t' := ⟨fun pins s σ H R I q => h.run pins s σ H R I (k σ H R q)⟩
def keyP : Key → PV
  | .inl i => .int i
  | .inr x => .str x
def keyT (ks : List Key) : PV := .tup (ks.map keyP)
def walkV : PV → Option (List PV)
  | .tup ps => some ps
  | .lst ps => some ps
  | .dct ks _ => some (ks.map keyP)
  | .dtt ks _ => some (ks.map keyT)
  | _ => none
def dWalk (d : M PV) : M (List PV) := fun s => (d s).bind fun (p, s) => (optR (walkV p)).bind fun ps => .ok (ps, s)
def rangeL (lo : Int) (n : Nat) : List PV := (List.range n).map fun i => .int (lo + (i : Nat))
def dRange1 (d : M PV) : M (List PV) := fun s => (d s).bind fun (p, s) => match p with
  | .int j => if decide (-(2 ^ 62) ≤ j) && decide (j < 2 ^ 62) then .ok (rangeL 0 j.toNat, s) else .bad
  | _ => .bad
def dRange2 (a b : M PV) : M (List PV) := fun s => (a s).bind fun (p, s) => (b s).bind fun (q, s) => match p, q with
  | .int i, .int j => if (decide (-(2 ^ 62) ≤ i) && decide (i < 2 ^ 62)) && (decide (-(2 ^ 62) ≤ j) && decide (j < 2 ^ 62)) then .ok (rangeL i (j - i).toNat, s) else .bad
  | _, _ => .bad
def enumL : Nat → List PV → List PV
  | _, [] => []
  | n, p :: ps => .tup [.int (n : Nat), p] :: enumL (n + 1) ps
theorem enumL_length : ∀ (n : Nat) (ps : List PV), (enumL n ps).length = ps.length
  | _, [] => rfl
  | n, p :: ps => by simp only [enumL, List.length_cons, enumL_length (n + 1) ps]
theorem enumL_get : ∀ (n : Nat) (ps : List PV) (i : Nat), (enumL n ps)[i]? = ps[i]?.map fun p => .tup [.int ((n + i : Nat) : Int), p]
  | _, [], i => by simp only [enumL, List.getElem?_nil, Option.map_none]
  | n, p :: ps, 0 => by simp only [enumL, List.getElem?_cons_zero, Option.map_some, Nat.add_zero]
  | n, p :: ps, i + 1 => by
    simp only [enumL, List.getElem?_cons_succ]
    rw [enumL_get (n + 1) ps i]
    congr 1
    funext q
    congr 4
    omega
def dEnum (d : M PV) : M (List PV) := fun s => (d s).bind fun (p, s) => (optR (itemsV p)).bind fun ps => .ok (enumL 0 ps, s)
def zipL (ps qs : List PV) : List PV := List.zipWith (fun p q => .tup [p, q]) ps qs
def dZip (a b : M PV) : M (List PV) := fun s => (a s).bind fun (p, s) => (b s).bind fun (q, s) => (optR (itemsV p)).bind fun ps => (optR (itemsV q)).bind fun qs => .ok (zipL ps qs, s)
def dKeys (d : M PV) : M (List PV) := fun s => (d s).bind fun (p, s) => match p with
  | .dct ks _ => .ok (ks.map keyP, s)
  | _ => .bad
def dVals (d : M PV) : M (List PV) := fun s => (d s).bind fun (p, s) => match p with
  | .dct _ ps => .ok (ps, s)
  | _ => .bad
def dItems (d : M PV) : M (List PV) := fun s => (d s).bind fun (p, s) => match p with
  | .dct ks ps => .ok (zipL (ks.map keyP) ps, s)
  | _ => .bad
section
variable {X : Cx} {W : WX} {B : Bs} {pos : Pos} {tg : Expr}
theorem kV_rep {H : Hp} (k : Key) : Rep X.K B.C H (keyP k) (kV k) := by
  cases k with
  | inl i => exact rep_int.mpr rfl
  | inr x => exact rep_str.mpr rfl
theorem items_k {C : CloT} {H : Hp} {p : PV} {v : V} {ps : List PV} (h : Rep X.K C H p v) (e : itemsV p = some ps) : ∃ k a xs, v = .ref a ∧ SqK k X.K H a xs ∧ RepL X.K C H ps xs := by
  cases p with
  | tup qs => cases e; obtain ⟨a, xs, rfl, s, r⟩ := rep_tupS h; exact ⟨true, a, xs, rfl, s, r⟩
  | lst qs => cases e; obtain ⟨a, xs, rfl, s, r⟩ := rep_lst.mp h; exact ⟨false, a, xs, rfl, s, r⟩
  | tix qs => cases e; obtain ⟨a, o, xs, rfl, s, r⟩ := rep_tix.mp h; exact ⟨true, a, xs, rfl, .inl (.inr ⟨o, s.1⟩), r⟩
  | _ => cases e
/-- a tuple's, a shared list's own items; a dict's keys -/
theorem rI_tup {s : PSt} {σ : St} {H : Hp} {a : Addr} {xs : List V} {ps : List PV} (h : SqT X.K H a xs) (r : RepL X.K B.C H ps xs) : rI X B s σ H ps (Itt X.K a) := by
  intro i H' x
  have h' := x.sqt h
  refine ⟨fun p hp => ?_, fun e => ⟨xs, h', by rw [r.length, e]; exact Nat.le_refl _⟩⟩
  obtain ⟨v, hv, rv⟩ := r.get hp
  exact ⟨⟨xs, v, h', hv⟩, fun y H'' hy => by
    obtain ⟨e, z⟩ := hy
    subst e
    have := z xs h'
    rw [hv] at this
    cases this
    exact ⟨Grow.refl _, Rep.ext x _ _ rv⟩⟩
theorem rI_lst {s : PSt} {σ : St} {H : Hp} {a : Addr} {xs : List V} {ps : List PV} (h : FzL X.K H a xs) (r : RepL X.K B.C H ps xs) : rI X B s σ H ps (Itl X.K a) := by
  intro i H' x
  have h' := Ext.fzl (K := X.K) x h
  refine ⟨fun p hp => ?_, fun e => ⟨xs, h'.sql, by rw [r.length, e]; exact Nat.le_refl _⟩⟩
  obtain ⟨v, hv, rv⟩ := r.get hp
  exact ⟨⟨xs, v, h'.sql, hv⟩, fun y H'' hy => by
    obtain ⟨e, z⟩ := hy
    subst e
    have := z xs h'.sql
    rw [hv] at this
    cases this
    exact ⟨Grow.refl _, Rep.ext x _ _ rv⟩⟩
theorem rI_range {s : PSt} {σ : St} {H : Hp} (lo : Int) (n : Nat) : rI X B s σ H (rangeL lo n) (Itr lo n) := by
  intro i H' x
  refine ⟨fun p hp => ?_, fun e => by rw [e]; show n ≤ _; simp [rangeL]⟩
  unfold rangeL at hp
  rw [List.getElem?_map] at hp
  obtain ⟨j, hj, rfl⟩ := Option.map_eq_some_iff.mp hp
  obtain ⟨hlt, ej⟩ := List.getElem?_eq_some_iff.mp hj
  simp only [List.length_range] at hlt
  rw [List.getElem_range] at ej
  subst ej
  exact ⟨hlt, fun y H'' hy => by
    obtain ⟨e, z⟩ := hy
    subst e z
    exact ⟨Grow.refl _, rep_int.mpr rfl⟩⟩
theorem rI_enum {s : PSt} {σ : St} {H : Hp} {k : Bool} {a : Addr} {xs : List V} {ps : List PV} (h : SqK k X.K H a xs) (r : RepL X.K B.C H ps xs) : rI X B s σ H (enumL 0 ps) (ItE k X.K a xs) := by
  intro i H' x
  have h' := h.ext x
  refine ⟨fun p hp => ?_, fun e => ⟨h', by rw [e, enumL_length, r.length]⟩⟩
  rw [enumL_get] at hp
  obtain ⟨q, hq, rfl⟩ := Option.map_eq_some_iff.mp hp
  obtain ⟨v, hv, rv⟩ := r.get hq
  refine ⟨⟨h', (List.getElem?_eq_some_iff.mp hv).1⟩, fun y H'' ⟨T, z, ey, hT, hz, eH⟩ => ?_⟩
  subst ey eH
  rw [hv] at hz
  cases hz
  refine ⟨Grow.new hT, ?_⟩
  rw [Nat.zero_add]
  exact rep_newT hT (.cons (rep_int.mpr rfl) (.cons (Rep.ext x _ _ rv) .nil))
theorem rI_zip {s : PSt} {σ : St} {H : Hp} {k j : Bool} {a b : Addr} {xs ys : List V} {ps qs : List PV} (h : SqK k X.K H a xs) (r : RepL X.K B.C H ps xs) (h2 : SqK j X.K H b ys) (r2 : RepL X.K B.C H qs ys) : rI X B s σ H (zipL ps qs) (ItZ k j X.K a b xs ys) := by
  intro i H' x
  have h' := h.ext x
  have h2' := h2.ext x
  refine ⟨fun p hp => ?_, fun e => ⟨h', h2', by rw [e, zipL, List.length_zipWith, r.length, r2.length]⟩⟩
  unfold zipL at hp
  rw [List.getElem?_zipWith] at hp
  cases e1 : ps[i]? with
  | none => rw [e1] at hp; cases hp
  | some p1 =>
    cases e2 : qs[i]? with
    | none => rw [e1, e2] at hp; cases hp
    | some p2 =>
      rw [e1, e2] at hp
      cases hp
      obtain ⟨v, hv, rv⟩ := r.get e1
      obtain ⟨w, hw, rw'⟩ := r2.get e2
      refine ⟨⟨h', h2', (List.getElem?_eq_some_iff.mp hv).1, (List.getElem?_eq_some_iff.mp hw).1⟩, fun y H'' ⟨T, z, z2, ey, hT, hz, hz2, eH⟩ => ?_⟩
      subst ey eH
      rw [hv] at hz
      rw [hw] at hz2
      cases hz
      cases hz2
      exact ⟨Grow.new hT, rep_newT hT (.cons (Rep.ext x _ _ rv) (.cons (Rep.ext x _ _ rw') .nil))⟩

theorem dct_keys {K : PySem.W.Frag} {C : CloT} {H : Hp} {ks : List Key} {ps : List PV} {v : V} (h : Rep K C H (.dct ks ps) v) : ∃ a xs o, v = .ref a ∧ ks.length = ps.length ∧ H a = some (.frz o (.dK (ks.zip xs))) ∧ RepL K C H ps xs ∧ xs.length = ks.length := by
  simp only [Rep] at h
  obtain ⟨a, xs, e, l, ⟨o, f⟩, r⟩ := h
  exact ⟨a, xs, o, e, l, f, r, r.length.trans l.symm⟩
theorem rI_keys {s : PSt} {σ : St} {H : Hp} {ks : List Key} {xs : List V} {a : Addr} {o : Obj} (f : H a = some (.frz o (.dK (ks.zip xs)))) (l : xs.length = ks.length) : rI X B s σ H (ks.map keyP) (Itk a o (ks.zip xs)) := by
  intro i H' x
  have f' := x.frz _ _ _ f
  have ln : (ks.zip xs).length = ks.length := by rw [List.length_zip, l]; exact Nat.min_self _
  refine ⟨fun p hp => ?_, fun e => ⟨f', by rw [e, ln, List.length_map]; exact Nat.le_refl _⟩⟩
  rw [List.getElem?_map] at hp
  obtain ⟨k, hk, rfl⟩ := Option.map_eq_some_iff.mp hp
  have hlt := (List.getElem?_eq_some_iff.mp hk).1
  refine ⟨⟨f', by rw [ln]; exact hlt⟩, fun y H'' ⟨e, k', v, hkv, ey⟩ => ?_⟩
  subst e ey
  have e2 := List.getElem?_zip_eq_some.mp hkv
  rw [hk] at e2
  cases e2.1
  exact ⟨Grow.refl _, kV_rep _⟩
theorem RepL.keys {C : CloT} {H : Hp} : ∀ (k : List Key), RepL X.K C H (k.map keyP) (k.map kV)
  | [] => RepL.nil
  | a :: k => .cons (by cases a with | inl i => exact rep_int.mpr rfl | inr x => exact rep_str.mpr rfl) (RepL.keys k)
theorem rI_keysT {s : PSt} {σ : St} {H : Hp} {ks : List (List Key)} {xs : List V} {a : Addr} {o : Obj} (f : H a = some (.frz o (.dT (ks.zip xs)))) (l : xs.length = ks.length) : rI X B s σ H (ks.map keyT) (Itkt a o (ks.zip xs)) := by
  intro i H' x
  have f' := x.frz _ _ _ f
  have ln : (ks.zip xs).length = ks.length := by rw [List.length_zip, l]; exact Nat.min_self _
  refine ⟨fun p hp => ?_, fun e => ⟨f', by rw [e, ln, List.length_map]; exact Nat.le_refl _⟩⟩
  rw [List.getElem?_map] at hp
  obtain ⟨k, hk, rfl⟩ := Option.map_eq_some_iff.mp hp
  have hlt := (List.getElem?_eq_some_iff.mp hk).1
  refine ⟨⟨f', by rw [ln]; exact hlt⟩, fun y H'' ⟨e, k', v, q, hkv, ey, eq⟩ => ?_⟩
  subst e ey
  have e2 := List.getElem?_zip_eq_some.mp hkv
  rw [hk] at e2
  cases e2.1
  refine ⟨Grow.refl _, ?_⟩
  show Rep _ _ _ (.tup _) _
  simp only [Rep]
  exact ⟨q, _, rfl, eq, RepL.keys _⟩
theorem rI_vals {s : PSt} {σ : St} {H : Hp} {ks : List Key} {ps : List PV} {xs : List V} {a : Addr} {o : Obj} (f : H a = some (.frz o (.dK (ks.zip xs)))) (l : xs.length = ks.length) (r : RepL X.K B.C H ps xs) : rI X B s σ H ps (Itd a o (ks.zip xs)) := by
  intro i H' x
  have f' := x.frz _ _ _ f
  have ln : (ks.zip xs).length = xs.length := by rw [List.length_zip, l]; exact Nat.min_self _
  refine ⟨fun p hp => ?_, fun e => ⟨f', by rw [e, ln, r.length]; exact Nat.le_refl _⟩⟩
  obtain ⟨v, hv, rv⟩ := r.get hp
  refine ⟨⟨f', by rw [ln]; exact (List.getElem?_eq_some_iff.mp hv).1⟩, fun y H'' ⟨e, k', hkv⟩ => ?_⟩
  subst e
  have e2 := List.getElem?_zip_eq_some.mp hkv
  rw [hv] at e2
  cases e2.2
  exact ⟨Grow.refl _, Rep.ext x _ _ rv⟩
theorem rI_items {s : PSt} {σ : St} {H : Hp} {ks : List Key} {ps : List PV} {xs : List V} {a : Addr} {o : Obj} (f : H a = some (.frz o (.dK (ks.zip xs)))) (l : xs.length = ks.length) (r : RepL X.K B.C H ps xs) : rI X B s σ H (zipL (ks.map keyP) ps) (Iti a o (ks.zip xs)) := by
  intro i H' x
  have f' := x.frz _ _ _ f
  have ln : (ks.zip xs).length = xs.length := by rw [List.length_zip, l]; exact Nat.min_self _
  have lr := r.length
  refine ⟨fun p hp => ?_, fun e => ⟨f', by rw [e, ln, zipL, List.length_zipWith, List.length_map]; omega⟩⟩
  unfold zipL at hp
  rw [List.getElem?_zipWith, List.getElem?_map] at hp
  cases e1 : ks[i]? with
  | none => rw [e1] at hp; cases hp
  | some k =>
    cases e2 : ps[i]? with
    | none => rw [e1, e2] at hp; cases hp
    | some p2 =>
      rw [e1, e2] at hp
      cases hp
      obtain ⟨v, hv, rv⟩ := r.get e2
      refine ⟨⟨f', by rw [ln]; exact (List.getElem?_eq_some_iff.mp hv).1⟩, fun y H'' ⟨T, k', v', hkv, ey, hT, eH⟩ => ?_⟩
      subst ey eH
      have e3 := List.getElem?_zip_eq_some.mp hkv
      rw [e1, hv] at e3
      cases e3.1
      cases e3.2
      exact ⟨Grow.new hT, rep_newT hT (.cons (kV_rep _) (.cons (Rep.ext x _ _ rv) .nil))⟩
/-- one more source -/
theorem fp_new {pins : List (Addr × Obj)} {σ : St} {H : Hp} {s : Shared} (I : Inv X pins σ H s) {b : Addr} (h : s.heap.objs.size ≤ b) : FpOk X pins H b := I.fpOk h (I.hok.fresh h)
theorem pie_seq {pins : List (Addr × Obj)} {σ : St} {H : Hp} {s : Shared} {R : It → Hp → Prop} {k : Bool} {a : Addr} {xs : List V} (I : Inv X pins σ H s) (h : SqK k X.K H a xs) (q : R (if k = true then Itt X.K a else Itl X.K a) H) :
    wpAny (model X.prog X.w) X.A (pyIter (.ref a)) (PIE X pins σ tg R) X.xe s := by
  cases k with
  | true =>
    obtain ⟨its, rv, p, hz⟩ := I.tuple h
    refine wpAny_pyIter_tuple (show s.heap.IsTuple a its.toArray from p) ⟨s.heap.objs.size, [s.heap.objs.size], _, _, H, rfl, I.kept (t' := s.toks) fun b o e => Heap.get?_push_of_some _ e, turn_tuple a _, ⟨_, Heap.get?_push_size _ rfl, rfl, rfl⟩, fun b hb => ?_, q⟩
    rw [List.mem_singleton.mp hb]
    exact fp_new I (Nat.le_refl _)
  | false =>
    obtain ⟨its, rv, p, hz⟩ := I.list (FzL.sql h)
    refine wpAny_pyIter_list p.isList ⟨s.heap.objs.size, [s.heap.objs.size], _, _, H, rfl, I.kept (t' := s.toks) fun b o e => Heap.get?_push_of_some _ e, turn_list a _, ⟨_, Heap.get?_push_size _ rfl, rfl, rfl⟩, fun b hb => ?_, q⟩
    rw [List.mem_singleton.mp hb]
    exact fp_new I (Nat.le_refl _)
theorem rI_seq {s : PSt} {σ : St} {H : Hp} {k : Bool} {a : Addr} {xs : List V} {ps : List PV} (h : SqK k X.K H a xs) (r : RepL X.K B.C H ps xs) : rI X B s σ H ps (if k = true then Itt X.K a else Itl X.K a) := by
  cases k with
  | true => exact rI_tup h r
  | false => exact rI_lst h r
/-- for x in e -/
theorem pxi_walk {e : Expr} {d : M PV} (h : PX X W B e d) : PXI X W B tg e (dWalk d) := by
  refine ⟨fun pins s σ H R I q => ?_⟩
  obtain ⟨sp, R0, q⟩ := q
  have key : PE X e (fun σ H Q => tR X W B (rV X B) d σ H Q) := h
  -- a dict by the rule of its keys
  by_cases hd : ∃ ks ps s1, d sp = .ok (.dct ks ps, s1)
  · obtain ⟨ks, ps, s1, ed⟩ := hd
    refine (pi_keys (tg := tg) h).run pins s σ H R I ⟨sp, R0, ?_⟩
    unfold dWalk at q
    rw [ed] at q ⊢
    intro v H' R1 x1 r1
    obtain ⟨a, xs, o, rfl, l1, f, r, l2⟩ := dct_keys r1
    exact ⟨a, o, rfl, .inl ⟨_, f, q _ H' R1 x1 (rI_keys f l2)⟩⟩
  by_cases hdt : ∃ ks ps s1, d sp = .ok (.dtt ks ps, s1)
  · obtain ⟨ks, ps, s1, ed⟩ := hdt
    refine (pi_keys (tg := tg) h).run pins s σ H R I ⟨sp, R0, ?_⟩
    unfold dWalk at q
    rw [ed] at q ⊢
    intro v H' R1 x1 r1
    simp only [Rep] at r1
    obtain ⟨a, xs, rfl, l1, ⟨o, f⟩, r⟩ := r1
    exact ⟨a, o, rfl, .inr ⟨_, f, q _ H' R1 x1 (rI_keysT f (r.length.trans l1.symm))⟩⟩
  · refine thn (h.run pins s σ H (fun v H' => ∃ k a xs, v = .ref a ∧ SqK k X.K H' a xs ∧ R (if k = true then Itt X.K a else Itl X.K a) H') I ⟨sp, R0, ?_⟩) fun u s1 ⟨v, H1, I1, r1, k, a, xs, ev, sq, q1⟩ => ?_
    · unfold dWalk at q
      cases ed : d sp with
      | exc c p => rw [ed] at q; exact q
      | bad => rw [ed] at q; exact q
      | ok a =>
        obtain ⟨p, s1⟩ := a
        rw [ed] at q
        intro v H1 R1 x1 r1
        obtain ⟨ps, e1, q⟩ := optR_ok q
        have e2 : itemsV p = some ps := by
          cases p with
          | dct ks ps => exact absurd ⟨ks, ps, s1, ed⟩ hd
          | dtt ks ps => exact absurd ⟨ks, ps, s1, ed⟩ hdt
          | tup _ => exact e1
          | lst _ => exact e1
          | _ => cases e1
        obtain ⟨k, a, xs, rfl, sq, rl⟩ := items_k r1 e2
        exact ⟨k, a, xs, rfl, sq, q _ H1 R1 x1 (rI_seq sq rl)⟩
    · subst ev
      cases r1
      exact pie_seq I1 sq q1
theorem pxi_range1 {a : Expr} {da : M PV} {p : Pos} (hg : Gl X "range") (hm : X.mg "range" = none) (ha : PX X W B a da) (hs : starEach [a] X.env = [(false, eval a X.env)] := by rfl) : PXI X W B tg (.Call (.Name "range" p) [a] [] pos) (dRange1 da) := by
  refine PI.weak (pi_range1 hg hm (pa_cons ha pa_nil hs) hs) fun σ H R ⟨s, R0, q⟩ => ⟨s, R0, tRa.bind (rep' := rI X B) q fun p s1 v H1 R1 x1 r1 q => ?_⟩
  cases p with
  | int j =>
    dsimp only at q
    split at q
    case isFalse => exact q.elim
    rename_i hf
    simp only [Bool.and_eq_true, decide_eq_true_eq] at hf
    have e := rep_int.mp r1
    subst e
    exact ⟨j, rfl, hf.1, hf.2, q _ H1 R1 (Ext.refl H1) (rI_range 0 _)⟩
  | _ => exact (show False from q).elim
theorem pxi_range2 {a b : Expr} {da db : M PV} {p : Pos} (hg : Gl X "range") (hm : X.mg "range" = none) (ha : PX X W B a da) (hb : PX X W B b db) (hs : starEach [a, b] X.env = [(false, eval a X.env), (false, eval b X.env)] := by rfl) (hs2 : starEach [b] X.env = [(false, eval b X.env)] := by rfl) :
    PXI X W B tg (.Call (.Name "range" p) [a, b] [] pos) (dRange2 da db) := by
  refine PI.weak (pi_range2 hg hm (pa_cons ha (pa_cons hb pa_nil hs2) (by rw [hs, hs2])) hs hs2) fun σ H R ⟨s, R0, q⟩ => ⟨s, R0, tRa.bind (rep' := rI X B) q fun p s1 v H1 R1 x1 r1 q => ⟨s1, R1, tRa.bind (rep' := rI X B) q fun p2 s2 v2 H2 R2 x2 r2 q => ?_⟩⟩
  cases p with
  | int i =>
    cases p2 with
    | int j =>
      dsimp only at q
      split at q
      case isFalse => exact q.elim
      rename_i hf
      simp only [Bool.and_eq_true, decide_eq_true_eq] at hf
      have e := rep_int.mp r1
      have e2 := rep_int.mp r2
      subst e e2
      exact ⟨i, j, rfl, ⟨hf.1.1, hf.1.2, hf.2.1, hf.2.2⟩, q _ H2 R2 (Ext.refl H2) (rI_range i _)⟩
    | _ => exact (show False from q).elim
  | _ => exact (show False from q).elim
theorem pxi_enum {a : Expr} {da : M PV} {p tpos : Pos} {elts : List Expr} {kk : Nat} (hg : Gl X "enumerate") (hm : X.mg "enumerate" = none) (ha : PX X W B a da) (hs : starEach [a] X.env = [(false, eval a X.env)] := by rfl) : PXI X W B (.Tuple elts kk tpos) (.Call (.Name "enumerate" p) [a] [] pos) (dEnum da) := by
  refine ⟨fun pins s σ H R I h => ?_⟩
  obtain ⟨sp, R0, h⟩ := h
  refine Call_ (ld_blt I hg hm PyProof.Rows.boot_enumerate (PyProof.Rows.callWith_type1 (thn ((pa_cons ha pa_nil hs).run pos pins s σ H (fun vs H' => ∃ k a xs, vs = [.ref a] ∧ SqK k X.K H' a xs ∧ R (ItE k X.K a xs) H') I ⟨sp, R0, tRa.bind (rep' := rI X B) h fun p s1 v H1 R1 x1 r1 q => ?_⟩)
    fun us s1 ⟨vs, H1, I1, r1, k, a, xs, ev, sq, q⟩ => ?_) hs rfl))
  · obtain ⟨ps, e1, q⟩ := optR_ok q
    obtain ⟨k, a, xs, rfl, sq, rl⟩ := items_k r1 e1
    exact ⟨k, a, xs, rfl, sq, q _ H1 R1 (Ext.refl H1) (rI_enum sq rl)⟩
  · subst ev
    obtain ⟨u, eu, ru⟩ := vals1 r1
    subst eu
    cases ru
    obtain ⟨its, rv, src, hal⟩ := sq.raw I1
    refine vl_enum (begins_k k a its.toArray) src fun h' he hit hsz hk => wpAny_pyIter_enum he ?_
    have J : Inv X pins σ H1 { s1 with heap := h' } := I1.kept (t' := s1.toks) hk
    refine ⟨s1.heap.objs.size + 1, [s1.heap.objs.size + 1, s1.heap.objs.size], _, _, H1, rfl, J, turn_enumS k a (s1.heap.objs.size + 1) s1.heap.objs.size xs, ⟨⟨.none, he⟩, itAt_new hit, Nat.succ_ne_self _, Nat.ne_of_lt (Nat.lt_succ_of_lt hal), Nat.ne_of_lt hal⟩, fun b hb => ?_, q⟩
    rcases List.mem_cons.mp hb with z | hb
    · rw [z]; exact fp_new I1 (Nat.le_succ _)
    · rw [List.mem_singleton.mp hb]; exact fp_new I1 (Nat.le_refl _)
theorem nat14 {n : Nat} (z : n + 1 = n + 4) : False := by omega
theorem zipC2_new {N a b : Addr} (ha : a < N) (hb : b < N) : ZipC2 (N + 4) (N + 2) (N + 3) N (N + 1) a b := by
  have ha' : (a : Nat) < N := ha
  have hb' : (b : Nat) < N := hb
  have hne : ∀ {x y : Nat}, x < y → x ≠ y := fun h => Nat.ne_of_lt h
  refine ⟨?_, hne ha', hne (Nat.lt_succ_of_lt hb'), hne (Nat.lt_add_of_pos_right (by decide)), fun z => ?_⟩
  · exact zip_sep2 (N := N) (fp1 := [a]) (fp2 := [b]) (fun c hc => by rw [List.mem_singleton.mp hc]; exact ha) (fun c hc => by rw [List.mem_singleton.mp hc]; exact hb)
  · exact nat14 z
theorem pxi_zip {a b : Expr} {da db : M PV} {p tpos : Pos} {elts : List Expr} {kk : Nat} (hg : Gl X "zip") (hm : X.mg "zip" = none) (ha : PX X W B a da) (hb : PX X W B b db) (hs : starEach [a, b] X.env = (false, eval a X.env) :: starEach [b] X.env := by rfl) (hs2 : starEach [b] X.env = (false, eval b X.env) :: starEach [] X.env := by rfl)
    (hpl : (backTo pos (starEach [b] X.env)).any (·.1) = false := by rfl) : PXI X W B (.Tuple elts kk tpos) (.Call (.Name "zip" p) [a, b] [] pos) (dZip da db) := by
  refine ⟨fun pins s σ H R I h => ?_⟩
  obtain ⟨sp, R0, h⟩ := h
  refine Call_ (ld_blt I hg hm PyProof.Rows.boot_zip (PyProof.Rows.callWith_type1 (thn ((pa_cons ha (pa_cons hb pa_nil hs2) hs).run pos pins s σ H (fun vs H' => ∃ k j a b xs ys, vs = [.ref a, .ref b] ∧ SqK k X.K H' a xs ∧ SqK j X.K H' b ys ∧ R (ItZ k j X.K a b xs ys) H') I
    ⟨sp, R0, tRa.bind (rep' := rI X B) h fun p s1 v H1 R1 x1 r1 q => ⟨s1, R1, tRa.bind (rep' := rI X B) q fun p2 s2 v2 H2 R2 x2 r2 q => ?_⟩⟩)
    fun us s1 ⟨vs, H1, I1, r1, k, j, a, b, xs, ys, ev, sq, sq2, q⟩ => ?_) hs hpl))
  · obtain ⟨ps, e1, q⟩ := optR_ok q
    obtain ⟨qs, e2, q⟩ := optR_ok q
    obtain ⟨k, a, xs, rfl, sq, rl⟩ := items_k r1 e1
    obtain ⟨j, b, ys, rfl, sq2, rl2⟩ := items_k r2 e2
    exact ⟨k, j, a, b, xs, ys, rfl, sq.ext x2, sq2, q _ H2 R2 (Ext.refl H2) (rI_zip (sq.ext x2) (RepL.ext x2 _ _ rl) sq2 rl2)⟩
  · subst ev
    obtain ⟨u, u2, eu, ru, ru2⟩ := vals2 r1
    subst eu
    cases ru
    cases ru2
    obtain ⟨its, rv, src, hal⟩ := sq.raw I1
    obtain ⟨its2, rv2, src2, hbl⟩ := sq2.raw I1
    refine zip_begins2 (begins_k k a its.toArray) (begins_k j b its2.toArray) src src2 fun h' hz hTI hTO h1 h2 hsz hk => wpAny_pyIter_zip hz ?_
    have J : Inv X pins σ H1 { s1 with heap := h' } := I1.kept (t' := s1.toks) hk
    refine ⟨s1.heap.objs.size + 4, [s1.heap.objs.size + 4, s1.heap.objs.size + 2, s1.heap.objs.size + 3, s1.heap.objs.size, s1.heap.objs.size + 1], _, _, H1, rfl, J, turn_zipS k j xs ys (zipC2_new hal hbl), ⟨hz, hTI, ⟨_, _, hTO⟩, itAt_new h1, itAt_new h2⟩, fun c hc => ?_, q⟩
    have hle : s1.heap.objs.size ≤ c := by
      simp only [List.mem_cons, List.not_mem_nil, or_false] at hc
      rcases hc with z | z | z | z | z <;> rw [z] <;> first | exact Nat.le_refl _ | exact Nat.le_add_right _ _
    exact fp_new I1 hle
theorem pxi_keys {e : Expr} {d : M PV} {apos : Pos} (h : PX X W B e d) (hbase : attributeBase e "keys" X.env (eval e X.env) = eval e X.env := by rfl) (hline : (apos.endLine == pos.line) = true := by rfl) : PXI X W B tg (.Call (.Attribute e "keys" apos) [] [] pos) (dKeys d) := by
  refine PI.weak (pi_keysM h hbase hline) fun σ H R ⟨s, R0, q⟩ => ⟨s, R0, tRa.bind (rep' := rI X B) q fun p s1 v H1 R1 x1 r1 q => ?_⟩
  cases p with
  | dct ks ps =>
    obtain ⟨a, xs, o, rfl, l1, f, r, l2⟩ := dct_keys r1
    exact ⟨a, o, _, rfl, f, q _ H1 R1 (Ext.refl H1) (rI_keys f l2)⟩
  | _ => exact (show False from q).elim
theorem pxi_vals {e : Expr} {d : M PV} {apos : Pos} (h : PX X W B e d) (hbase : attributeBase e "values" X.env (eval e X.env) = eval e X.env := by rfl) (hline : (apos.endLine == pos.line) = true := by rfl) : PXI X W B tg (.Call (.Attribute e "values" apos) [] [] pos) (dVals d) := by
  refine PI.weak (pi_values h hbase hline) fun σ H R ⟨s, R0, q⟩ => ⟨s, R0, tRa.bind (rep' := rI X B) q fun p s1 v H1 R1 x1 r1 q => ?_⟩
  cases p with
  | dct ks ps =>
    obtain ⟨a, xs, o, rfl, l1, f, r, l2⟩ := dct_keys r1
    exact ⟨a, o, _, rfl, f, q _ H1 R1 (Ext.refl H1) (rI_vals f l2 r)⟩
  | _ => exact (show False from q).elim
theorem pxi_items {e : Expr} {d : M PV} {apos tpos : Pos} {elts : List Expr} {kk : Nat} (h : PX X W B e d) (hbase : attributeBase e "items" X.env (eval e X.env) = eval e X.env := by rfl) (hline : (apos.endLine == pos.line) = true := by rfl) : PXI X W B (.Tuple elts kk tpos) (.Call (.Attribute e "items" apos) [] [] pos) (dItems d) := by
  refine PI.weak (pi_items h hbase hline) fun σ H R ⟨s, R0, q⟩ => ⟨s, R0, tRa.bind (rep' := rI X B) q fun p s1 v H1 R1 x1 r1 q => ?_⟩
  cases p with
  | dct ks ps =>
    obtain ⟨a, xs, o, rfl, l1, f, r, l2⟩ := dct_keys r1
    exact ⟨a, o, _, rfl, f, q _ H1 R1 (Ext.refl H1) (rI_items f l2 r)⟩
  | _ => exact (show False from q).elim
end
end VL
/-! VL9: statements. -/
namespace VL
set_option autoImplicit false
open PySem PySem.Spec PyProof.Rows L2
/-- how a statement ends -/
inductive Fl where
  | nx | rt (p : PV) | rf (p : PV) | bk | ct
def endR (X : Cx) (W : WX) (B : Bs) (D : Ends) (r : Res (Fl × PSt)) (H : Hp) : Prop :=
  match r with
  | .ok (.nx, s) => ∀ σ' H', RelSt X.K B s σ' H' → Ext H H' → D.nx σ' H'
  | .ok (.bk, s) => ∀ σ' H', RelSt X.K B s σ' H' → Ext H H' → D.bk σ' H'
  | .ok (.ct, s) => ∀ σ' H', RelSt X.K B s σ' H' → Ext H H' → D.ct σ' H'
  | .ok (.rt p, s) => ∀ v σ' H', RelSt X.K B s σ' H' → Ext H H' → Rep X.K B.C H' p v → D.rt v H'
  | .ok (.rf p, s) => ∀ v σ' H', RelSt X.K B s σ' H' → Ext H H' → (∃ a, v = .ref a ∧ Own X.K B.C H' p a ∧ B.H0 a = none) → D.rt v H'
  | .exc c p => ExcR X W B c p
  | .bad => False
def tS (X : Cx) (W : WX) (B : Bs) (d : M Fl) : TS := fun D σ H => ∃ s, RelSt X.K B s σ H ∧ endR X W B D (d s) H
def PXS (X : Cx) (W : WX) (B : Bs) (st : Stmt) (d : M Fl) : Prop := PS X st (tS X W B d)
def PXB (X : Cx) (W : WX) (B : Bs) (sts : List Stmt) (d : M Fl) : Prop := PSs X sts (tS X W B d)
section
variable {X : Cx} {W : WX} {B : Bs} {D : Ends} {pos : Pos}
theorem endR.mono {r : Res (Fl × PSt)} {H H1 : Hp} (h : endR X W B D r H) (x : Ext H H1) : endR X W B D r H1 := by
  cases r with
  | ok a =>
    obtain ⟨f, s⟩ := a
    cases f with
    | nx => exact fun σ' H' R x' => h σ' H' R (x.trans x')
    | bk => exact fun σ' H' R x' => h σ' H' R (x.trans x')
    | ct => exact fun σ' H' R x' => h σ' H' R (x.trans x')
    | rt p => exact fun v σ' H' R x' r => h v σ' H' R (x.trans x') r
    | rf p => exact fun v σ' H' R x' r => h v σ' H' R (x.trans x') r
  | exc c p => exact h
  | bad => exact h
/-- a piece ahead of the end -/
theorem endR.bind {γ δ : Type} {rep' : PSt → St → Hp → γ → δ → Prop} {r : Res (γ × PSt)} {f : γ × PSt → Res (Fl × PSt)} {σ : St} {H : Hp} {R : δ → Hp → Prop} (h : endR X W B D (r.bind f) H)
    (k : ∀ a s b H1, RelSt X.K B s σ H1 → Ext H H1 → rep' s σ H1 a b → endR X W B D (f (a, s)) H1 → R b H1) : tRa X W B rep' r σ H R := by
  cases r with
  | ok a =>
    obtain ⟨a, s⟩ := a
    exact fun b H1 R1 x r1 => k a s b H1 R1 x r1 (endR.mono h x)
  | exc c p => exact h
  | bad => exact h
theorem endR.optR {α : Type} {o : Option α} {f : α → Res (Fl × PSt)} {H : Hp} (h : endR X W B D ((VL.optR o).bind f) H) : ∃ a, o = some a ∧ endR X W B D (f a) H := by
  cases o with
  | none => exact h.elim
  | some a => exact ⟨a, rfl, h⟩

/-! ### blocks -/
def dNx : M Fl := fun s => .ok (.nx, s)
def dBk : M Fl := fun s => .ok (.bk, s)
def dCt : M Fl := fun s => .ok (.ct, s)
def dBad {α : Type} : M α := fun _ => .bad
def dSeq (a b : M Fl) : M Fl := fun s => (a s).bind fun (f, s) => match f with
  | .nx => b s
  | .rt p => .ok (.rt p, s)
  | .rf p => .ok (.rf p, s)
  | .bk => .ok (.bk, s)
  | .ct => .ok (.ct, s)
theorem pxb_nil : PXB X W B [] dNx := PSs.weak pss_nil fun D σ H ⟨s, R, h⟩ => h σ H R (Ext.refl H)
theorem seq_read {a b : M Fl} {σ : St} {H : Hp} (h : tS X W B (dSeq a b) D σ H) : tS X W B a { D with nx := tS X W B b D } σ H := by
  obtain ⟨s, R, h⟩ := h
  refine ⟨s, R, ?_⟩
  unfold dSeq at h
  cases e : a s with
  | ok x =>
    obtain ⟨f, s1⟩ := x
    rw [e] at h
    cases f with
    | nx => exact fun σ' H' R' x' => ⟨s1, R', endR.mono h x'⟩
    | bk => exact h
    | ct => exact h
    | rt p => exact h
    | rf p => exact h
  | exc c p => rw [e] at h; exact h
  | bad => rw [e] at h; exact h
theorem pxb_cons {st : Stmt} {rest : List Stmt} {a b : M Fl} (h1 : PXS X W B st a) (h2 : PXB X W B rest b) : PXB X W B (st :: rest) (dSeq a b) :=
  PSs.weak (pss_cons h1 h2) fun D σ H h => seq_read h
theorem pxb_one {st : Stmt} {a : M Fl} (h1 : PXS X W B st a) : PXB X W B [st] a := pss_one h1
theorem pxs_bad {st : Stmt} : PXS X W B st dBad := PS.weak ps_never fun _ _ _ ⟨_, _, h⟩ => h
theorem pxb_bad {sts : List Stmt} : PXB X W B sts dBad := PSs.weak pss_never fun _ _ _ ⟨_, _, h⟩ => h
theorem px_bad {e : Expr} : PX X W B e dBad := ⟨fun _ _ _ _ _ _ ⟨_, _, h⟩ => h.elim⟩
theorem pxs_pass : PXS X W B (.Pass pos) dNx := PS.weak ps_pass fun D σ H ⟨s, R, h⟩ => h σ H R (Ext.refl H)
theorem pxs_break : PXS X W B (.Break pos) dBk := PS.weak ps_break fun D σ H ⟨s, R, h⟩ => h σ H R (Ext.refl H)
theorem pxs_continue : PXS X W B (.Continue pos) dCt := PS.weak ps_continue fun D σ H ⟨s, R, h⟩ => h σ H R (Ext.refl H)
def dExpr (d : M PV) : M Fl := fun s => (d s).bind fun (_, s) => .ok (.nx, s)
theorem pxs_expr {e : Expr} {d : M PV} (h : PX X W B e d) (hs : swapsWith e none pos.line X.env = pure false := by rfl) : PXS X W B (.Expr e pos) (dExpr d) :=
  PS.weak (ps_expr h hs) fun D σ H ⟨s, R, h⟩ => ⟨s, R, endR.bind (rep' := rV X B) h fun p s1 v H1 R1 x1 r1 q => q σ H1 R1 (Ext.refl _)⟩
def dRet (d : M PV) : M Fl := fun s => (d s).bind fun (p, s) => .ok (.rt p, s)
def dRetN : M Fl := fun s => .ok (.rt .non, s)
def dRetF (d : M PV) : M Fl := fun s => (d s).bind fun (p, s) => .ok (.rf p, s)
theorem pxs_retF {e : Expr} {d : M PV} (h : PF X W B e d) : PXS X W B (.Return (some e) pos) (dRetF d) :=
  PS.weak (ps_ret h) fun D σ H ⟨s, R, h⟩ => ⟨s, R, endR.bind (rep' := rF X B) h fun p s1 v H1 R1 x1 ⟨a, ea, o, n, _⟩ q => q v σ H1 R1 (Ext.refl _) ⟨a, ea, o, n⟩⟩
theorem pxs_ret {e : Expr} {d : M PV} (h : PX X W B e d) : PXS X W B (.Return (some e) pos) (dRet d) :=
  PS.weak (ps_ret h) fun D σ H ⟨s, R, h⟩ => ⟨s, R, endR.bind (rep' := rV X B) h fun p s1 v H1 R1 x1 r1 q => q v σ H1 R1 (Ext.refl _) r1⟩
theorem pxs_retN : PXS X W B (.Return none pos) dRetN := PS.weak ps_retN fun D σ H ⟨s, R, h⟩ => h .non σ H R (Ext.refl H) rep_non'
where rep_non' {H : Hp} : Rep X.K B.C H .non .non := by simp only [Rep]
def dIf (c : M Bool) (a b : M Fl) : M Fl := fun s => (c s).bind fun (k, s) => if k then a s else b s
theorem pxs_if {c : Expr} {a b : List Stmt} {dc : M Bool} {da db : M Fl} (hc : PXT X W B c dc) (ha : PXB X W B a da) (hb : PXB X W B b db) : PXS X W B (.If c a b pos) (dIf dc da db) :=
  PS.weak (ps_if hc ha hb) fun D σ H ⟨s, R, h⟩ => ⟨s, R, endR.bind (rep' := rB) h fun k s1 k' H1 R1 x1 r1 q => by
    cases r1
    cases k with
    | true => exact ⟨s1, R1, q⟩
    | false => exact ⟨s1, R1, q⟩⟩

/-! ### targets -/
def PXG (X : Cx) (B : Bs) (tg : Expr) (g : PV → PSt → Res PSt) : Prop :=
  PG X tg fun v σ H Q => ∃ s p, RelSt X.K B s σ H ∧ Rep X.K B.C H p v ∧ match g p s with
    | .ok s' => ∀ σ' H', RelSt X.K B s' σ' H' → Ext H H' → Q σ' H'
    | _ => False
def PXGs (X : Cx) (B : Bs) (tgs : List Expr) (g : List PV → PSt → Res PSt) : Prop :=
  PGs X tgs fun vs σ H Q => ∃ s ps, RelSt X.K B s σ H ∧ RepL X.K B.C H ps vs ∧ match g ps s with
    | .ok s' => ∀ σ' H', RelSt X.K B s' σ' H' → Ext H H' → Q σ' H'
    | _ => False
def gNm (i : Nat) : PV → PSt → Res PSt := fun p s => .ok (s.set i (some (.sh p)))
def gNl : List PV → PSt → Res PSt := fun ps s => match ps with
  | [] => .ok s
  | _ => .bad
def gCs (g : PV → PSt → Res PSt) (gs : List PV → PSt → Res PSt) : List PV → PSt → Res PSt := fun ps s => match ps with
  | [] => .bad
  | p :: ps => (g p s).bind fun s => gs ps s
def gTp (n : Nat) (gs : List PV → PSt → Res PSt) : PV → PSt → Res PSt := fun p s => match p with
  | .tup ps => if ps.length == n then gs ps s else .bad
  | _ => .bad
theorem PG.weak {tg : Expr} {t t' : TG} (h : PG X tg t) (k : ∀ v σ H Q, t' v σ H Q → t v σ H Q) : PG X tg t' := ⟨fun pins s σ H v u Q I r q => h.run pins s σ H v u Q I r (k v σ H Q q)⟩
theorem PGs.weak {tg : List Expr} {t t' : TGs} (h : PGs X tg t) (k : ∀ v σ H Q, t' v σ H Q → t v σ H Q) : PGs X tg t' := ⟨fun pins s σ H v u Q I r q => h.run pins s σ H v u Q I r (k v σ H Q q)⟩
theorem pxg_name {i : Nat} {x : Str} (hN : X.N.Nodup) (hi : X.N[i]? = some x) (hx : Loc X.env.scope x) (hf : X.fn x = true ∨ X.env.scope.names.lookup x = some .local := by first | exact .inl rfl | exact .inr rfl | assumption) : PXG X B (.Name x pos) (gNm i) :=
  PG.weak (pg_name hN hi hx hf) fun v σ H Q ⟨s, p, R, r, q⟩ => q _ H (R.set r) (Ext.refl H)
theorem pxg_nil : PXGs X B [] gNl := PGs.weak pgs_nil fun v σ H Q ⟨s, ps, R, r, q⟩ => by
  cases ps with
  | nil => exact ⟨by simpa only [RepL] using r, q σ H R (Ext.refl H)⟩
  | cons p ps => exact q.elim
theorem pxg_cons {e : Expr} {es : List Expr} {g : PV → PSt → Res PSt} {gs : List PV → PSt → Res PSt} (h1 : PXG X B e g) (h2 : PXGs X B es gs) (hs : (assignEach (e :: es) X.env).map (·.2) = assign e X.env :: (assignEach es X.env).map (·.2) := by rfl) : PXGs X B (e :: es) (gCs g gs) :=
  PGs.weak (pgs_cons h1 h2 hs) fun v σ H Q ⟨s, ps, R, r, q⟩ => by
    cases ps with
    | nil => exact q.elim
    | cons p ps =>
      obtain ⟨x, xs, rfl, r1, r2⟩ := r.head
      refine ⟨x, xs, rfl, s, p, R, r1, ?_⟩
      unfold gCs at q
      dsimp only at q
      cases e1 : g p s with
      | ok s1 =>
        rw [e1] at q
        simp only [Res.bind_ok] at q
        dsimp only
        intro σ1 H1 R1 x1
        refine ⟨s1, ps, R1, RepL.ext x1 _ _ r2, ?_⟩
        cases e2 : gs ps s1 with
        | ok s2 =>
          rw [e2] at q
          exact fun σ2 H2 R2 x2 => q σ2 H2 R2 (x1.trans x2)
        | exc c p => rw [e2] at q; exact q.elim
        | bad => rw [e2] at q; exact q.elim
      | exc c p => rw [e1] at q; exact q.elim
      | bad => rw [e1] at q; exact q.elim
theorem pxg_tup {es : List Expr} {k n : Nat} {gs : List PV → PSt → Res PSt} (hc : X.calm = true) (h : PXGs X B es gs)
    (hn : (assignEach es X.env).length = n := by rfl) (hst : (assignEach es X.env).findIdx? (·.1) = none := by rfl) : PXG X B (.Tuple es k pos) (gTp n gs) :=
  PG.weak (pg_tup hc h hn hst) fun v σ H Q ⟨s, p, R, r, q⟩ => by
    cases p with
    | tup ps =>
      obtain ⟨a, xs, rfl, st, rl⟩ := rep_tupS r
      unfold gTp at q
      dsimp only at q
      by_cases hl : (ps.length == n) = true
      · rw [if_pos hl] at q
        exact ⟨a, xs, rfl, st, by rw [rl.length]; exact eq_of_beq hl, s, ps, R, rl, q⟩
      · rw [if_neg hl] at q
        exact q.elim
    | _ => exact q.elim

/-! ### assignments -/
def dAsg (g : PV → PSt → Res PSt) (d : M PV) : M Fl := fun s => (d s).bind fun (p, s) => (g p s).bind fun s => .ok (.nx, s)
theorem asg_end {g : PV → PSt → Res PSt} {p : PV} {s : PSt} {H : Hp} (h : endR X W B D ((g p s).bind fun s => .ok (.nx, s)) H) (ne : ∀ c v, g p s ≠ .exc c v) : match g p s with
    | .ok s' => ∀ σ' H', RelSt X.K B s' σ' H' → Ext H H' → D.nx σ' H'
    | _ => False := by
  cases e : g p s with
  | ok s1 => rw [e] at h; exact h
  | exc c v => exact absurd e (ne c v)
  | bad => rw [e] at h; exact h.elim
def NoG (g : PV → PSt → Res PSt) : Prop := ∀ p s c v, g p s ≠ .exc c v
def NoGs (g : List PV → PSt → Res PSt) : Prop := ∀ p s c v, g p s ≠ .exc c v
theorem nog_nm {i : Nat} : NoG (gNm i) := fun _ _ _ _ z => nomatch z
theorem nog_nl : NoGs gNl := fun p _ _ _ z => by cases p <;> cases z
theorem nog_cs {g : PV → PSt → Res PSt} {gs : List PV → PSt → Res PSt} (h : NoG g) (h' : NoGs gs) : NoGs (gCs g gs) := fun p s c v z => by
  cases p with
  | nil => cases z
  | cons p ps =>
    unfold gCs at z
    dsimp only at z
    cases e : g p s with
    | ok s1 => rw [e] at z; exact h' _ _ _ _ z
    | exc c v => exact h _ _ _ _ e
    | bad => rw [e] at z; cases z
theorem nog_tp {n : Nat} {gs : List PV → PSt → Res PSt} (h' : NoGs gs) : NoG (gTp n gs) := fun p s c v z => by
  unfold gTp at z
  cases p with
  | tup ps =>
    dsimp only at z
    split at z
    · exact h' _ _ _ _ z
    · cases z
  | _ => cases z
theorem pxs_set {i : Nat} {x : Str} {e : Expr} {d : M PV} {pos' : Pos} (hN : X.N.Nodup) (hi : X.N[i]? = some x) (hx : Loc X.env.scope x) (he : PX X W B e d) (hs : swapsWith e (some (.Name x pos')) pos.line X.env = pure false := by rfl)
    (hf : X.fn x = true ∨ X.env.scope.names.lookup x = some .local := by first | exact .inl rfl | exact .inr rfl | assumption) : PXS X W B (.Assign [.Name x pos'] e pos) (dAsg (gNm i) d) :=
  PS.weak (ps_set hN hi hx he hs hf) fun D σ H ⟨s, R, h⟩ => ⟨s, R, endR.bind (rep' := rV X B) h fun p s1 v H1 R1 x1 r1 q => q _ H1 (R1.set r1) (Ext.refl _)⟩
def dOwn (i : Nat) (d : M PV) : M Fl := fun s => (d s).bind fun (p, s) => .ok (.nx, s.set i (some (.ow p)))
theorem pxs_own {i : Nat} {x : Str} {e : Expr} {d : M PV} {pos' : Pos} (hN : X.N.Nodup) (hi : X.N[i]? = some x) (hx : Loc X.env.scope x) (he : PF X W B e d) (hs : swapsWith e (some (.Name x pos')) pos.line X.env = pure false := by rfl)
    (hf : X.fn x = true ∨ X.env.scope.names.lookup x = some .local := by first | exact .inl rfl | exact .inr rfl | assumption) : PXS X W B (.Assign [.Name x pos'] e pos) (dOwn i d) :=
  PS.weak (ps_set hN hi hx he hs hf) fun D σ H ⟨s, R, h⟩ => ⟨s, R, endR.bind (rep' := rF X B) h fun p s1 v H1 R1 x1 ⟨a, ea, o, n, l⟩ q => by
    subst ea
    exact q _ H1 (R1.setOw o n l) (Ext.refl _)⟩
theorem pxs_asg {tg e : Expr} {d : M PV} {g : PV → PSt → Res PSt} (ng : NoG g) (he : PX X W B e d) (hg : PXG X B tg g) (hs : swapsWithSole [tg] e pos.line X.env = pure false := by rfl) (hw : swappedStores [tg] e X.env = pure none := by rfl)
    (h1 : (assignEach [tg] X.env).map (·.2) = [assign tg X.env] := by rfl) : PXS X W B (.Assign [tg] e pos) (dAsg g d) :=
  PS.weak (ps_asg he hg hs hw h1) fun D σ H ⟨s, R, h⟩ => ⟨s, R, endR.bind (rep' := rV X B) h fun p s1 v H1 R1 x1 r1 q => ⟨s1, p, R1, r1, asg_end q (ng p s1)⟩⟩

/-! ### several at once -/
/-- a thing told: shared, or fresh -/
def rL1 (X : Cx) (B : Bs) (s : PSt) (σ : St) (H : Hp) : LV → V → Prop
  | .sh p, v => Rep X.K B.C H p v
  | .ow p, v => ∃ a, v = .ref a ∧ Own X.K B.C H p a ∧ B.H0 a = none ∧ Lone s σ a
  | .po _, _ => False
def PXL (X : Cx) (W : WX) (B : Bs) (e : Expr) (d : M LV) : Prop := PE X e (tR X W B (fun s σ H => rL1 X B s σ H) d)
def dSh (d : M PV) : M LV := fun s => (d s).bind fun (p, s) => .ok (.sh p, s)
def dFr (d : M PV) : M LV := fun s => (d s).bind fun (p, s) => .ok (.ow p, s)
theorem pxl_sh {e : Expr} {d : M PV} (h : PX X W B e d) : PXL X W B e (dSh d) :=
  PE.weak h fun σ H Q ⟨s, R, q⟩ => ⟨s, R, tRa.bind (rep' := fun s σ H => rL1 X B s σ H) q fun p s1 v H1 R1 x1 r1 q => q v H1 R1 (Ext.refl _) r1⟩
theorem pxl_fr {e : Expr} {d : M PV} (h : PF X W B e d) : PXL X W B e (dFr d) :=
  PE.weak h fun σ H Q ⟨s, R, q⟩ => ⟨s, R, tRa.bind (rep' := fun s σ H => rL1 X B s σ H) q fun p s1 v H1 R1 x1 r1 q => q v H1 R1 (Ext.refl _) r1⟩
abbrev Bs.at (B : Bs) (H : Hp) : Bs := { B with H0 := H }
/-- a fresh thing is held as if it had been there -/
theorem RelSt.hold {K : PySem.W.Frag} {s : PSt} {σ : St} {H : Hp} {a : Addr} {o : HO} (R : RelSt K B s σ H) (h : H a = some o) (l : Lone s σ a) : RelSt K (B.at (upd B.H0 a o)) s σ H where
  len := R.len
  same := fun b u e np nt => by
    by_cases z : b = a
    · subst z
      have e' : upd B.H0 b o b = some u := e
      rw [upd_same] at e'
      cases e'
      exact h
    · have e' : upd B.H0 a o b = some u := e
      rw [upd_ne z] at e'
      exact R.same b u e' np nt
  pt := fun b hb => ⟨(R.pt b hb).1, fun z => by
    have z : upd B.H0 a o b = none := z
    by_cases e : b = a
    · subst e; rw [upd_same] at z; cases z
    · rw [upd_ne e] at z; exact (R.pt b hb).2 z⟩
  at_ := fun i l' e => by
    obtain ⟨v, ev, r⟩ := R.at_ i l' e
    refine ⟨v, ev, ?_⟩
    cases l' with
    | sh p => exact r
    | ow p =>
      obtain ⟨b, eb, ob, nb⟩ := r
      subst eb
      have z : b ≠ a := fun z => by subst z; exact l i p e ev
      exact ⟨b, rfl, ob, (upd_ne z).trans nb⟩
    | po p => exact r
  sep := R.sep
  sepP := R.sepP
  tb := R.tb
  tbs := fun b ps e => by
    have e' : upd B.H0 a o b = some (.tbl ps) := e
    by_cases z : b = a
    · subst z
      rw [upd_same] at e'
      cases e'
      exact ⟨ps, h⟩
    · rw [upd_ne z] at e'
      exact R.tbs b ps e'
theorem RelSt.held {K : PySem.W.Frag} {s : PSt} {σ : St} {H : Hp} {a : Addr} {o : HO} (R : RelSt K (B.at (upd B.H0 a o)) s σ H) (h0 : B.H0 a = none) (hp : B.pot ≠ some a) (ht : ∀ ps, o ≠ .tbl ps) : RelSt K B s σ H ∧ H a = some o ∧ Lone s σ a := by
  refine ⟨⟨R.len, fun b u e np nt => R.same b u ?_ np nt, fun b hb => ⟨(R.pt b hb).1, fun z => (R.pt b hb).2 ?_⟩, fun i l' e => ?_, R.sep, R.sepP, R.tb, fun b ps e => R.tbs b ps ?_⟩, R.same a o upd_same hp ht, fun i p e ev => ?_⟩
  · show upd B.H0 a o b = some u
    rw [upd_ne (ne_of_none e h0)]
    exact e
  · show upd B.H0 a o b = none
    rw [upd_ne (fun y => hp (by rw [← y]; exact hb))]
    exact z
  · obtain ⟨v, ev, r⟩ := R.at_ i l' e
    refine ⟨v, ev, ?_⟩
    cases l' with
    | sh p => exact r
    | ow p =>
      obtain ⟨b, eb, ob, nb⟩ := r
      refine ⟨b, eb, ob, ?_⟩
      have q : upd B.H0 a o b = none := nb
      by_cases z : b = a
      · subst z; exact h0
      · rw [upd_ne z] at q; exact q
    | po p => exact r
  · show upd B.H0 a o b = some _
    rw [upd_ne (ne_of_none e h0)]
    exact e
  · obtain ⟨v, ev', r⟩ := R.at_ i _ e
    rw [ev] at ev'
    cases ev'
    obtain ⟨b, eb, ob, nb⟩ := r
    cases eb
    have q : upd B.H0 a o a = none := nb
    rw [upd_same] at q
    cases q
theorem ExcR.at {c : Str} {p : PV} {a : Addr} {o : HO} (h : ExcR X W B c p) (h0 : B.H0 a = none) : ExcR X W (B.at (upd B.H0 a o)) c p :=
  fun cls dx v σ' H' m hx r nd k t => h cls dx v σ' H' m hx r (by
    have nd : upd B.H0 a o dx = none := nd
    by_cases z : dx = a
    · rw [z]; exact h0
    · rw [upd_ne z] at nd; exact nd) ⟨fun b u e np nt => k.keep b u (by show upd B.H0 a o b = some u; rw [upd_ne (ne_of_none e h0)]; exact e) np nt, fun b ps e => k.tbs b ps (by show upd B.H0 a o b = some _; rw [upd_ne (ne_of_none e h0)]; exact e)⟩ t
/-- x, y at once, told each -/
def d2 (a b : M LV) : M (LV × LV) := fun s => (a s).bind fun (p, s) => (b s).bind fun (q, s) => .ok ((p, q), s)
def r2 (X : Cx) (B : Bs) : PSt → St → Hp → LV × LV → List V → Prop := fun s σ H l vs => ∃ v w, vs = [v, w] ∧ rL1 X B s σ H l.1 v ∧ rL1 X B s σ H l.2 w ∧ (∀ p q, l.1 = .ow p → l.2 = .ow q → v ≠ w)

theorem par_read {a b : M LV} {σ : St} {H : Hp} {Q : List V → Hp → Prop} (h : tR X W B (r2 X B) (d2 a b) σ H Q) :
    tR X W B (fun s σ H => rL1 X B s σ H) a σ H fun v H1 => ∃ H0 : Hp, tR X W (B.at H0) (fun s σ H => rL1 X (B.at H0) s σ H) b σ H1 fun w H2 => Q [v, w] H2 := by
  obtain ⟨s, R, h⟩ := h
  refine ⟨s, R, tRa.bind (rep' := r2 X B) h fun l s1 v H1 R1 x1 r1 h => ?_⟩
  cases l with
  | po p => exact r1.elim
  | sh p =>
    refine ⟨B.H0, s1, R1, tRa.bind (B := B) (rep' := r2 X B) h fun l2 s2 w H2 R2 x2 r2' h => ?_⟩
    exact h _ H2 R2 (Ext.refl _) ⟨v, w, rfl, Rep.ext x2 _ _ r1, r2', fun _ _ z => nomatch z⟩
  | ow p =>
    obtain ⟨c, rfl, own, n, lo⟩ := r1
    obtain ⟨u, hu, t1, _⟩ := own.get
    refine ⟨upd B.H0 c u, s1, R1.hold hu lo, ?_⟩
    dsimp only at h
    cases eb : b s1 with
    | ok x =>
      obtain ⟨l2, s2⟩ := x
      rw [eb] at h
      intro w H2 R2 x2 r2'
      obtain ⟨R3, h3, lo3⟩ := R2.held n (R1.hpot n) t1.tbl
      refine h _ H2 R3 x2 ⟨.ref c, w, rfl, ⟨c, rfl, own.ext x2 (by rw [h3, hu]), n, lo3⟩, ?_, ?_⟩
      · cases l2 with
        | sh q => exact r2'
        | po q => exact r2'
        | ow q =>
          obtain ⟨b2, eb2, ob2, nb2, lb2⟩ := r2'
          refine ⟨b2, eb2, ob2, ?_, lb2⟩
          have nb2 : upd B.H0 c u b2 = none := nb2
          by_cases z : b2 = c
          · subst z; exact n
          · rw [upd_ne z] at nb2; exact nb2
      · intro p' q e1 e2 e3
        dsimp only at e2
        subst e2
        obtain ⟨b2, eb2, ob2, nb2, lb2⟩ := r2'
        rw [eb2] at e3
        cases e3
        have nb2 : upd B.H0 c u c = none := nb2
        rw [upd_same] at nb2
        cases nb2
    | exc ec p2 => rw [eb] at h; exact ExcR.at h n
    | bad => rw [eb] at h; exact h
theorem set_l1 {s : PSt} {σ : St} {H : Hp} {i : Nat} {l : LV} {v : V} (R : RelSt X.K B s σ H) (r : rL1 X B s σ H l v) : RelSt X.K B (s.set i (some l)) (σ.set i (some v)) H := by
  cases l with
  | sh p => exact R.set r
  | ow p => obtain ⟨a, rfl, o, n, lo⟩ := r; exact R.setOw o n lo
  | po p => exact r.elim
theorem l1_set {s : PSt} {σ : St} {H : Hp} {i : Nat} {l m : LV} {v w : V} (R : RelSt X.K B s σ H) (r : rL1 X B s σ H l v) (h : ∀ p q, m = .ow p → l = .ow q → w ≠ v) : rL1 X B (s.set i (some m)) (σ.set i (some w)) H l v := by
  cases l with
  | sh p => exact r
  | po p => exact r.elim
  | ow p =>
    obtain ⟨a, rfl, o, n, lo⟩ := r
    refine ⟨a, rfl, o, n, fun j q e1 e2 => ?_⟩
    by_cases hj : i = j
    · subst hj
      have hlt : i < s.length := by
        have := (List.getElem?_eq_some_iff.mp e1).1
        simpa using this
      rw [List.getElem?_set_self hlt] at e1
      rw [List.getElem?_set_self (by rw [← R.len]; exact hlt)] at e2
      cases e1
      cases e2
      exact h q p rfl rfl rfl
    · rw [List.getElem?_set_ne hj] at e1 e2
      exact lo j q e1 e2
def dPar (i j : Nat) (a b : M LV) : M Fl := fun s => (d2 a b s).bind fun ((p, q), s) => .ok (.nx, (s.set i (some p)).set j (some q))
theorem pxs_par {i j : Nat} {x y : Str} {a b : Expr} {da db : M LV} {px py pt : Pos} {kt k2 pt2} (hc : X.calm = true) (hN : X.N.Nodup) (hi : X.N[i]? = some x) (hj : X.N[j]? = some y) (hij : i ≠ j)
    (hx : X.env.scope.names.lookup x = some .local) (hy : X.env.scope.names.lookup y = some .local) (ha : PXL X W B a da) (hb : ∀ H0, PXL X W (B.at H0) b db)
    (hw : swappedStores [.Tuple [.Name x px, .Name y py] kt pt] (.Tuple [a, b] k2 pt2) X.env = pure (some [x, y]))
    (hs : swapsWithSole [.Tuple [.Name x px, .Name y py] kt pt] (.Tuple [a, b] k2 pt2) pos.line X.env = pure false := by rfl)
    (hs1 : starEach [a, b] X.env = (false, eval a X.env) :: starEach [b] X.env := by rfl) (hs2 : starEach [b] X.env = (false, eval b X.env) :: starEach [] X.env := by rfl) :
    PXS X W B (.Assign [.Tuple [.Name x px, .Name y py] kt pt] (.Tuple [a, b] k2 pt2) pos) (dPar i j da db) := by
  have hpa : PA X [a, b] (fun σ H Q => tR X W B (fun s σ H => rL1 X B s σ H) da σ H fun v H1 => ∃ H0 : Hp, tR X W (B.at H0) (fun s σ H => rL1 X (B.at H0) s σ H) db σ H1 fun w H2 => Q [v, w] H2) := by
    have hb' : PE X b (fun σ H Q => ∃ H0 : Hp, tR X W (B.at H0) (fun s σ H => rL1 X (B.at H0) s σ H) db σ H Q) := ⟨fun pins s σ H Q I ⟨H0, q⟩ => (hb H0).run pins s σ H Q I q⟩
    exact PA.weak (pa_cons ha (pa_cons hb' pa_nil hs2) hs1) fun σ H Q h => h
  refine PS.weak (ps_par hc hN hi hj hij hx hy hpa hw hs) fun D σ H ⟨s, R, h⟩ => ?_
  refine par_read (Q := fun vs H1 => ∃ v w, vs = [v, w] ∧ D.nx ((σ.set i (some v)).set j (some w)) H1) ⟨s, R, endR.bind (rep' := r2 X B) h fun l s1 vs H1 R1 x1 ⟨v, w, e, q1, q2, q3⟩ q => ⟨v, w, e, ?_⟩⟩
  exact q _ H1 (set_l1 (set_l1 R1 q1) (l1_set R1 q2 q3)) (Ext.refl _)
end
end VL
/-! VL10: loops; what is written in place. -/
namespace VL
set_option autoImplicit false
open PySem PySem.Spec PyProof.Rows L2
def dForL (g : PV → PSt → Res PSt) (body : M Fl) : List PV → M Fl
  | [], s => .ok (.nx, s)
  | p :: ps, s => (g p s).bind fun s => (body s).bind fun (f, s) => match f with
    | .nx => dForL g body ps s
    | .ct => dForL g body ps s
    | .bk => .ok (.nx, s)
    | .rt p => .ok (.rt p, s)
    | .rf p => .ok (.rf p, s)
def dFor (it : M (List PV)) (g : PV → PSt → Res PSt) (body : M Fl) : M Fl := fun s => (it s).bind fun (ps, s) => dForL g body ps s
def dWhl (c : M Bool) (b : M Fl) : Nat → M Fl
  | 0, _ => .bad
  | n + 1, s => (c s).bind fun (k, s) => if k then (b s).bind fun (f, s) => match f with
    | .nx => dWhl c b n s
    | .ct => dWhl c b n s
    | .bk => .ok (.nx, s)
    | .rt p => .ok (.rt p, s)
    | .rf p => .ok (.rf p, s) else .ok (.nx, s)
section
variable {X : Cx} {W : WX} {B : Bs} {D : Ends} {pos : Pos}
theorem pxs_for {tg iter : Expr} {body : List Stmt} {di : M (List PV)} {g : PV → PSt → Res PSt} {db : M Fl} (hp : PassesOwn (model X.prog X.w) X.A X.env X.xe) (hc : X.calm = true) (ng : NoG g) (hi : PXI X W B tg iter di) (hg : PXG X B tg g) (hb : PXB X W B body db)
    (hs : ∀ x, foldedSetIterable iter X.env x = pure x := by intro _; rfl) : PXS X W B (.For tg iter body [] pos) (dFor di g db) := by
  refine PS.weak (ps_for hp hc hi hg hb hs) fun D σ H ⟨s, R, h⟩ => ⟨s, R, endR.bind (rep' := rI X B) h fun ps s1 J H1 R1 x1 rj h => ?_⟩
  refine ⟨fun i m σ' H' => m = ps.length - i ∧ i ≤ ps.length ∧ Ext H1 H' ∧ ∃ s', RelSt X.K B s' σ' H' ∧ endR X W B D (dForL g db (ps.drop i) s') H', ⟨_, rfl, Nat.zero_le _, Ext.refl _, s1, R1, h⟩, ?_⟩
  rintro i m σ' H' ⟨rfl, hi, xh, s', R', h'⟩
  by_cases hlt : i < ps.length
  · have ep : ps[i]? = some ps[i] := List.getElem?_eq_getElem hlt
    obtain ⟨go, yl⟩ := (rj i H' xh).1 _ ep
    rw [List.drop_eq_getElem_cons hlt] at h'
    unfold dForL at h'
    refine .inr ⟨go, fun σ2 H2 => Ext H1 H2 ∧ ∃ s2, RelSt X.K B s2 σ2 H2 ∧ endR X W B D (dForL g db (ps.drop (i + 1)) s2) H2, fun σ2 H2 ⟨x2, s2, R2, h2⟩ => ⟨ps.length - (i + 1), by omega, rfl, hlt, x2, s2, R2, h2⟩, fun x H3 y => ?_⟩
    obtain ⟨gr, rp⟩ := yl x H3 y
    refine ⟨s', ps[i], R'.grow gr.ext gr, rp, ?_⟩
    cases eg : g ps[i] s' with
    | exc c v => exact absurd eg (ng _ _ _ _)
    | bad => rw [eg] at h'; exact h'.elim
    | ok s4 =>
      rw [eg] at h'
      simp only [Res.bind_ok] at h'
      dsimp only
      intro σ4 H4 R4 x4
      refine ⟨s4, R4, ?_⟩
      have xx : Ext H1 H4 := xh.trans (gr.ext.trans x4)
      have h4 := endR.mono h' (gr.ext.trans x4)
      cases eb : db s4 with
      | ok r =>
        obtain ⟨f, s5⟩ := r
        rw [eb] at h4
        cases f with
        | nx => exact fun σ5 H5 R5 x5 => ⟨xx.trans x5, s5, R5, endR.mono h4 x5⟩
        | ct => exact fun σ5 H5 R5 x5 => ⟨xx.trans x5, s5, R5, endR.mono h4 x5⟩
        | bk => exact h4
        | rt p => exact h4
        | rf p => exact h4
      | exc c v => rw [eb] at h4; exact h4
      | bad => rw [eb] at h4; exact h4
  · have e : i = ps.length := by omega
    subst e
    rw [List.drop_length] at h'
    exact .inl ⟨(rj _ H' xh).2 rfl, h' σ' H' R' (Ext.refl _)⟩
theorem pxs_while {c : Expr} {body : List Stmt} {dc : M Bool} {db : M Fl} (n : PSt → Nat) (hp : PassesOwn (model X.prog X.w) X.A X.env X.xe) (hc : PXT X W B c dc) (hb : PXB X W B body db) : PXS X W B (.While c body [] pos) (fun s => dWhl dc db (n s) s) := by
  refine PS.weak (ps_while hp hc hb) fun D σ H ⟨s, R, h⟩ => ⟨fun m σ' H' => ∃ s', RelSt X.K B s' σ' H' ∧ endR X W B D (dWhl dc db m s') H', ⟨n s, s, R, h⟩, ?_⟩
  rintro m σ' H' ⟨s', R', h'⟩
  cases m with
  | zero => exact h'.elim
  | succ m =>
    unfold dWhl at h'
    refine ⟨s', R', endR.bind (rep' := rB) h' fun k s1 k' H1 R1 x1 r1 q => ?_⟩
    cases r1
    cases k with
    | false => exact q σ' H1 R1 (Ext.refl _)
    | true =>
      refine ⟨fun σ2 H2 => ∃ s2, RelSt X.K B s2 σ2 H2 ∧ endR X W B D (dWhl dc db m s2) H2, fun σ2 H2 w => ⟨m, Nat.lt_succ_self _, w⟩, s1, R1, ?_⟩
      simp only [if_pos] at q
      cases eb : db s1 with
      | ok r =>
        obtain ⟨f, s5⟩ := r
        rw [eb] at q
        cases f with
        | nx => exact fun σ5 H5 R5 x5 => ⟨s5, R5, endR.mono q x5⟩
        | ct => exact fun σ5 H5 R5 x5 => ⟨s5, R5, endR.mono q x5⟩
        | bk => exact q
        | rt p => exact q
        | rf p => exact q
      | exc c v => rw [eb] at q; exact q
      | bad => rw [eb] at q; exact q

/-! ### in place -/
def owL (s : PSt) (i : Nat) : Option (List PV) := match s[i]? with
  | some (some (.ow (.lst ps))) => some ps
  | _ => none
def owD (s : PSt) (i : Nat) : Option (List Key × List PV) := match s[i]? with
  | some (some (.ow (.dct ks ps))) => some (ks, ps)
  | _ => none
theorem owL_at {s : PSt} {i : Nat} {ps : List PV} (h : owL s i = some ps) : s[i]? = some (some (.ow (.lst ps))) := by
  unfold owL at h
  split at h
  · cases h; assumption
  · cases h
theorem owD_at {s : PSt} {i : Nat} {ks : List Key} {ps : List PV} (h : owD s i = some (ks, ps)) : s[i]? = some (some (.ow (.dct ks ps))) := by
  unfold owD at h
  split at h
  · cases h; assumption
  · cases h
theorem rel_lst {s : PSt} {σ : St} {H : Hp} {i : Nat} {ps : List PV} (R : RelSt X.K B s σ H) (h : owL s i = some ps) : ∃ a xs, σ[i]? = some (some (.ref a)) ∧ H a = some (.lst xs) ∧ RepL X.K B.C H ps xs ∧ B.H0 a = none := by
  obtain ⟨v, ev, a, rfl, ⟨xs, h1, h2⟩, n⟩ := R.at_ i _ (owL_at h)
  exact ⟨a, xs, ev, h1, h2, n⟩
theorem rel_dct {s : PSt} {σ : St} {H : Hp} {i : Nat} {ks : List Key} {ps : List PV} (R : RelSt X.K B s σ H) (h : owD s i = some (ks, ps)) : ∃ a xs, σ[i]? = some (some (.ref a)) ∧ ks.length = ps.length ∧ H a = some (.dK (ks.zip xs)) ∧ RepL X.K B.C H ps xs ∧ B.H0 a = none := by
  obtain ⟨v, ev, a, rfl, ⟨l, xs, h1, h2⟩, n⟩ := R.at_ i _ (owD_at h)
  exact ⟨a, xs, ev, l, h1, h2, n⟩
def dApp (i : Nat) (d : M PV) : M PV := fun s => (optR (owL s i)).bind fun _ => (d s).bind fun (p, s) => (optR (owL s i)).bind fun ps => if fitsL (ps.length + 1) then .ok (.non, s.set i (some (.ow (.lst (ps ++ [p]))))) else .bad
def dExt (i : Nat) (d : M PV) : M PV := fun s => (optR (owL s i)).bind fun _ => (d s).bind fun (p, s) => (optR (owL s i)).bind fun ps => match p with
  | .lst qs => if fitsL (ps.length + qs.length) then .ok (.non, s.set i (some (.ow (.lst (ps ++ qs))))) else .bad
  | _ => .bad
theorem ext_lst {H : Hp} {a : Addr} {xs ys : List V} (h : H a = some (.lst xs)) : Ext H (upd H a (.lst ys)) := Ext.upd h wr_lst
theorem ext_dct {H : Hp} {a : Addr} {xs ys : List (Key × V)} (h : H a = some (.dK xs)) : Ext H (upd H a (.dK ys)) := Ext.upd h wr_dK
theorem rel_setL {s : PSt} {σ : St} {H : Hp} {i : Nat} {ps qs : List PV} {a : Addr} {xs ys : List V} (R : RelSt X.K B s σ H) (h : owL s i = some ps) (e : σ[i]? = some (some (.ref a))) (ha : H a = some (.lst xs)) (r : RepL X.K B.C H qs ys) :
    RelSt X.K B (s.set i (some (.ow (.lst qs)))) σ (upd H a (.lst ys)) := R.write (owL_at h) e ⟨ys, upd_same, RepL.ext (ext_lst ha) _ _ r⟩
theorem rel_setD {s : PSt} {σ : St} {H : Hp} {i : Nat} {ks js : List Key} {ps qs : List PV} {a : Addr} {zs : List (Key × V)} {ys : List V} (R : RelSt X.K B s σ H) (h : owD s i = some (ks, ps)) (e : σ[i]? = some (some (.ref a))) (ha : H a = some (.dK zs)) (l : js.length = qs.length) (r : RepL X.K B.C H qs ys) :
    RelSt X.K B (s.set i (some (.ow (.dct js qs)))) σ (upd H a (.dK (js.zip ys))) := R.write (owD_at h) e ⟨l, ys, upd_same, RepL.ext (ext_dct ha) _ _ r⟩
section
variable {i : Nat} {x : Str} {e : Expr} {d : M PV} {npos apos : Pos}
theorem px_app (hN : X.N[i]? = some x) (hv : Vis X.env.scope x) (he : PX X W B e d) (hd : (x == ("__debug__" : Str)) = false := by decide) (hcd : (x == ("__classdict__" : Str)) = false := by decide)
    (hbase : attributeBase (.Name x npos) "append" X.env (eval (.Name x npos) X.env) = eval (.Name x npos) X.env := by rfl)
    (hfew : ((backTo pos (starEach [e] X.env)).all (fun x => !x.1) && (backToKw pos (keywordEach [] X.env)).all (fun x => x.1.isSome)
      && decide ([e].length + ([] : List Keyword).length + (if ([] : List Keyword).isEmpty then 0 else 1) < 30)) = true := by rfl)
    (hline : (apos.endLine == pos.line) = true := by rfl) (hs : starEach [e] X.env = (false, eval e X.env) :: starEach [] X.env := by rfl) (hplain : (backTo pos (starEach [] X.env)).any (·.1) = false := by rfl) :
    PX X W B (.Call (.Attribute (.Name x npos) "append" apos) [e] [] pos) (dApp i d) := by
  refine PE.weak (pe_bm PySem.F.plainAttrs_list PySem.F.slot_list_append PySem.F.type_list_append mt_append (pe_var hN hv hd hcd) (pa_cons he pa_nil hs) hbase hfew hline hs hplain) fun σ H Q ⟨s, R, q⟩ => ?_
  unfold dApp at q
  obtain ⟨ps0, e0, q⟩ := optR_ok q
  obtain ⟨a, xs, ea, ha, ra, na⟩ := rel_lst R e0
  refine ⟨_, ea, .inl ⟨rfl, xs, .inl (.inl ha)⟩, s, R, tRa.bind (rep' := rV X B) q fun p s1 v H1 R1 x1 r1 q => ?_⟩
  obtain ⟨ps, e1, q⟩ := optR_ok q
  obtain ⟨a', ys, ea', ha', ra', na'⟩ := rel_lst R1 e1
  rw [ea] at ea'
  cases ea'
  split at q
  case isFalse => exact q.elim
  rename_i hf
  have hl := fitsL_le hf
  refine ⟨a, ys, v, rfl, rfl, ha', by rw [ra'.length]; exact hl, ?_⟩
  exact q _ _ (rel_setL R1 e1 ea ha' (RepL.append ra' (.cons r1 .nil))) (ext_lst ha') (by simp only [Rep])
theorem px_ext (hN : X.N[i]? = some x) (hv : Vis X.env.scope x) (he : PF X W B e d) (hd : (x == ("__debug__" : Str)) = false := by decide) (hcd : (x == ("__classdict__" : Str)) = false := by decide)
    (hbase : attributeBase (.Name x npos) "extend" X.env (eval (.Name x npos) X.env) = eval (.Name x npos) X.env := by rfl)
    (hfew : ((backTo pos (starEach [e] X.env)).all (fun x => !x.1) && (backToKw pos (keywordEach [] X.env)).all (fun x => x.1.isSome)
      && decide ([e].length + ([] : List Keyword).length + (if ([] : List Keyword).isEmpty then 0 else 1) < 30)) = true := by rfl)
    (hline : (apos.endLine == pos.line) = true := by rfl) (hs : starEach [e] X.env = (false, eval e X.env) :: starEach [] X.env := by rfl) (hplain : (backTo pos (starEach [] X.env)).any (·.1) = false := by rfl) :
    PX X W B (.Call (.Attribute (.Name x npos) "extend" apos) [e] [] pos) (dExt i d) := by
  refine PE.weak (pe_bm PySem.F.plainAttrs_list PySem.F.slot_list_extend PySem.F.type_list_extend mt_extend (pe_var hN hv hd hcd) (pa_cons he pa_nil hs) hbase hfew hline hs hplain) fun σ H Q ⟨s, R, q⟩ => ?_
  unfold dExt at q
  obtain ⟨ps0, e0, q⟩ := optR_ok q
  obtain ⟨a, xs, ea, ha, ra, na⟩ := rel_lst R e0
  refine ⟨_, ea, .inl ⟨rfl, xs, .inl (.inl ha)⟩, s, R, tRa.bind (rep' := rV X B) q fun p s1 v H1 R1 x1 ⟨b, eb, ob, nb, lb⟩ q => ?_⟩
  subst eb
  obtain ⟨ps, e1, q⟩ := optR_ok q
  obtain ⟨a', ys, ea', ha', ra', na'⟩ := rel_lst R1 e1
  rw [ea] at ea'
  cases ea'
  cases p with
  | lst qs =>
    dsimp only at q
    split at q
    case isFalse => exact q.elim
    rename_i hf
    have hl := fitsL_le hf
    obtain ⟨zs, hb, rb⟩ := ob
    refine ⟨a, b, ys, zs, rfl, rfl, ha', hb, by rw [ra'.length, rb.length]; exact hl, ?_⟩
    exact q _ _ (rel_setL R1 e1 ea ha' (RepL.append ra' rb)) (ext_lst ha') (by simp only [Rep])
  | dct _ _ => exact (show False from q).elim
  | dtt _ _ => exact (show False from q).elim
  | _ => exact (show False from ob).elim
end

/-! ### dicts -/
def kHas {κ : Type} [DecidableEq κ] (k : κ) : List κ → Bool
  | [] => false
  | j :: ks => decide (j = k) || kHas k ks
def getK {κ : Type} [DecidableEq κ] (k : κ) : List κ → List PV → Option PV
  | j :: ks, p :: ps => if j = k then some p else getK k ks ps
  | _, _ => none
def setK {κ : Type} [DecidableEq κ] (k : κ) (p : PV) : List κ → List PV → List PV
  | j :: ks, q :: ps => (if j = k then p else q) :: setK k p ks ps
  | _, _ => []
def putP {κ : Type} [DecidableEq κ] (k : κ) (p : PV) (ks : List κ) (ps : List PV) : List κ × List PV := if kHas k ks then (ks, setK k p ks ps) else (ks ++ [k], ps ++ [p])
theorem kHas_any {κ : Type} [DecidableEq κ] (k : κ) : ∀ (ks : List κ) (xs : List V), ks.length = xs.length → ((ks.zip xs).any fun kv => decide (kv.1 = k)) = kHas k ks
  | [], xs, _ => by simp only [List.zip_nil_left, List.any_nil, kHas]
  | j :: ks, [], h => by simp at h
  | j :: ks, x :: xs, h => by
    simp only [List.zip_cons_cons, List.any_cons, kHas]
    rw [kHas_any k ks xs (by simpa using h)]
theorem getK_rep {κ : Type} [DecidableEq κ] {C : CloT} {H : Hp} (k : κ) : ∀ (ks : List κ) (ps : List PV) (xs : List V), ks.length = ps.length → RepL X.K C H ps xs → match getK k ks ps with
    | some p => ∃ v, valV (ks.zip xs) k = some v ∧ Rep X.K C H p v
    | none => valV (ks.zip xs) k = none
  | [], ps, xs, _, _ => by simp only [getK, List.zip_nil_left]; rfl
  | j :: ks, [], xs, h, _ => by simp at h
  | j :: ks, p :: ps, xs, h, r => by
    obtain ⟨y, ys, rfl, r1, r2⟩ := r.head
    unfold getK
    rw [List.zip_cons_cons]
    by_cases e : j = k
    · rw [if_pos e]
      exact ⟨y, valV_pos (p := (j, y)) e, r1⟩
    · rw [if_neg e, valV_neg (p := (j, y)) e]
      exact getK_rep k ks ps ys (by simpa using h) r2
theorem setK_rep {κ : Type} [DecidableEq κ] {C : CloT} {H : Hp} (k : κ) {p : PV} {v : V} (rv : Rep X.K C H p v) : ∀ (ks : List κ) (ps : List PV) (xs : List V), ks.length = ps.length → RepL X.K C H ps xs →
    (setK k p ks ps).length = ks.length ∧ ∃ ys, (ks.zip xs).map (fun kv => if kv.1 = k then (kv.1, v) else kv) = ks.zip ys ∧ RepL X.K C H (setK k p ks ps) ys
  | [], [], xs, _, _ => ⟨rfl, [], by simp only [List.zip_nil_left, List.map_nil], by simp only [setK, RepL]⟩
  | [], _ :: _, xs, h, _ => by simp at h
  | j :: ks, [], xs, h, _ => by simp at h
  | j :: ks, q :: ps, xs, h, r => by
    obtain ⟨y, ys, rfl, r1, r2⟩ := r.head
    obtain ⟨l, zs, e, rz⟩ := setK_rep k rv ks ps ys (by simpa using h) r2
    refine ⟨by simp only [setK, List.length_cons, l], (if j = k then v else y) :: zs, ?_, ?_⟩
    · rw [List.zip_cons_cons, List.map_cons, e, List.zip_cons_cons]
      congr 1
      by_cases ej : j = k
      · simp only [if_pos ej]
      · simp only [if_neg ej]
    · refine .cons ?_ rz
      by_cases ej : j = k
      · simp only [if_pos ej]; exact rv
      · simp only [if_neg ej]; exact r1
theorem putP_rep {κ : Type} [DecidableEq κ] {C : CloT} {H : Hp} {k : κ} {p : PV} {v : V} {ks : List κ} {ps : List PV} {xs : List V} (rv : Rep X.K C H p v) (l : ks.length = ps.length) (r : RepL X.K C H ps xs) :
    (putP k p ks ps).1.length = (putP k p ks ps).2.length ∧ ∃ ys, putK (ks.zip xs) k v = (putP k p ks ps).1.zip ys ∧ RepL X.K C H (putP k p ks ps).2 ys := by
  have hx : ks.length = xs.length := l.trans r.length.symm
  unfold putP putK
  rw [kHas_any k ks xs hx]
  by_cases h : kHas k ks = true
  · rw [if_pos h, if_pos h]
    obtain ⟨l2, ys, e, rr⟩ := setK_rep k rv ks ps xs l r
    exact ⟨l2.symm, ys, e, rr⟩
  · rw [if_neg h, if_neg h]
    refine ⟨by simp only [List.length_append, l, List.length_singleton], xs ++ [v], ?_, RepL.append r (.cons rv .nil)⟩
    show ks.zip xs ++ [(k, v)] = (ks ++ [k]).zip (xs ++ [v])
    rw [List.zip_append hx]
    rfl
theorem key_rep {C : CloT} {H : Hp} {p : PV} {v : V} {k : Key} (r : Rep X.K C H p v) (e : keyV p = some k) : v = kV k := by
  cases p with
  | int i => cases e; exact rep_int.mp r
  | str z => cases e; exact rep_str.mp r
  | _ => cases e
/-- d.setdefault(k, v) -/
def dSetd (i : Nat) (dk dv : M PV) : M PV := fun s => (optR (owD s i)).bind fun _ => (dk s).bind fun (q, s) => (dv s).bind fun (p, s) => (optR (owD s i)).bind fun (ks, ps) => (optR (keyV q)).bind fun k =>
  if fitsL (ks.length + 1) then (match getK k ks ps with
    | some r => .ok (r, s)
    | none => .ok (p, s.set i (some (.ow (.dct (putP k p ks ps).1 (putP k p ks ps).2))))) else .bad
theorem px_setd {i : Nat} {x : Str} {e f : Expr} {dk dv : M PV} {npos apos : Pos} (hN : X.N[i]? = some x) (hv : Vis X.env.scope x) (he : PX X W B e dk) (hf : PX X W B f dv) (m : M2 X (.Name x npos) "setdefault" apos e f pos)
    (hd : (x == ("__debug__" : Str)) = false := by decide) (hcd : (x == ("__classdict__" : Str)) = false := by decide) : PX X W B (.Call (.Attribute (.Name x npos) "setdefault" apos) [e, f] [] pos) (dSetd i dk dv) := by
  refine PE.weak (pe_dsetd (pe_var hN hv hd hcd) he hf m) fun σ H Q ⟨s, R, q⟩ => ?_
  unfold dSetd at q
  obtain ⟨⟨ks0, ps0⟩, e0, q⟩ := optR_ok q
  obtain ⟨a, xs, ea, la, ha, ra, na⟩ := rel_dct R e0
  refine ⟨_, ea, a, rfl, .inl ⟨_, .inl ha⟩, s, R, tRa.bind (rep' := rV X B) q fun qk s1 y H1 R1 x1 r1 q => ⟨s1, R1, tRa.bind (rep' := rV X B) q fun p s2 v H2 R2 x2 r2 q => ?_⟩⟩
  obtain ⟨⟨ks, ps⟩, e1, q⟩ := optR_ok q
  obtain ⟨k, ek, q⟩ := optR_ok q
  obtain ⟨a', ys, ea', la', ha', ra', na'⟩ := rel_dct R2 e1
  rw [ea] at ea'
  cases ea'
  split at q
  case isFalse => exact q.elim
  rename_i hfit
  have hl : (ks.zip ys).length < sizeLine := by
    have := fitsL_le hfit
    rw [List.length_zip, ra'.length, la', Nat.min_self, ← la']
    exact this
  refine ⟨_, k, ha', key_rep r1 ek, hl, ?_⟩
  have g := getK_rep (X := X) (C := B.C) (H := H2) k ks ps ys la' ra'
  cases eg : getK k ks ps with
  | some r =>
    rw [eg] at g q
    obtain ⟨w, ew, rw'⟩ := g
    exact ⟨fun v' ev' => by rw [ew] at ev'; cases ev'; exact q _ H2 R2 (Ext.refl _) rw', fun en => by rw [ew] at en; cases en⟩
  | none =>
    rw [eg] at g q
    refine ⟨fun v' ev' => absurd (g.symm.trans ev') (fun z => nomatch z), fun en => ?_⟩
    obtain ⟨l2, zs, e2, r3⟩ := putP_rep (k := k) r2 la' ra'
    rw [e2]
    exact q _ _ (rel_setD R2 e1 ea ha' l2 r3) (ext_dct ha') (Rep.ext (ext_dct ha') _ _ r2)
/-- d[k], x[i] -/
def dGet (c : M Src) (dk : M PV) : M PV := fun s => (c s).bind fun (c, s) => (dk s).bind fun (q, s) => (optR (c.get s)).bind fun p => match p with
  | .dct ks ps => (optR (keyV q)).bind fun k => (optR (getK k ks ps)).bind fun r => .ok (r, s)
  | p => (ixV p q).bind fun r => .ok (r, s)
theorem px_get {a b : Expr} {dc : M Src} {dk : M PV} (hu : X.A.units + 1 < cLine) (ha : PXC X W B a dc) (hb : PX X W B b dk) (hs : PlainIx b) (hn : NoSl b := by intro _ _; rfl) : PX X W B (.Subscript a b pos) (dGet dc dk) := by
  have h1 := px_ix (pos := pos) ha hb hs
  have h2 := pe_dget (pos := pos) hu ha hb hn
  refine ⟨fun pins s σ H Q I h => ?_⟩
  obtain ⟨sp, R, q⟩ := h
  -- which container it is
  unfold dGet at q
  cases e1 : dc sp with
  | exc c v => exact h1.run pins s σ H Q I ⟨sp, R, by unfold dIx; rw [e1] at q ⊢; exact q⟩
  | bad => rw [e1] at q; exact q.elim
  | ok r1 =>
    obtain ⟨c, s1⟩ := r1
    cases e2 : dk s1 with
    | exc c2 v => exact h1.run pins s σ H Q I ⟨sp, R, by unfold dIx; rw [e1] at q ⊢; dsimp only [Res.bind_ok] at q ⊢; rw [e2] at q ⊢; exact q⟩
    | bad => rw [e1] at q; dsimp only [Res.bind_ok] at q; rw [e2] at q; exact q.elim
    | ok r2 =>
      obtain ⟨t, s2⟩ := r2
      cases e3 : c.get s2 with
      | none => rw [e1] at q; dsimp only [Res.bind_ok] at q; rw [e2] at q; dsimp only [Res.bind_ok] at q; rw [e3] at q; exact q.elim
      | some p =>
        have q0 := q
        rw [e1] at q; dsimp only [Res.bind_ok] at q; rw [e2] at q; dsimp only [Res.bind_ok] at q; rw [e3] at q
        simp only [optR_some, Res.bind_ok] at q
        by_cases hd : ∃ ks ps, p = .dct ks ps
        · obtain ⟨ks, ps, rfl⟩ := hd
          dsimp only at q
          obtain ⟨k, ek, q⟩ := optR_ok q
          obtain ⟨r, er, q⟩ := optR_ok q
          refine h2.run pins s σ H Q I ⟨sp, R, ?_⟩
          rw [e1]
          intro v1 H1 R1 x1 r1
          refine ⟨s1, R1, ?_⟩
          rw [e2]
          intro v2 H2 R2 x2 r2
          have nw := src_now R2 (src_ext (s1 := s2) r1 x2) e3
          obtain ⟨a, xs, rfl, l, f, rr⟩ := nw
          have g := getK_rep (X := X) (C := B.C) (H := H2) k ks ps xs l rr
          rw [er] at g
          obtain ⟨w, ew, rw'⟩ := g
          exact ⟨a, w, rfl, .inl ⟨_, k, f, key_rep r2 ek, ew.symm⟩, q _ H2 R2 (x1.trans x2) rw'⟩
        · refine h1.run pins s σ H Q I ⟨sp, R, ?_⟩
          unfold dIx
          rw [e1]; dsimp only [Res.bind_ok]; rw [e2]; dsimp only [Res.bind_ok]; rw [e3]
          simp only [optR_some, Res.bind_ok]
          cases p with
          | dct ks ps => exact absurd ⟨ks, ps, rfl⟩ hd
          | _ => exact q
end
end VL
/-! VL11: x[i] = e. -/
namespace VL
set_option autoImplicit false
open PySem PySem.Spec PyProof.Rows L2
section
variable {X : Cx} {W : WX} {B : Bs} {D : Ends} {pos : Pos}
def owA (s : PSt) (i : Nat) : Option PV := match s[i]? with
  | some (some (.ow p)) => some p
  | some (some (.po p)) => some p
  | _ => none
theorem owA_at {K : PySem.W.Frag} {B : Bs} {s : PSt} {σ : St} {H : Hp} {i : Nat} {p : PV} (R : RelSt K B s σ H) (h : owA s i = some p) : ∃ a, σ[i]? = some (some (.ref a)) := by
  unfold owA at h
  split at h
  · rename_i e; obtain ⟨v, ev, a, rfl, _⟩ := R.at_ i _ e; exact ⟨a, ev⟩
  · rename_i e; obtain ⟨v, ev, a, rfl, _⟩ := R.at_ i _ e; exact ⟨a, ev⟩
  · cases h
theorem rel_pot {K : PySem.W.Frag} {B : Bs} {s : PSt} {σ : St} {H : Hp} {i : Nat} {ps : List PV} (R : RelSt K B s σ H) (h : s[i]? = some (some (.po (.lst ps)))) : ∃ a xs, σ[i]? = some (some (.ref a)) ∧ H a = some (.lst xs) ∧ RepL K B.C H ps xs ∧ B.pot = some a := by
  obtain ⟨v, ev, a, rfl, ⟨xs, h1, h2⟩, n⟩ := R.at_ i _ h
  exact ⟨a, xs, ev, h1, h2, n⟩
def dPut (i : Nat) (dk dv : M PV) : M Fl := fun s => (optR (owA s i)).bind fun _ => (dv s).bind fun (p, s) => (dk s).bind fun (q, s) => match s[i]? with
  | some (some (.ow (.lst ps))) => (match q with
    | .int j => (optR (ixN ps.length j)).bind fun n => .ok (.nx, s.set i (some (.ow (.lst (ps.set n p)))))
    | _ => .bad)
  | some (some (.po (.lst ps))) => (match q with
    | .int j => (optR (ixN ps.length j)).bind fun n => .ok (.nx, s.set i (some (.po (.lst (ps.set n p)))))
    | _ => .bad)
  | some (some (.ow (.dct ks ps))) => (optR (keyV q)).bind fun k => if fitsL (ks.length + 1) then .ok (.nx, s.set i (some (.ow (.dct (putP k p ks ps).1 (putP k p ks ps).2)))) else .bad
  | _ => .bad
theorem pxs_put {i : Nat} {x : Str} {a value : Expr} {dk dv : M PV} {npos pos' : Pos} (hu : X.A.units + 1 < cLine) (hN : X.N[i]? = some x) (hv : Vis X.env.scope x) (hk : PX X W B a dk) (he : PX X W B value dv)
    (hs : swapsWith value (some (.Subscript (.Name x npos) a pos')) pos.line X.env = pure false := by rfl)
    (hs1 : swapsWithSole [.Subscript (.Name x npos) a pos'] value pos.line X.env = pure false := by rfl) (hw : swappedStores [.Subscript (.Name x npos) a pos'] value X.env = pure none := by rfl)
    (h1 : (assignEach [.Subscript (.Name x npos) a pos'] X.env).map (·.2) = [assign (.Subscript (.Name x npos) a pos') X.env] := by rfl)
    (ha : ∀ v, assign (.Subscript (.Name x npos) a pos') X.env v = (do
      let ov ← holding [v] (eval (.Name x npos) X.env)
      let iv ← holding [v, ov] (eval a X.env)
      standAt pos'
      holding [v, ov, iv] (setItem ov iv v)
      release [v, ov, iv] []) := by intro _; rfl)
    (hd : (x == ("__debug__" : Str)) = false := by decide) (hcd : (x == ("__classdict__" : Str)) = false := by decide) :
    PXS X W B (.Assign [.Subscript (.Name x npos) a pos'] value pos) (dPut i dk dv) := by
  have hvar : PE X (.Name x npos) (tVar i) := pe_var hN hv hd hcd
  have hL := ps_asg (pos := pos) he (pg_sub (pos := pos') hvar hk set_list ha) hs1 hw h1
  have hD := ps_dput (pos := pos) (pos' := pos') hu hvar hk he hs
  refine ⟨fun pins s σ H D I h => ?_⟩
  obtain ⟨sp, R, h⟩ := h
  unfold dPut at h
  obtain ⟨p0, e0, h⟩ := endR.optR h
  obtain ⟨a0, ev0⟩ := owA_at R e0
  cases e1 : dv sp with
  | bad => rw [e1] at h; exact h.elim
  | exc c v => exact hL.run pins s σ H D I ⟨sp, R, by rw [e1] at h ⊢; exact h⟩
  | ok r1 =>
    obtain ⟨p, s1⟩ := r1
    rw [e1] at h
    dsimp only [Res.bind_ok] at h
    cases e2 : dk s1 with
    | bad => rw [e2] at h; exact h.elim
    | exc c v =>
      refine hD.run pins s σ H D I ⟨sp, R, ?_⟩
      rw [e1]
      intro v1 H1 R1 x1 rv
      rw [e2] at h
      exact ⟨.ref a0, ev0, s1, R1, by rw [e2]; exact h⟩
    | ok r2 =>
      obtain ⟨q, s2⟩ := r2
      rw [e2] at h
      dsimp only [Res.bind_ok] at h
      split at h
      · rename_i ps es
        split at h
        · rename_i j
          obtain ⟨n, en, h⟩ := endR.optR h
          refine hL.run pins s σ H D I ⟨sp, R, ?_⟩
          rw [e1]
          intro v1 H1 R1 x1 rv
          refine ⟨.ref a0, ev0, s1, R1, ?_⟩
          rw [e2]
          intro v2 H2 R2 x2 r2
          have eo : owL s2 i = some ps := by unfold owL; rw [es]
          obtain ⟨a, xs, ea, ha', ra, na⟩ := rel_lst R2 eo
          rw [ev0] at ea
          cases ea
          refine ⟨a0, xs, j, n, rfl, rep_int.mp r2, ha', by rw [ra.length]; exact en, ?_⟩
          exact h σ _ (rel_setL R2 eo ev0 ha' (RepL.set n ra (Rep.ext x2 _ _ rv))) (x1.trans (x2.trans (ext_lst ha')))
        · exact h.elim
      · rename_i ps es
        split at h
        · rename_i j
          obtain ⟨n, en, h⟩ := endR.optR h
          refine hL.run pins s σ H D I ⟨sp, R, ?_⟩
          rw [e1]
          intro v1 H1 R1 x1 rv
          refine ⟨.ref a0, ev0, s1, R1, ?_⟩
          rw [e2]
          intro v2 H2 R2 x2 r2
          obtain ⟨a, xs, ea, ha', ra, na⟩ := rel_pot R2 es
          rw [ev0] at ea
          cases ea
          refine ⟨a0, xs, j, n, rfl, rep_int.mp r2, ha', by rw [ra.length]; exact en, ?_⟩
          exact h σ _ (R2.writeP es ev0 ⟨_, upd_same, RepL.ext (ext_lst ha') _ _ (RepL.set n ra (Rep.ext x2 _ _ rv))⟩) (x1.trans (x2.trans (ext_lst ha')))
        · exact h.elim
      · rename_i ks ps es
        obtain ⟨k, ek, h⟩ := endR.optR h
        split at h
        case isFalse => exact h.elim
        rename_i hfit
        refine hD.run pins s σ H D I ⟨sp, R, ?_⟩
        rw [e1]
        intro v1 H1 R1 x1 rv
        refine ⟨.ref a0, ev0, s1, R1, ?_⟩
        rw [e2]
        intro v2 H2 R2 x2 r2
        have eo : owD s2 i = some (ks, ps) := by unfold owD; rw [es]
        obtain ⟨a, xs, ea, la, ha', ra, na⟩ := rel_dct R2 eo
        rw [ev0] at ea
        cases ea
        obtain ⟨l2, zs, e3, r3⟩ := putP_rep (k := k) (Rep.ext x2 _ _ rv) la ra
        refine ⟨a0, _, rfl, .inl ⟨_, k, ha', key_rep r2 ek, ?_, rfl⟩, ?_⟩
        · have := fitsL_le hfit
          rw [List.length_zip, ra.length, la, Nat.min_self, ← la]
          exact this
        · rw [e3]
          exact h σ _ (rel_setD R2 eo ev0 ha' l2 r3) (x1.trans (x2.trans (ext_dct ha')))
      · exact h.elim
end
end VL
/-! VL12: list comprehensions. -/
namespace VL
set_option autoImplicit false
open PySem PySem.Spec PyProof.Rows L2
def wipeP (s : PSt) : List Nat → PSt
  | [] => s
  | v :: vs => (wipeP s vs).set v none
def shP : Option LV → Option LV
  | some (.sh p) => some (.sh p)
  | _ => none
/-- the block's own names as they were -/
def backP (s0 s : PSt) : List Nat → PSt
  | [] => s
  | v :: vs => match s0[v]? with
    | some l => (backP s0 s vs).set v (shP l)
    | none => backP s0 s vs
section
variable {K : PySem.W.Frag} {B : Bs} {s s0 : PSt} {σ : St} {H H' : Hp}
theorem wipeP_length (s : PSt) : ∀ vs : List Nat, (wipeP s vs).length = s.length
  | [] => rfl
  | v :: vs => by unfold wipeP; rw [List.length_set, wipeP_length s vs]
theorem wipeP_some {l : LV} {i : Nat} : ∀ {vs : List Nat}, (wipeP s vs)[i]? = some (some l) → s[i]? = some (some l) ∧ i ∉ vs
  | [], h => ⟨h, by simp⟩
  | v :: vs, h => by
    unfold wipeP at h
    by_cases hi : v = i
    · subst hi
      by_cases hv : v < (wipeP s vs).length
      · rw [List.getElem?_set_self hv] at h; cases h
      · rw [List.getElem?_eq_none (by simpa using hv)] at h; cases h
    · rw [List.getElem?_set_ne hi] at h
      obtain ⟨h1, h2⟩ := wipeP_some h
      exact ⟨h1, by simp only [List.mem_cons, not_or]; exact ⟨fun e => hi e.symm, h2⟩⟩
theorem wipe_at {i : Nat} : ∀ {vs : List Nat}, i ∉ vs → (wipe σ vs)[i]? = σ[i]?
  | [], _ => rfl
  | v :: vs, h => by
    simp only [List.mem_cons, not_or] at h
    unfold wipe
    rw [List.getElem?_set_ne (fun e => h.1 e.symm)]
    exact wipe_at h.2
theorem RelSt.wipe (R : RelSt K B s σ H) (vs : List Nat) : RelSt K B (wipeP s vs) (L2.wipe σ vs) H where
  len := by rw [wipeP_length, wipe_length]; exact R.len
  same := R.same
  pt := R.pt
  at_ := fun i l h => by
    obtain ⟨h1, h2⟩ := wipeP_some h
    obtain ⟨v, e, r⟩ := R.at_ i l h1
    exact ⟨v, by rw [wipe_at h2]; exact e, r⟩
  sep := fun i j p q a h1 h2 h3 h4 => by
    obtain ⟨g1, n1⟩ := wipeP_some h1
    obtain ⟨g2, n2⟩ := wipeP_some h2
    rw [wipe_at n1] at h3
    rw [wipe_at n2] at h4
    exact R.sep i j p q a g1 g2 h3 h4
  sepP := fun i j p q h1 h2 => R.sepP i j p q (wipeP_some h1).1 (wipeP_some h2).1
  tb := R.tb
  tbs := R.tbs
theorem backP_length : ∀ vs : List Nat, (backP s0 s vs).length = s.length
  | [] => rfl
  | v :: vs => by
    unfold backP
    split
    · rw [List.length_set, backP_length vs]
    · exact backP_length vs
theorem backP_some {l : LV} {i : Nat} (hl : s.length = s0.length) : ∀ {vs : List Nat}, (backP s0 s vs)[i]? = some (some l) → (i ∈ vs ∧ s0[i]? = some (some l) ∧ ∃ p, l = .sh p) ∨ (i ∉ vs ∧ s[i]? = some (some l))
  | [], h => .inr ⟨by simp, h⟩
  | v :: vs, h => by
    unfold backP at h
    split at h
    · rename_i m em
      by_cases hi : v = i
      · subst hi
        have hv : v < (backP s0 s vs).length := by
          rw [backP_length, hl]
          exact (List.getElem?_eq_some_iff.mp em).1
        rw [List.getElem?_set_self hv] at h
        cases m with
        | none => cases h
        | some m =>
          cases m with
          | ow p => cases h
          | po p => cases h
          | sh p => cases h; exact .inl ⟨by simp, em, p, rfl⟩
      · rw [List.getElem?_set_ne hi] at h
        rcases backP_some hl h with ⟨h1, h2⟩ | ⟨h1, h2⟩
        · exact .inl ⟨List.mem_cons_of_mem _ h1, h2⟩
        · exact .inr ⟨by simp only [List.mem_cons, not_or]; exact ⟨fun e => hi e.symm, h1⟩, h2⟩
    · rename_i en
      rcases backP_some hl h with ⟨h1, h2⟩ | ⟨h1, h2⟩
      · exact .inl ⟨List.mem_cons_of_mem _ h1, h2⟩
      · by_cases hi : v = i
        · subst hi
          have := (List.getElem?_eq_some_iff.mp h2).1
          rw [List.getElem?_eq_none_iff] at en
          omega
        · exact .inr ⟨by simp only [List.mem_cons, not_or]; exact ⟨fun e => hi e.symm, h1⟩, h2⟩
theorem RelSt.back {vs : List Nat} (R0 : RelSt K B s0 σ H) (x : Ext H H') (R : RelSt K B s (L2.wipe σ vs) H') : RelSt K B (backP s0 s vs) σ H' := by
  have hl : s.length = s0.length := by rw [R.len, R0.len, wipe_length]
  refine ⟨by rw [backP_length, hl]; exact R0.len, R.same, R.pt, fun i l h => ?_, fun i j p q a h1 h2 h3 h4 => ?_, fun i j p q h1 h2 => ?_, R.tb, R.tbs⟩
  · rcases backP_some hl h with ⟨_, h1, p, rfl⟩ | ⟨h1, h2⟩
    · obtain ⟨v, e, r⟩ := R0.at_ i _ h1
      exact ⟨v, e, Rep.ext x _ _ r⟩
    · obtain ⟨v, e, r⟩ := R.at_ i _ h2
      exact ⟨v, by rw [wipe_at h1] at e; exact e, r⟩
  · rcases backP_some hl h1 with ⟨_, _, p', z⟩ | ⟨n1, g1⟩
    · cases z
    · rcases backP_some hl h2 with ⟨_, _, p', z⟩ | ⟨n2, g2⟩
      · cases z
      · exact R.sep i j p q a g1 g2 (by rw [wipe_at n1]; exact h3) (by rw [wipe_at n2]; exact h4)
  · rcases backP_some hl h1 with ⟨_, _, p', z⟩ | ⟨n1, g1⟩
    · cases z
    · rcases backP_some hl h2 with ⟨_, _, p', z⟩ | ⟨n2, g2⟩
      · cases z
      · exact R.sepP i j p q g1 g2
theorem lone_back {vs : List Nat} {a : Addr} (hl : s.length = s0.length) (l : Lone s (L2.wipe σ vs) a) : Lone (backP s0 s vs) σ a := fun i p h e => by
  rcases backP_some hl h with ⟨_, _, p', z⟩ | ⟨n1, g1⟩
  · cases z
  · exact l i p g1 (by rw [wipe_at n1]; exact e)
theorem wipe_eq_of {vs : List Nat} {i : Nat} {v : Option V} (h : i ∈ vs) : L2.wipe (σ.set i v) vs = L2.wipe σ vs := by
  induction vs with
  | nil => cases h
  | cons w vs ih =>
    unfold L2.wipe
    by_cases e : i ∈ vs
    · rw [ih e]
    · have e : i = w := (List.mem_cons.mp h).resolve_right e
      subst e
      clear ih h
      have key : ∀ vs : List Nat, i ∉ vs → (L2.wipe (σ.set i v) vs) = (L2.wipe σ vs).set i v := fun vs => by
        induction vs with
        | nil => intro _; rfl
        | cons w vs ih =>
          intro h
          simp only [List.mem_cons, not_or] at h
          unfold L2.wipe
          rw [ih h.2, List.set_comm _ _ h.1]
      rw [key vs ‹_›, List.set_set]
end

theorem wipe_sub {σ : St} {vs : List Nat} : ∀ us : List Nat, (∀ i ∈ us, i ∈ vs) → L2.wipe (L2.wipe σ us) vs = L2.wipe σ vs
  | [], _ => rfl
  | u :: us, h => by
    show L2.wipe ((L2.wipe σ us).set u none) vs = _
    rw [wipe_eq_of (h u (by simp))]
    exact wipe_sub us fun i hi => h i (List.mem_cons_of_mem _ hi)
theorem wipe_wipe {σ : St} {vs : List Nat} : L2.wipe (L2.wipe σ vs) vs = L2.wipe σ vs := wipe_sub vs fun _ h => h
/-- what no slot owns is written -/
theorem RelSt.other {K : PySem.W.Frag} {B : Bs} {s : PSt} {σ : St} {H : Hp} {a : Addr} {o u : HO} (R : RelSt K B s σ H) (h0 : B.H0 a = none) (hp : B.pot ≠ some a) (l : Lone s σ a) (hu : H a = some u) (t1 : Wr u) : RelSt K B s σ (upd H a o) where
  len := R.len
  same := fun b w e np nt => by rw [upd_ne (ne_of_none e h0)]; exact R.same b w e np nt
  pt := fun b hb => by
    rw [upd_ne (fun z => hp (by rw [← z]; exact hb))]
    exact R.pt b hb
  at_ := fun i l' e => by
    obtain ⟨v, ev, r⟩ := R.at_ i l' e
    refine ⟨v, ev, ?_⟩
    cases l' with
    | sh p => exact Rep.ext (Ext.upd hu t1) _ _ r
    | ow p =>
      obtain ⟨b, eb, ob, nb⟩ := r
      subst eb
      have z : b ≠ a := fun z => by subst z; exact l i p e ev
      exact ⟨b, rfl, ob.ext (Ext.upd hu t1) (upd_ne z), nb⟩
    | po p =>
      obtain ⟨b, eb, ob, nb⟩ := r
      subst eb
      have z : b ≠ a := fun z => by subst z; exact hp nb
      exact ⟨b, rfl, ob.ext (Ext.upd hu t1) (upd_ne z), nb⟩
  sepP := R.sepP
  tb := tabs_upd R.tb hu t1
  tbs := fun b ps e => by rw [upd_ne (ne_of_none e h0)]; exact R.tbs b ps e
  sep := R.sep

/-! ### the targets -/
def PXH (X : Cx) (B : Bs) (vs : List Nat) (tg : Expr) (g : PV → PSt → Res PSt) : Prop :=
  PG X tg fun v σ H Q => ∃ s p, RelSt X.K B s σ H ∧ Rep X.K B.C H p v ∧ match g p s with
    | .ok s' => ∀ σ' H', RelSt X.K B s' σ' H' → Ext H H' → wipe σ' vs = wipe σ vs → Q σ' H'
    | _ => False
def PXHs (X : Cx) (B : Bs) (vs : List Nat) (tgs : List Expr) (g : List PV → PSt → Res PSt) : Prop :=
  PGs X tgs fun vls σ H Q => ∃ s ps, RelSt X.K B s σ H ∧ RepL X.K B.C H ps vls ∧ match g ps s with
    | .ok s' => ∀ σ' H', RelSt X.K B s' σ' H' → Ext H H' → wipe σ' vs = wipe σ vs → Q σ' H'
    | _ => False
section
variable {X : Cx} {W : WX} {B : Bs} {pos : Pos} {vs : List Nat}
theorem pxh_name {i : Nat} {x : Str} (hm : i ∈ vs) (hN : X.N.Nodup) (hi : X.N[i]? = some x) (hx : Loc X.env.scope x) (hf : X.fn x = true ∨ X.env.scope.names.lookup x = some .local := by first | exact .inl rfl | exact .inr rfl | assumption) : PXH X B vs (.Name x pos) (gNm i) :=
  PG.weak (pg_name hN hi hx hf) fun v σ H Q ⟨s, p, R, r, q⟩ => q _ H (R.set r) (Ext.refl H) (wipe_eq_of hm)
theorem pxh_nil : PXHs X B vs [] gNl := PGs.weak pgs_nil fun v σ H Q ⟨s, ps, R, r, q⟩ => by
  cases ps with
  | nil => exact ⟨by simpa only [RepL] using r, q σ H R (Ext.refl H) rfl⟩
  | cons p ps => exact q.elim
theorem pxh_cons {e : Expr} {es : List Expr} {g : PV → PSt → Res PSt} {gs : List PV → PSt → Res PSt} (h1 : PXH X B vs e g) (h2 : PXHs X B vs es gs) (hs : (assignEach (e :: es) X.env).map (·.2) = assign e X.env :: (assignEach es X.env).map (·.2) := by rfl) : PXHs X B vs (e :: es) (gCs g gs) :=
  PGs.weak (pgs_cons h1 h2 hs) fun v σ H Q ⟨s, ps, R, r, q⟩ => by
    cases ps with
    | nil => exact q.elim
    | cons p ps =>
      obtain ⟨x, xs, rfl, r1, r2⟩ := r.head
      refine ⟨x, xs, rfl, s, p, R, r1, ?_⟩
      unfold gCs at q
      dsimp only at q
      cases e1 : g p s with
      | ok s1 =>
        rw [e1] at q
        simp only [Res.bind_ok] at q
        dsimp only
        intro σ1 H1 R1 x1 w1
        refine ⟨s1, ps, R1, RepL.ext x1 _ _ r2, ?_⟩
        cases e2 : gs ps s1 with
        | ok s2 =>
          rw [e2] at q
          exact fun σ2 H2 R2 x2 w2 => q σ2 H2 R2 (x1.trans x2) (w2.trans w1)
        | exc c p => rw [e2] at q; exact q.elim
        | bad => rw [e2] at q; exact q.elim
      | exc c p => rw [e1] at q; exact q.elim
      | bad => rw [e1] at q; exact q.elim
theorem pxh_tup {es : List Expr} {k n : Nat} {gs : List PV → PSt → Res PSt} (hc : X.calm = true) (h : PXHs X B vs es gs)
    (hn : (assignEach es X.env).length = n := by rfl) (hst : (assignEach es X.env).findIdx? (·.1) = none := by rfl) : PXH X B vs (.Tuple es k pos) (gTp n gs) :=
  PG.weak (pg_tup hc h hn hst) fun v σ H Q ⟨s, p, R, r, q⟩ => by
    cases p with
    | tup ps =>
      obtain ⟨a, xs, rfl, st, rl⟩ := rep_tupS r
      unfold gTp at q
      dsimp only at q
      by_cases hl : (ps.length == n) = true
      · rw [if_pos hl] at q
        exact ⟨a, xs, rfl, st, by rw [rl.length]; exact eq_of_beq hl, s, ps, R, rl, q⟩
      · rw [if_neg hl] at q
        exact q.elim
    | _ => exact q.elim

/-! ### the loop -/
def nox {α : Type} : Res α → Res α
  | .ok a => .ok a
  | _ => .bad
def dLcL (vs : List Nat) (g : PV → PSt → Res PSt) (t : M Bool) (e : M PV) : List PV → List PV → M (List PV)
  | [], acc, s => .ok (acc, s)
  | p :: ps, acc, s => (nox (g p s)).bind fun s1 => (nox (t s1)).bind fun (b, s2) => if b then (nox (e s2)).bind fun (q, s3) => if fitsL (acc.length + 1) then dLcL vs g t e ps (acc ++ [q]) (wipeP s3 vs) else .bad
    else dLcL vs g t e ps acc (wipeP s2 vs)
def dLc (vs : List Nat) (it : M (List PV)) (g : PV → PSt → Res PSt) (t : M Bool) (e : M PV) : M PV := fun s => (it s).bind fun (ps, s1) => (dLcL vs g t e ps [] (wipeP s1 vs)).bind fun (acc, s2) => .ok (.lst acc, backP s1 s2 vs)
def dYes : M Bool := fun s => .ok (true, s)
def WN : WX := fun _ _ _ _ => False
def PXTs (X : Cx) (B : Bs) (ifs : List Expr) (t : M Bool) : Prop := PTs X ifs (tR X WN B rB t)
theorem pxts_nil : PXTs X B [] dYes := by
  refine ⟨fun pins s σ H Q I ⟨sp, R, q⟩ => ?_⟩
  exact pts_nil.run pins s σ H Q I (q true H R (Ext.refl H) rfl)
theorem pxts_one {c : Expr} {t : M Bool} (h : PXT X WN B c t) : PXTs X B [c] t := pts_one h
theorem lc_read {X' : Cx} (hK : X'.K = X.K) {vs : List Nat} {it : M (List PV)} {g : PV → PSt → Res PSt} {t : M Bool} {e : M PV} {σ : St} {H : Hp} {Q : VK}
    (h : tR X W B (rF X B) (dLc vs it g t e) σ H Q) :
    tLc (tR X W B (rI X B) it) (fun v σ H Q => ∃ H0 : Hp, ∃ s p, RelSt X'.K (B.at H0) s σ H ∧ Rep X'.K B.C H p v ∧ match g p s with
        | .ok s' => ∀ σ' H', RelSt X'.K (B.at H0) s' σ' H' → Ext H H' → wipe σ' vs = wipe σ vs → Q σ' H'
        | _ => False)
      (fun σ H Q => ∃ H0 : Hp, tR X' WN (B.at H0) rB t σ H Q) (fun σ H Q => ∃ H0 : Hp, tR X' WN (B.at H0) (rV X' (B.at H0)) e σ H Q) vs σ H Q := by
  obtain ⟨s, R, h⟩ := h
  refine ⟨s, R, tRa.bind (rep' := rF X B) h fun ps s1 J H1 R1 x1 rj h => ?_⟩
  intro D hD
  have hB0 : B.H0 D = none := R1.h0 hD
  have hpD := R1.hpot hB0
  refine ⟨fun i m H' => m = ps.length - i ∧ i ≤ ps.length ∧ Ext H1 H' ∧ ∃ s' acc accv, RelSt X.K (B.at (upd B.H0 D (.lst accv))) s' (wipe σ vs) H' ∧ RepL X.K B.C H' acc accv ∧
    tRa X W B (rF X B) ((dLcL vs g t e (ps.drop i) acc s').bind fun (acc, s2) => .ok (.lst acc, backP s1 s2 vs)) σ H1 Q, ⟨ps.length, rfl, Nat.zero_le _, Ext.new hD, wipeP s1 vs, [], [], ?_, RepL.nil, h⟩, ?_⟩
  · have R2 := (R1.wipe vs).new (o := .lst []) hD
    refine R2.hold upd_same fun i p h1 h2 => ?_
    obtain ⟨v, ev, a, ea, own, n⟩ := (R1.wipe vs).at_ i _ h1
    rw [h2] at ev
    cases ev
    cases ea
    obtain ⟨u, hu, _⟩ := own.get
    rw [hD] at hu; cases hu
  rintro i m H' ⟨rfl, hi, xh, s', acc, accv, R', ra, h'⟩
  by_cases hlt : i < ps.length
  · have ep : ps[i]? = some ps[i] := List.getElem?_eq_getElem hlt
    obtain ⟨go, yl⟩ := (rj i H' xh).1 _ ep
    rw [List.drop_eq_getElem_cons hlt] at h'
    unfold dLcL at h'
    refine .inr ⟨go, fun H2 => Ext H1 H2 ∧ ∃ s' acc accv, RelSt X.K (B.at (upd B.H0 D (.lst accv))) s' (wipe σ vs) H2 ∧ RepL X.K B.C H2 acc accv ∧
      tRa X W B (rF X B) ((dLcL vs g t e (ps.drop (i + 1)) acc s').bind fun (acc, s2) => .ok (.lst acc, backP s1 s2 vs)) σ H1 Q, fun H2 ⟨x2, w⟩ => ⟨ps.length - (i + 1), by omega, rfl, hlt, x2, w⟩, fun x H3 y => ?_⟩
    obtain ⟨gr, rp⟩ := yl x H3 y
    refine ⟨upd B.H0 D (.lst accv), s', ps[i], by rw [hK]; exact R'.grow gr.ext gr, by rw [hK]; exact rp, ?_⟩
    cases eg : g ps[i] s' with
    | exc c v => rw [eg] at h'; exact (show False from h').elim
    | bad => rw [eg] at h'; exact (show False from h').elim
    | ok s4 =>
      rw [eg] at h'
      simp only [nox, Res.bind_ok] at h'
      dsimp only
      intro σ4 H4 R4 x4 w4
      have w4' : wipe σ4 vs = wipe σ vs := w4.trans wipe_wipe
      have xx : Ext H1 H4 := xh.trans (gr.ext.trans x4)
      have ra4 := RepL.ext (gr.ext.trans x4) _ _ ra
      refine ⟨w4', upd B.H0 D (.lst accv), s4, R4, ?_⟩
      cases et : t s4 with
      | exc c v => rw [et] at h'; exact (show False from h').elim
      | bad => rw [et] at h'; exact (show False from h').elim
      | ok r5 =>
        obtain ⟨b, s5⟩ := r5
        rw [et] at h'
        simp only [Res.bind_ok] at h'
        intro b' H5 R5 x5 eb
        subst eb
        rw [hK] at R5
        cases b with
        | false =>
          simp only [Bool.false_eq_true, if_false] at h' ⊢
          have R5' := R5.wipe vs
          rw [w4'] at R5'
          exact ⟨xx.trans x5, _, acc, accv, R5', RepL.ext x5 _ _ ra4, h'⟩
        | true =>
          simp only [if_true] at h' ⊢
          refine ⟨upd B.H0 D (.lst accv), s5, by rw [hK]; exact R5, ?_⟩
          cases ee : e s5 with
          | exc c v => rw [ee] at h'; exact (show False from h').elim
          | bad => rw [ee] at h'; exact (show False from h').elim
          | ok r6 =>
            obtain ⟨q, s6⟩ := r6
            rw [ee] at h'
            simp only [Res.bind_ok] at h'
            intro y6 H6 R6 x6 ry
            rw [hK] at R6
            have ry : Rep X.K B.C H6 q y6 := by
              have ry' : Rep X'.K B.C H6 q y6 := ry
              rw [hK] at ry'
              exact ry'
            obtain ⟨R7, hD6, lo⟩ := R6.held hB0 hpD (fun _ z => nomatch z)
            by_cases hf : fitsL (acc.length + 1) = true
            · rw [if_pos hf] at h'
              have ra6 := RepL.ext (x5.trans x6) _ _ ra4
              refine ⟨accv, hD6, ?_, ?_⟩
              · have := fitsL_le hf
                rw [ra6.length]
                exact this
              · have xe : Ext H6 (upd H6 D (.lst (accv ++ [y6]))) := ext_lst hD6
                refine ⟨xx.trans (x5.trans (x6.trans xe)), wipeP s6 vs, acc ++ [q], accv ++ [y6], ?_, RepL.append (RepL.ext xe _ _ ra6) (.cons (Rep.ext xe _ _ ry) .nil), h'⟩
                have R8 := (R7.other (o := .lst (accv ++ [y6])) hB0 hpD lo hD6 wr_lst).hold upd_same lo
                have R9 := R8.wipe vs
                rw [w4'] at R9
                exact R9
            · rw [if_neg hf] at h'
              exact (show False from h').elim
  · have e : i = ps.length := by omega
    subst e
    rw [List.drop_length] at h'
    refine .inl ⟨(rj _ H' xh).2 rfl, ?_⟩
    obtain ⟨R5, hD5, lo⟩ := R'.held hB0 hpD (fun _ z => nomatch z)
    have hl : s'.length = s1.length := by rw [R5.len, R1.len, wipe_length]
    exact h' _ H' (R1.back xh R5) xh ⟨D, rfl, ⟨accv, hD5, ra⟩, hB0, lone_back hl lo⟩
abbrev Blk (X : Cx) (scope : Scope) (s : Shared) (H : Hp) (C : Addr) (cl : List (Str × Addr)) (fp : List Addr) : Cx := X.blk s H scope (compEnvC scope cl C X.env) fp
theorem pf_lc {elt tg iter : Expr} {ifs : List Expr} {scope : Scope} {own : List (Str × Nat)} {it : M (List PV)} {g : PV → PSt → Res PSt} {t : M Bool} {e : M PV} (hc : X.calm = true) (hN : X.N.Nodup) (hi : PXI X W B tg iter it) (ok : BlkOk X.N X.env.scope scope own)
    (hg : ∀ s H C cl fp H0, PXH (Blk X scope s H C cl fp) (B.at H0) (own.map (·.2)) tg g) (ht : ∀ s H C cl fp H0, PXTs (Blk X scope s H C cl fp) (B.at H0) ifs t)
    (he : ∀ s H C cl fp H0, PX (Blk X scope s H C cl fp) WN (B.at H0) elt e) (hs : ∀ x, foldedSetIterable iter X.env x = pure x := by intro _; rfl) :
    PF X W B (.ListComp elt [⟨tg, iter, ifs, 0⟩] scope pos) (dLc (own.map (·.2)) it g t e) := by
  refine ⟨fun pins s σ H Q I h => ?_⟩
  exact (pe_lc (X := X) hc hN hi ok (fun s H C cl fp => ⟨fun pins s' σ H' v u Q I r ⟨H0, q⟩ => (hg s H C cl fp H0).run pins s' σ H' v u Q I r q⟩)
    (fun s H C cl fp => ⟨fun pins s' σ H' Q I ⟨H0, q⟩ => (ht s H C cl fp H0).run pins s' σ H' Q I q⟩)
    (fun s H C cl fp => ⟨fun pins s' σ H' Q I ⟨H0, q⟩ => (he s H C cl fp H0).run pins s' σ H' Q I q⟩) hs).run pins s σ H Q I (lc_read (X' := X) rfl h)
end
end VL
/-! VL13: defs and their calls. -/
namespace VL
set_option autoImplicit false
open PySem PySem.Spec PyProof.Rows L2
/-- a def's promise where nothing is being written out (guards) -/
structure FnV (P : Program) (w : World) (K : PySem.W.Frag) (mg : Str → Option Value) (base : Heap) (CX : CXT) (k : Nat) (f : Addr) (fd : FuncData) (ps : List Str) (sp : Sp) : Prop where
  len : ∀ vs H Q E, sp vs H Q E → vs.length = ps.length
  run : ∀ (A : Around) (outer : List Env) (s : Shared) (H : Hp) (args : Args) (us : List Value) (vs : List V) (Q : VK) (E : XK), Room k A → A.guards = some [] → Env0 P w K mg base A outer s H → BindsTo s fd args (ps.zip us) → Vals vs us → sp vs H Q E →
    codeAny (model P w) A (.call (.ref f) args) (CR CX outer P w H s Q E) s
/-- what a def does: the caller's list that it may write to, the other arguments; what it gives (.ow: new), that list at the end -/
abbrev Fn := List PV → List PV → Res (LV × List PV)
def giveR (K : PySem.W.Frag) (C : CloT) (H : Hp) (l : LV) (v : V) (H' : Hp) : Prop := match l with
  | .sh p => Rep K C H' p v
  | .ow p => ∃ b, v = .ref b ∧ Own K C H' p b ∧ H b = none
  | .po _ => False
def fnEnd (mg : Str → Option Value) (K : PySem.W.Frag) (C : CloT) (T : List (Addr × Str)) (pt : Option Addr) (r : Res (LV × List PV)) (H : Hp) (Q : VK) (E : XK) : Prop := match r with
  | .ok (l, q) => ∀ v H', Kp pt H H' → LamX.Tabs T H' → (∀ a, pt = some a → ∃ ys, H' a = some (.lst ys) ∧ RepL K C H' q ys) → giveR K C H l v H' → Q v H'
  | .exc c p => ∀ cls dx v H', mg c = some cls → H' dx = some (.xd [("value", v)]) → Rep K C H' p v → H dx = none → Kp pt H H' → LamX.Tabs T H' → E cls (some dx) H'
  | .bad => False
def argsR (K : PySem.W.Frag) (C : CloT) (io : Bool) (q ps : List PV) (vs : List V) (H : Hp) (pt : Option Addr) : Prop :=
  if io = true then ∃ a ws xs, vs = .ref a :: ws ∧ pt = some a ∧ H a = some (.lst xs) ∧ RepL K C H q xs ∧ RepL K C H ps ws else pt = none ∧ q = [] ∧ RepL K C H ps vs
def spV (mg : Str → Option Value) (K : PySem.W.Frag) (C : CloT) (T : List (Addr × Str)) (io : Bool) (n : Nat) (F : Fn) : Sp := fun vs H Q E => vs.length = n ∧ LamX.Tabs T H ∧ ∃ q ps pt, argsR K C io q ps vs H pt ∧ fnEnd mg K C T pt (F q ps) H Q E
def potOut (io : Bool) (s : PSt) (l : LV) : Res (LV × List PV) := if io = true then (match s[(0 : Nat)]? with
  | some (some (LV.po (PV.lst q))) => .ok (l, q)
  | _ => .bad) else .ok (l, [])
/-- a body's end, as the def's -/
def fnRes (io : Bool) : Res (Fl × PSt) → Res (LV × List PV)
  | .ok (.rt p, s) => potOut io s (.sh p)
  | .ok (.rf p, s) => potOut io s (.ow p)
  | .ok (.nx, s) => potOut io s (.sh .non)
  | .ok (.bk, _) => .bad
  | .ok (.ct, _) => .bad
  | .exc c p => .exc c p
  | .bad => .bad
def startP (io : Bool) (N : Nat) (q ps : List PV) : PSt := (if io = true then [some (.po (.lst q))] else []) ++ ps.map (fun p => some (.sh p)) ++ List.replicate (N - ((if io = true then 1 else 0) + ps.length)) none
def dFn (io : Bool) (N : Nat) (db : M Fl) : Fn := fun q ps => fnRes io (db (startP io N q ps))
section
variable {K : PySem.W.Frag} {C : CloT} {H : Hp}
theorem start_get {N : List Str} {vs : List V} {i : Nat} {v : V} (h : vs[i]? = some v) : (L2.start N vs)[i]? = some (some v) := by
  have hi := (List.getElem?_eq_some_iff.mp h).1
  unfold L2.start
  rw [List.getElem?_append_left (by simpa using hi), List.getElem?_map, h]
  rfl
theorem sh_get {ps : List PV} {n i : Nat} {l : LV} (h : (ps.map (fun p => some (LV.sh p)) ++ List.replicate n none)[i]? = some (some l)) : ∃ p, l = .sh p ∧ ps[i]? = some p := by
  by_cases hi : i < ps.length
  · rw [List.getElem?_append_left (by simpa using hi), List.getElem?_map, List.getElem?_eq_getElem hi] at h
    cases h
    exact ⟨_, rfl, List.getElem?_eq_getElem hi⟩
  · rw [List.getElem?_append_right (by simpa using hi), List.getElem?_replicate] at h
    split at h <;> cases h
theorem rel_start {N : List Str} {io : Bool} {q ps : List PV} {vs : List V} {pt : Option Addr} (h : argsR K C io q ps vs H pt) {T : List (Addr × Str)} (ht : LamX.Tabs T H) (hl : vs.length ≤ N.length) : RelSt K ⟨H, pt, C, T⟩ (startP io N.length q ps) (L2.start N vs) H := by
  unfold argsR at h
  cases io with
  | false =>
    simp only [Bool.false_eq_true, if_false] at h
    obtain ⟨rfl, rfl, r⟩ := h
    have lr := r.length
    unfold startP
    simp only [Bool.false_eq_true, if_false, List.nil_append, Nat.zero_add]
    refine ⟨?_, fun a o e _ _ => e, (fun a z => nomatch z), fun i l e => ?_, fun i j p q a h1 => ?_, fun i j p q h1 => ?_, ht, fun a ps e => ⟨ps, e⟩⟩
    · unfold L2.start
      simp only [List.length_append, List.length_map, List.length_replicate]
      omega
    · obtain ⟨p, rfl, hp⟩ := sh_get e
      obtain ⟨v, hv, rv⟩ := r.get hp
      exact ⟨v, start_get hv, rv⟩
    · obtain ⟨p', z, _⟩ := sh_get h1; cases z
    · obtain ⟨p', z, _⟩ := sh_get h1; cases z
  | true =>
    simp only [if_true] at h
    obtain ⟨a, ws, xs, rfl, rfl, ha, rq, r⟩ := h
    have lr := r.length
    unfold startP
    simp only [if_true, List.singleton_append, List.cons_append, List.length_cons, List.nil_append] at hl ⊢
    refine ⟨?_, fun b o e _ _ => e, fun b z => ?_, fun i l e => ?_, fun i j p q b h1 => ?_, fun i j p q h1 h2 => ?_, ht, fun a ps e => ⟨ps, e⟩⟩
    · unfold L2.start
      simp only [List.length_append, List.length_map, List.length_replicate, List.length_cons, List.length_nil]
      omega
    · cases z
      exact ⟨⟨_, ha⟩, fun z => by have z : H a = none := z; rw [ha] at z; cases z⟩
    · cases i with
      | zero =>
        cases e
        exact ⟨.ref a, rfl, a, rfl, ⟨xs, ha, rq⟩, rfl⟩
      | succ i =>
        rw [List.getElem?_cons_succ] at e
        obtain ⟨p, rfl, hp⟩ := sh_get e
        obtain ⟨v, hv, rv⟩ := r.get hp
        exact ⟨v, start_get (by rw [List.getElem?_cons_succ]; exact hv), rv⟩
    · cases i with
      | zero => cases h1
      | succ i =>
        rw [List.getElem?_cons_succ] at h1
        obtain ⟨p', z, _⟩ := sh_get h1; cases z
    · cases i with
      | succ i =>
        rw [List.getElem?_cons_succ] at h1
        obtain ⟨p', z, _⟩ := sh_get h1; cases z
      | zero =>
        cases j with
        | zero => rfl
        | succ j =>
          rw [List.getElem?_cons_succ] at h2
          obtain ⟨p', z, _⟩ := sh_get h2; cases z
theorem pot_out {B : Bs} {io : Bool} {s : PSt} {σ : St} {H : Hp} {l m : LV} {q : List PV} (R : RelSt K B s σ H) (hn : io = false → B.pot = none) (h : potOut io s l = .ok (m, q)) : m = l ∧ ∀ a, B.pot = some a → ∃ ys, H a = some (.lst ys) ∧ RepL K B.C H q ys := by
  unfold potOut at h
  cases io with
  | false =>
    simp only [Bool.false_eq_true, if_false, Res.ok.injEq, Prod.mk.injEq] at h
    exact ⟨h.1.symm, fun a z => by rw [hn rfl] at z; cases z⟩
  | true =>
    simp only [if_true] at h
    split at h
    · rename_i e
      simp only [Res.ok.injEq, Prod.mk.injEq] at h
      obtain ⟨rfl, rfl⟩ := h
      refine ⟨rfl, fun a z => ?_⟩
      obtain ⟨v, ev, b, rfl, ⟨ys, h1, h2⟩, hb⟩ := R.at_ _ _ e
      rw [hb] at z
      cases z
      exact ⟨ys, h1, h2⟩
    · cases h
end
/-- a body's reading gives the def's promise -/
theorem fn_read {X : Cx} {io : Bool} {N : List Str} {q ps : List PV} {vs : List V} {pt : Option Addr} {C : CloT} {T : List (Addr × Str)} {H : Hp} {Q : VK} {E : XK} {db : M Fl} (h : argsR X.K C io q ps vs H pt) (ht : LamX.Tabs T H) (hl : vs.length ≤ N.length)
    (e : fnEnd X.mg X.K C T pt (dFn io N.length db q ps) H Q E) : tS X (fun cls d _ H' => E cls d H') ⟨H, pt, C, T⟩ db { nx := fun _ H' => Q .non H', rt := Q } (L2.start N vs) H := by
  have R := rel_start (N := N) h ht hl
  refine ⟨_, R, ?_⟩
  have hn : io = false → pt = none := fun z => by subst z; unfold argsR at h; simp only [Bool.false_eq_true, if_false] at h; exact h.1
  unfold dFn at e
  generalize hr : db (startP io N.length q ps) = r at e ⊢
  cases r with
  | bad => exact e
  | exc c p => exact fun cls dx v σ' H' m hx rv nd k t => e cls dx v H' m hx rv nd k t
  | ok x =>
    obtain ⟨f, s⟩ := x
    cases f with
    | bk => exact e.elim
    | ct => exact e.elim
    | nx =>
      intro σ' H' R' x'
      cases ep : potOut io s (.sh .non) with
      | bad => simp only [fnRes, ep] at e; exact e.elim
      | exc c v => unfold potOut at ep; split at ep <;> (try split at ep) <;> cases ep
      | ok y =>
        obtain ⟨m, q1⟩ := y
        simp only [fnRes, ep] at e
        obtain ⟨rfl, hp⟩ := pot_out R' hn ep
        exact e .non H' R'.kp R'.tb hp (show Rep X.K C H' .non .non by simp only [Rep])
    | rt p =>
      intro v σ' H' R' x' rv
      cases ep : potOut io s (.sh p) with
      | bad => simp only [fnRes, ep] at e; exact e.elim
      | exc c v => unfold potOut at ep; split at ep <;> (try split at ep) <;> cases ep
      | ok y =>
        obtain ⟨m, q1⟩ := y
        simp only [fnRes, ep] at e
        obtain ⟨rfl, hp⟩ := pot_out R' hn ep
        exact e v H' R'.kp R'.tb hp rv
    | rf p =>
      intro v σ' H' R' x' rv
      cases ep : potOut io s (.ow p) with
      | bad => simp only [fnRes, ep] at e; exact e.elim
      | exc c v => unfold potOut at ep; split at ep <;> (try split at ep) <;> cases ep
      | ok y =>
        obtain ⟨m, q1⟩ := y
        simp only [fnRes, ep] at e
        obtain ⟨rfl, hp⟩ := pot_out R' hn ep
        exact e v H' R'.kp R'.tb hp rv
/-- what a frame is to know of its context -/
structure VX (X : Cx) (k : Nat) (W : WX) : Prop where
  room : Room k X.A
  grd : X.A.guards = some []
  calm : X.calm = true
  tk : Takes X W
theorem VX.blk {X : Cx} {k : Nat} {W : WX} (v : VX X k W) (scope : Scope) (s : Shared) (H : Hp) (C : Addr) (cl : List (Str × Addr)) (fp : List Addr) : VX (Blk X scope s H C cl fp) k WN where
  room := v.room
  grd := v.grd
  calm := v.calm
  tk := fun u s' ⟨a, B, sI, pins, σ, H, cls, d, _, _, _, _, _, _, _, _, w⟩ => w.elim
/-- THE RULE: a def by its body -/
theorem fnv_of {P : Program} {w : World} {K : PySem.W.Frag} {mg : Str → Option Value} {base : Heap} {k : Nat} {f : Addr} {name qual : Str} {params : Arguments} {body : List Stmt} {scope : Scope} {dV kV doc pm cdv ct oc : Value} {an od : Option Addr}
    {osl : Array (Option Value)} {N ps : List Str} {C : CloT} {T : List (Addr × Str)} {io : Bool} {db : M Fl} (lk : K.lookup f = some ⟨oc, od, .func (PySem.W.fnOf name qual params body scope dV kV doc pm an cdv ct), osl⟩) (hcd : PySem.W.codeIn K cdv qual = true) (S : FnScope N ps scope)
    (hbody : ∀ (A : Around) (outer : List Env) (s : Shared) (H : Hp) (E : XK) (B : Bs), B.C = C → B.T = T → VX (cxOf (CX P w) P w K mg base N qual scope f cdv A outer s H E) k (fun cls d _ H' => E cls d H') →
      PassesOwn (model P w) (cxOf (CX P w) P w K mg base N qual scope f cdv A outer s H E).A (cxOf (CX P w) P w K mg base N qual scope f cdv A outer s H E).env (cxOf (CX P w) P w K mg base N qual scope f cdv A outer s H E).xe →
      PXB (cxOf (CX P w) P w K mg base N qual scope f cdv A outer s H E) (fun cls d _ H' => E cls d H') B body db) :
    FnV P w K mg base (CX P w) (k + 1) f (PySem.W.fnOf name qual params body scope dV kV doc pm an cdv ct) ps (spV mg K C T io ps.length (dFn io N.length db)) := by
  refine ⟨fun vs H Q E h => h.1, fun A outer s H args us vs Q E hr hgd e0 hb r hsp => ?_⟩
  obtain ⟨hl, ht, q, ars, pt, ha, he⟩ := hsp
  have KX : K.In s.heap := e0.mod.kin.keeps fun b o e => (e0.bs b o e).1
  have lim : s.heap.NoLimit := e0.mod.nolimit.keeps fun b o e => (e0.bs b o e).1
  have hkind : ∀ y ∈ ps.zip us, scope.names.lookup y.1 = some .local ∨ (scope.names.lookup y.1 = some .cell ∧ ((cellsFrom (s.heap.objs.size + 1) scope.names []).lookup y.1).isSome = true) := fun ⟨n, v⟩ hy => by
    rcases S.par n (List.of_mem_zip hy).1 with q | q
    · exact .inl q
    · exact .inr ⟨q, PySem.W.cellsFrom_some _ _ _ (.inl q)⟩
  have hpl : ps.length ≤ N.length := by have := congrArg List.length S.pre; rw [List.length_take] at this; omega
  refine codeAny_call_function hr.depth (KX _ _ lk) rfl S.co S.gen rfl (PySem.W.codeRec_of KX hcd) (hb _ _ _ _ ?_)
  refine wpAny_newFunctionEnv_cells S.kind hkind fun env henv s1 x => ?_
  subst henv
  refine ⟨lim.keeps x.toInCall.keep, codeAny_func ?_⟩
  generalize hX : cxOf (CX P w) P w K mg base N qual scope f cdv A outer s H E = X
  have I : Inv X [] (L2.start N vs) H s1 := by rw [← hX]; exact inv_start S hr.hd e0 hl r x
  have vx : VX X k (fun cls d _ H' => E cls d H') := by
    subst hX
    exact ⟨hr.deeper _, hgd, rfl, takes_of rfl rfl rfl rfl⟩
  have po : PassesOwn (model P w) X.A X.env X.xe := by
    subst hX
    exact passes_of rfl
  have hbd := hbody A outer s H E ⟨H, pt, C, T⟩ rfl rfl (by rw [hX]; exact vx) (by rw [hX]; exact po)
  rw [hX] at hbd
  have hK : X.K = K := by subst hX; rfl
  have hm : X.mg = mg := by subst hX; rfl
  have rd := fn_read (X := X) (N := N) (db := db) (Q := Q) (E := E) (by rw [hK]; exact ha) ht (by omega) (by rw [hK, hm]; exact he)
  have wp := hbd.run [] s1 (L2.start N vs) H _ I rd
  subst hX
  refine wpAny_mono wp (fun fl s' hs => ?_) fun e s' hs => hs
  have fin : ∀ {σ' : St} {H' : Hp} {v : V} {u : Value}, Inv (cxOf (CX P w) P w K mg base N qual scope f cdv A outer s H E) [] σ' H' s' → RelV v u → Q v H' → CE outer P w H s Q u s' :=
    fun {σ' H' v u} J rv q => ⟨v, H', J.os, J.bare, J.base, J.hok, rv, q⟩
  cases fl with
  | ret u =>
    obtain ⟨v, σ', H', J, rv, q⟩ := hs
    exact fin J rv q
  | next =>
    obtain ⟨σ', H', J, q⟩ := hs
    exact fin (v := V.non) (u := Value.none) J rfl q
  | brk =>
    obtain ⟨_, _, _, q⟩ := hs
    exact False.elim q
  | cont =>
    obtain ⟨_, _, _, q⟩ := hs
    exact False.elim q
end VL
/-! VL14: the call of a def. -/
namespace VL
set_option autoImplicit false
open PySem PySem.Spec PyProof.Rows L2
section
variable {K : PySem.W.Frag} {B : Bs} {s : PSt} {σ : St} {H H' : Hp}
theorem Kp.ext {a : Addr} {xs : List V} (k : Kp (some a) H H') (h : H a = some (.lst xs)) : Ext H H' :=
  ⟨fun b ys e => k.keep b _ e (fun z => by cases z; rw [h] at e; cases e) (fun _ z => nomatch z), fun b o u e => k.keep b _ e (fun z => by cases z; rw [h] at e; cases e) (fun _ z => nomatch z),
   fun b c q e => k.keep b _ e (fun z => by cases z; rw [h] at e; cases e) LamX.codeO_ne⟩
theorem Kp.ext0 (k : Kp none H H') : Ext H H' :=
  ⟨fun b ys e => k.keep b _ e (fun z => nomatch z) (fun _ z => nomatch z), fun b o u e => k.keep b _ e (fun z => nomatch z) (fun _ z => nomatch z), fun b c q e => k.keep b _ e (fun z => nomatch z) LamX.codeO_ne⟩
/-- all but tables stays -/
theorem RelSt.growN (R : RelSt K B s σ H) (k : Kp none H H') (t : LamX.Tabs B.T H') : RelSt K B s σ H' where
  len := R.len
  same := fun a o h1 h2 h3 => k.keep _ _ (R.same a o h1 h2 h3) (fun z => nomatch z) h3
  pt := fun a h => by
    obtain ⟨⟨o, e⟩, n⟩ := R.pt a h
    refine ⟨?_, n⟩
    by_cases ht : ∃ ps, o = .tbl ps
    · obtain ⟨ps, rfl⟩ := ht
      obtain ⟨ps', e'⟩ := k.tbs a ps e
      exact ⟨_, e'⟩
    · exact ⟨o, k.keep _ _ e (fun z => nomatch z) fun ps z => ht ⟨ps, z⟩⟩
  at_ := fun i l h => by
    obtain ⟨v, e, r⟩ := R.at_ i l h
    refine ⟨v, e, ?_⟩
    cases l with
    | sh p => exact Rep.ext k.ext0 _ _ r
    | ow p =>
      obtain ⟨a, e1, o, n⟩ := r
      obtain ⟨u, hu, w, _⟩ := o.get
      exact ⟨a, e1, o.ext k.ext0 (by rw [k.keep _ _ hu (fun z => nomatch z) w.tbl, hu]), n⟩
    | po p =>
      obtain ⟨a, e1, o, n⟩ := r
      obtain ⟨u, hu, w, _⟩ := o.get
      exact ⟨a, e1, o.ext k.ext0 (by rw [k.keep _ _ hu (fun z => nomatch z) w.tbl, hu]), n⟩
  sep := R.sep
  sepP := R.sepP
  tb := t
  tbs := fun a ps e => by
    obtain ⟨ps', e'⟩ := R.tbs a ps e
    exact k.tbs a ps' e'
/-- a list of a slot is written by somebody else -/
theorem RelSt.lent {i : Nat} {q q' : List PV} {a : Addr} {ys : List V} (R : RelSt K B s σ H) (h1 : s[i]? = some (some (.ow (.lst q)))) (h2 : σ[i]? = some (some (.ref a))) (k : Kp (some a) H H') (tb : LamX.Tabs B.T H') (ha : H' a = some (.lst ys)) (r : RepL K B.C H' q' ys) :
    RelSt K B (s.set i (some (.ow (.lst q')))) σ H' := by
  obtain ⟨v, e, b, eb, own, n⟩ := R.at_ i _ h1
  rw [h2] at e
  have e' := Option.some.inj (Option.some.inj e)
  rw [eb] at e'
  cases e'
  obtain ⟨xs, hx, _⟩ := own
  have x := k.ext hx
  have kk : ∀ b o, H b = some o → b ≠ a → (∀ ps, o ≠ .tbl ps) → H' b = some o := fun b o e n t => k.keep b o e (fun z => by cases z; exact n rfl) t
  refine ⟨by simp only [List.length_set]; exact R.len, fun b o hb hp ht => ?_, fun b hb => ?_, fun j l hj => ?_, fun j k q1 q2 b g1 g2 g3 g4 => ?_, fun j k q1 q2 g1 g2 => ?_, tb, fun b ps e => by
    obtain ⟨ps', e'⟩ := R.tbs b ps e
    exact k.tbs b ps' e'⟩
  · have hne : b ≠ a := fun z => by subst z; rw [n] at hb; cases hb
    exact kk _ _ (R.same b o hb hp ht) hne ht
  · have hne : b ≠ a := fun z => by subst z; exact (R.pt b hb).2 n
    obtain ⟨⟨o, e⟩, z⟩ := R.pt b hb
    refine ⟨?_, z⟩
    by_cases ht : ∃ ps, o = .tbl ps
    · obtain ⟨ps, rfl⟩ := ht
      obtain ⟨ps', e'⟩ := k.tbs b ps e
      exact ⟨_, e'⟩
    · exact ⟨o, kk _ _ e hne fun ps z => ht ⟨ps, z⟩⟩
  · rcases set_get hj with ⟨rfl, rfl, _⟩ | ⟨hij, hj⟩
    · exact ⟨.ref a, h2, a, rfl, ⟨ys, ha, r⟩, n⟩
    · obtain ⟨v2, e2, r⟩ := R.at_ j l hj
      refine ⟨v2, e2, ?_⟩
      cases l with
      | sh p => exact Rep.ext x _ _ r
      | ow p' =>
        obtain ⟨b, eb, ob, nb⟩ := r
        subst eb
        have hba : b ≠ a := fun z => by
          subst z
          exact hij (R.sep i j _ p' b h1 hj h2 e2)
        obtain ⟨u, hu, w, _⟩ := ob.get
        exact ⟨b, rfl, ob.ext x (by rw [kk _ _ hu hba w.tbl, hu]), nb⟩
      | po p' =>
        obtain ⟨b, eb, ob, nb⟩ := r
        subst eb
        have hba : b ≠ a := fun z => by subst z; exact (R.pt b nb).2 n
        obtain ⟨u, hu, w, _⟩ := ob.get
        exact ⟨b, rfl, ob.ext x (by rw [kk _ _ hu hba w.tbl, hu]), nb⟩
  · obtain ⟨p1, k1⟩ := set_ow h1 g1
    obtain ⟨p2, k2⟩ := set_ow h1 g2
    exact R.sep j k p1 p2 b k1 k2 g3 g4
  · rcases set_get g1 with ⟨_, z, _⟩ | ⟨nj, g1⟩
    · cases z
    rcases set_get g2 with ⟨_, z, _⟩ | ⟨nk, g2⟩
    · cases z
    exact R.sepP j k q1 q2 g1 g2
theorem RelSt.lentP {i : Nat} {q q' : List PV} {a : Addr} {ys : List V} (R : RelSt K B s σ H) (h1 : s[i]? = some (some (.po (.lst q)))) (h2 : σ[i]? = some (some (.ref a))) (k : Kp (some a) H H') (tb : LamX.Tabs B.T H') (ha : H' a = some (.lst ys)) (r : RepL K B.C H' q' ys) :
    RelSt K B (s.set i (some (.po (.lst q')))) σ H' := by
  obtain ⟨v, e, b, eb, own, n⟩ := R.at_ i _ h1
  rw [h2] at e
  have e' := Option.some.inj (Option.some.inj e)
  rw [eb] at e'
  cases e'
  obtain ⟨xs, hx, _⟩ := own
  have x := k.ext hx
  have kk : ∀ b o, H b = some o → b ≠ a → (∀ ps, o ≠ .tbl ps) → H' b = some o := fun b o e n t => k.keep b o e (fun z => by cases z; exact n rfl) t
  refine ⟨by simp only [List.length_set]; exact R.len, fun b o hb hp ht => ?_, fun b hb => ?_, fun j l hj => ?_, fun j k q1 q2 b g1 g2 g3 g4 => ?_, fun j k q1 q2 g1 g2 => ?_, tb, fun b ps e => by
    obtain ⟨ps', e'⟩ := R.tbs b ps e
    exact k.tbs b ps' e'⟩
  · have hne : b ≠ a := fun z => by subst z; exact hp n
    exact kk _ _ (R.same b o hb hp ht) hne ht
  · refine ⟨?_, (R.pt b hb).2⟩
    rw [n] at hb
    cases hb
    exact ⟨_, ha⟩
  · rcases set_get hj with ⟨rfl, rfl, _⟩ | ⟨hij, hj⟩
    · exact ⟨.ref a, h2, a, rfl, ⟨ys, ha, r⟩, n⟩
    · obtain ⟨v2, e2, r⟩ := R.at_ j l hj
      refine ⟨v2, e2, ?_⟩
      cases l with
      | sh p => exact Rep.ext x _ _ r
      | ow p' =>
        obtain ⟨b, eb, ob, nb⟩ := r
        subst eb
        have hba : b ≠ a := fun z => by subst z; exact (R.pt b n).2 nb
        obtain ⟨u, hu, w, _⟩ := ob.get
        exact ⟨b, rfl, ob.ext x (by rw [kk _ _ hu hba w.tbl, hu]), nb⟩
      | po p' => exact absurd (R.sepP i j _ p' h1 hj) hij
  · rcases set_get g1 with ⟨_, z, _⟩ | ⟨nj, g1⟩
    · cases z
    rcases set_get g2 with ⟨_, z, _⟩ | ⟨nk, g2⟩
    · cases z
    exact R.sep j k q1 q2 b g1 g2 g3 g4
  · obtain ⟨p1, k1⟩ := set_po h1 g1
    obtain ⟨p2, k2⟩ := set_po h1 g2
    exact R.sepP j k p1 p2 k1 k2
end
section
variable {X : Cx} {W : WX} {B : Bs} {k j : Nat} {f : Addr} {fd : FuncData} {ps : List Str} {sp : Sp} {pos : Pos}
theorem run_fnV {pins : List (Addr × Obj)} {σ : St} {H : Hp} {s : Shared} {Q : VK} {us : List Value} {vs : List V} (F : FnV X.prog X.w X.K X.mg X.base (CX X.prog X.w) k f fd ps sp) (v : VX X j W) (hj : k ≤ j) (hb : Binds X.K fd ps [])
    (I : Inv X pins σ H s) (r : Vals vs us) (h : sp vs H Q fun cls d H' => ∀ σ, W cls d σ H') : wpAny (model X.prog X.w) X.A (call (.ref f) us) (EP X pins σ Q) X.xe s := by
  have hl : us.length = ps.length := by rw [← r.length]; exact F.len _ _ _ _ h
  have hb' := hb s us I.kIn (by rw [List.append_nil]; exact hl)
  rw [List.append_nil] at hb'
  refine wpAny_call (codeAny_mono (F.run X.A X.stack s H ⟨us, []⟩ us vs Q _ (v.room.mono hj) v.grd I.env0 hb' r h) fun r s' hq => ?_)
  cases r with
  | error e => exact passes_call v.tk (fun cls d σ H h => h σ) pins σ H s e s' I hq
  | ok fl =>
    cases fl with
    | ret u => exact I.after hq
    | next => exact False.elim hq
    | brk => exact False.elim hq
    | cont => exact False.elim hq
/-- a def's place, as its callers want it -/
structure Def (X : Cx) (k : Nat) (x : Str) (io : Bool) (n : Nat) (C : CloT) (T : List (Addr × Str)) (F : Fn) : Prop where
  gl : Gl X x
  dbg : (x == ("__debug__" : Str)) = false
  ex : ∃ (f : Addr) (fd : FuncData) (ps : List Str), X.mg x = some (.ref f) ∧ PySem.W.keepIn X.K (.ref f) = true ∧ Binds X.K fd ps [] ∧ ps.length = n ∧ FnV X.prog X.w X.K X.mg X.base (CX X.prog X.w) k f fd ps (spV X.mg X.K C T io ps.length F)
def dCall (n : Nat) (F : Fn) (da : M (List PV)) : M LV := fun s => (da s).bind fun (ps, s) => if ps.length == n then (F [] ps).bind fun (l, _) => .ok (l, s) else .bad
def dCallI (i n : Nat) (F : Fn) (da : M (List PV)) : M LV := fun s => (optR (owA s i)).bind fun _ => (da s).bind fun (ps, s) => if ps.length + 1 == n then (match s[i]? with
  | some (some (.ow (.lst q))) => (F q ps).bind fun (l, q') => .ok (l, s.set i (some (.ow (.lst q'))))
  | some (some (.po (.lst q))) => (F q ps).bind fun (l, q') => .ok (l, s.set i (some (.po (.lst q'))))
  | _ => .bad) else .bad
def asSh (d : M LV) : M PV := fun s => (d s).bind fun (l, s) => match l with
  | .sh p => .ok (p, s)
  | _ => .bad
def asOw (d : M LV) : M PV := fun s => (d s).bind fun (l, s) => match l with
  | .ow p => .ok (p, s)
  | _ => .bad
theorem PXL.sh {e : Expr} {d : M LV} (h : PXL X W B e d) : PX X W B e (asSh d) :=
  PE.weak h fun σ H Q ⟨s, R, q⟩ => ⟨s, R, tRa.bind (rep' := rV X B) q fun l s1 v H1 R1 x1 r1 q => by
    cases l with
    | sh p => exact q v H1 R1 (Ext.refl _) r1
    | ow p => exact (show False from q).elim
    | po p => exact (show False from q).elim⟩
theorem PXL.ow {e : Expr} {d : M LV} (h : PXL X W B e d) : PF X W B e (asOw d) :=
  PE.weak h fun σ H Q ⟨s, R, q⟩ => ⟨s, R, tRa.bind (rep' := rF X B) q fun l s1 v H1 R1 x1 r1 q => by
    cases l with
    | ow p => exact q v H1 R1 (Ext.refl _) r1
    | sh p => exact (show False from q).elim
    | po p => exact (show False from q).elim⟩
/-- what a def gives, as the caller has it -/
theorem give_l1 {s s' : PSt} {σ : St} {H H' : Hp} {l : LV} {v : V} (R : RelSt X.K B s σ H) (g : giveR X.K B.C H l v H') (hs : ∀ (i : Nat) (p : PV), s'[i]? = some (some (.ow p)) → ∃ p', s[i]? = some (some (.ow p'))) : rL1 X B s' σ H' l v := by
  cases l with
  | sh p => exact g
  | po p => exact g
  | ow p =>
    obtain ⟨b, eb, o, n⟩ := g
    refine ⟨b, eb, o, R.h0 n, fun i p h e => ?_⟩
    obtain ⟨p', h'⟩ := hs i p h
    exact R.lone n i p' h' e
theorem exc_up {s : PSt} {σ : St} {H : Hp} {pt : Option Addr} {c : Str} {p : PV} (R : RelSt X.K B s σ H) (hp : ∀ a o, pt = some a → B.H0 a = some o → B.pot = some a) (h : ExcR X W B c p) :
    ∀ cls dx v H', X.mg c = some cls → H' dx = some (.xd [("value", v)]) → Rep X.K B.C H' p v → H dx = none → Kp pt H H' → LamX.Tabs B.T H' → ∀ σ, W cls (some dx) σ H' :=
  fun cls dx v H' m hx rv nd k t σ => h cls dx v σ H' m hx rv (R.h0 nd) ⟨fun a o e n nt => k.keep a o (R.same a o e n nt) (fun z => n (hp a o z e)) nt, fun a ps e => by
    obtain ⟨ps', e'⟩ := R.tbs a ps e
    exact k.tbs a ps' e'⟩ t
theorem pxl_call {n : Nat} {F : Fn} {x : Str} {e : Expr} {es : List Expr} {da : M (List PV)} {p : Pos} (D : Def X k x false n B.C B.T F) (v : VX X j W) (hj : k ≤ j) (ha : PXA X W B (e :: es) da)
    (he : starEach (e :: es) X.env = (false, eval e X.env) :: starEach es X.env := by rfl) (hpl : (backTo pos (starEach es X.env)).any (·.1) = false := by rfl) : PXL X W B (.Call (.Name x p) (e :: es) [] pos) (dCall n F da) := by
  obtain ⟨f, fd, pn, hm, hk, hb, hn, Fn⟩ := D.ex
  refine ⟨fun pins s σ H Q I h => ?_⟩
  obtain ⟨sp, R, h⟩ := h
  refine wpAny_Call_Name_kw (ld_glob I D.gl hm ?_ D.dbg)
  refine PySem.W.callWith_K (h₀ := X.base) I.ok.mod.kin hk (thn (ha.run pos pins s σ H (fun vs H' => spV X.mg X.K B.C B.T false pn.length F vs H' Q fun cls d H' => ∀ σ, W cls d σ H') I ⟨sp, R, tRa.bind (rep' := fun s σ H => rL1 X B s σ H) h fun ps s1 vs H1 R1 x1 r1 q => ?_⟩)
    fun us s1 ⟨vs, H1, I1, r, q⟩ => ⟨I1.kIn, run_fnV Fn v hj hb I1 r q⟩) he hpl
  dsimp only at q
  by_cases hl : (ps.length == n) = true
  · rw [if_pos hl] at q
    refine ⟨by rw [r1.length, hn]; exact eq_of_beq hl, R1.tb, [], ps, none, ⟨rfl, rfl, r1⟩, ?_⟩
    cases ef : F [] ps with
    | bad => rw [ef] at q; exact (show False from q).elim
    | exc c p =>
      rw [ef] at q
      exact exc_up R1 (fun a o z => nomatch z) q
    | ok y =>
      obtain ⟨l, q'⟩ := y
      rw [ef] at q
      intro w H' kb kt _ g
      exact q w H' (R1.growN kb kt) kb.ext0 (give_l1 R1 g fun i p e => ⟨p, e⟩)
  · rw [if_neg hl] at q
    exact (show False from q).elim
theorem pxl_callI {i n : Nat} {F : Fn} {x y : Str} {es : List Expr} {da : M (List PV)} {p yp : Pos} (D : Def X k x true n B.C B.T F) (v : VX X j W) (hj : k ≤ j) (hN : X.N[i]? = some y) (hv : Vis X.env.scope y) (ha : PXA X W B es da)
    (he : starEach (.Name y yp :: es) X.env = (false, eval (.Name y yp) X.env) :: starEach es X.env := by rfl) (hpl : (backTo pos (starEach es X.env)).any (·.1) = false := by rfl)
    (hd : (y == ("__debug__" : Str)) = false := by decide) (hcd : (y == ("__classdict__" : Str)) = false := by decide) : PXL X W B (.Call (.Name x p) (.Name y yp :: es) [] pos) (dCallI i n F da) := by
  obtain ⟨f, fd, pn, hm, hk, hb, hn, Fn⟩ := D.ex
  refine ⟨fun pins s σ H Q I h => ?_⟩
  obtain ⟨sp, R, h⟩ := h
  obtain ⟨p0, e0, h⟩ := optR_ok h
  obtain ⟨a, ea⟩ := owA_at R e0
  refine wpAny_Call_Name_kw (ld_glob I D.gl hm ?_ D.dbg)
  have hpa := pa_cons (es := es) (pe_var (pos := yp) hN hv hd hcd) ha he
  refine PySem.W.callWith_K (h₀ := X.base) I.ok.mod.kin hk (thn (hpa.run pos pins s σ H (fun vs H' => spV X.mg X.K B.C B.T true pn.length F vs H' Q fun cls d H' => ∀ σ, W cls d σ H') I ⟨.ref a, ea, sp, R, tRa.bind (rep' := fun s σ H => rL1 X B s σ H) h fun ps s1 vs H1 R1 x1 r1 q => ?_⟩)
    fun us s1 ⟨vs, H1, I1, r, q⟩ => ⟨I1.kIn, run_fnV Fn v hj hb I1 r q⟩) he hpl
  dsimp only at q
  by_cases hl : (ps.length + 1 == n) = true
  · rw [if_pos hl] at q
    have len : (V.ref a :: vs).length = pn.length := by rw [List.length_cons, r1.length, hn]; exact eq_of_beq hl
    split at q
    · rename_i q0 es
      obtain ⟨v', ev', b, eb, ⟨xs, hx, rx⟩, nb⟩ := R1.at_ i _ es
      rw [ea] at ev'
      cases ev'
      cases eb
      refine ⟨len, R1.tb, q0, ps, some a, ⟨a, vs, xs, rfl, rfl, hx, rx, r1⟩, ?_⟩
      cases ef : F q0 ps with
      | bad => rw [ef] at q; exact (show False from q).elim
      | exc c p =>
        rw [ef] at q
        exact exc_up R1 (fun c o z e => by cases z; rw [nb] at e; cases e) q
      | ok y =>
        obtain ⟨l, q'⟩ := y
        rw [ef] at q
        intro w H' kb kt hq g
        obtain ⟨ys, hy, ry⟩ := hq a rfl
        exact q w H' (R1.lent es ea kb kt hy ry) (kb.ext hx) (give_l1 R1 g fun i p e => set_ow es e)
    · rename_i q0 es
      obtain ⟨v', ev', b, eb, ⟨xs, hx, rx⟩, nb⟩ := R1.at_ i _ es
      rw [ea] at ev'
      cases ev'
      cases eb
      refine ⟨len, R1.tb, q0, ps, some a, ⟨a, vs, xs, rfl, rfl, hx, rx, r1⟩, ?_⟩
      cases ef : F q0 ps with
      | bad => rw [ef] at q; exact (show False from q).elim
      | exc c p =>
        rw [ef] at q
        exact exc_up R1 (fun c o z e => by cases z; exact nb) q
      | ok y =>
        obtain ⟨l, q'⟩ := y
        rw [ef] at q
        intro w H' kb kt hq g
        obtain ⟨ys, hy, ry⟩ := hq a rfl
        refine q w H' (R1.lentP es ea kb kt hy ry) (kb.ext hx) (give_l1 R1 g fun i p e => ?_)
        rcases set_get e with ⟨_, z, _⟩ | ⟨_, h⟩
        · cases z
        · exact ⟨p, h⟩
    · exact (show False from q).elim
  · rw [if_neg hl] at q
    exact (show False from q).elim
end
end VL
/-! VL15: errors with a value, raised. -/
namespace VL
set_option autoImplicit false
open PySem PySem.Spec PyProof.Rows L2
/-- __init__(self, value): ValueError.__init__(self, value); self.value = value -/
def spInit (K : PySem.W.Frag) : Sp := fun vs H Q _ => ∃ (a C : Addr) (y : V), vs = [.ref a, y] ∧ OexC K C ∧ PySem.W.findIn K (.ref C) "value" = some none ∧ H a = some (exo a C none) ∧
  ∀ d, H d = none → d ≠ a → Q .non (upd (upd H d (exd d [("value", y)])) a (exo a C (some d)))
theorem init_body {X : Cx} {H : Hp} {Q : VK} {E : XK} {vs : List V} {p1 p2 p3 p4 p5 p6 p7 p8 p9 pa : Pos}
    (h0 : X.N[0]? = some ("self" : Str)) (h1 : X.N[1]? = some ("value" : Str)) (v0 : Vis X.env.scope "self") (v1 : Vis X.env.scope "value") (hg : Gl X "ValueError") (hm : X.mg "ValueError" = none)
    (vV : PySem.W.findCls X.K (.type "ValueError") (.type "type") "__init__" = some (.val (.builtin "ValueError.__init__"))) (hsp : spInit X.K vs H Q E)
    (hc : ∃ pl, eval (.Call (.Attribute (.Name "ValueError" p1) "__init__" p2) [.Name "self" p3, .Name "value" p4] [] p5) X.env = (do
      let ov ← eval (.Name "ValueError" p1) X.env
      standAt p2.atName
      let (f, first) ← holding [ov] (getMethod ov "__init__" pl)
      callWith p5 f first (backTo p5 (starEach [.Name "self" p3, .Name "value" p4] X.env)) (backToKw p5 (keywordEach [] X.env)))) 
    (hs1 : swapsWith (.Call (.Attribute (.Name "ValueError" p1) "__init__" p2) [.Name "self" p3, .Name "value" p4] [] p5) none p6.line X.env = pure false)
    (hs2 : swapsWith (.Name "value" p7) (some (.Attribute (.Name "self" p8) "value" p9)) pa.line X.env = pure false) :
    ∃ t, PSs X [.Expr (.Call (.Attribute (.Name "ValueError" p1) "__init__" p2) [.Name "self" p3, .Name "value" p4] [] p5) p6, .Assign [.Attribute (.Name "self" p8) "value" p9] (.Name "value" p7) pa] t ∧
      t { nx := fun _ H' => Q .non H', rt := Q } (start [("self" : Str), "value"] vs) H := by
  obtain ⟨pl, hc⟩ := hc
  have s0 : ∀ p, PE X (.Name "self" p) (tVar 0) := fun p => pe_var h0 v0
  have s1 : ∀ p, PE X (.Name "value" p) (tVar 1) := fun p => pe_var h1 v1
  refine ⟨_, pss_cons (ps_expr (pe_veinit hg hm vV (pa_cons (s0 _) (pa_cons (s1 _) pa_nil)) hc) hs1) (pss_one (ps_ost (s0 _) (s1 _) hs2)), ?_⟩
  obtain ⟨a, C, y, rfl, T, hv, ha, q⟩ := hsp
  refine ⟨.ref a, rfl, y, rfl, a, C, [y], rfl, (show 1 ≤ 1000 by decide), T, ha, ?_⟩
  exact ⟨y, rfl, .ref a, rfl, a, C, rfl, T, hv, .inl ⟨ha, fun d hd hn => q d hd hn⟩⟩
/-- what a frame knows of an error class of its own -/
structure ErrC (X : Cx) (k : Nat) (c : Str) : Prop where
  gl : Gl X c
  dbg : (c == ("__debug__" : Str)) = false
  ex : ∃ (C fI : Addr) (fd : FuncData) (ps : List Str), X.mg c = some (.ref C) ∧ OexC X.K C ∧ PySem.W.findIn X.K (.ref C) "__init__" = some (some (.ref fI)) ∧ PySem.W.typeIn X.K (.ref fI) = some (.type "function") ∧
    FnOk X.prog X.w X.K X.mg X.base (CX X.prog X.w) k fI fd ps (spInit X.K) ∧ Binds X.K fd ps [] ∧ PySem.W.findIn X.K (.ref C) "value" = some none
def dRaise (c : Str) (d : M PV) : M Fl := fun s => (d s).bind fun (p, _) => .exc c p
section
variable {X : Cx} {W : WX} {B : Bs} {k j : Nat} {pos : Pos}
theorem pxs_raise {c : Str} {e : Expr} {d : M PV} {p cp : Pos} (D : ErrC X k c) (v : VX X j W) (hj : k + 1 ≤ j) (he : PX X W B e d)
    (hs : starEach [e] X.env = (false, eval e X.env) :: starEach [] X.env := by rfl) (hpl : (backTo cp (starEach [] X.env)).any (·.1) = false := by rfl) : PXS X W B (.Raise (some (.Call (.Name c p) [e] [] cp)) none pos) (dRaise c d) := by
  obtain ⟨C, fI, fd, pn, hm, T, iC, tI, F, hb, hv⟩ := D.ex
  have mk := pmk_oex (p := p) (pos := cp) T iC tI F (v.room.mono hj) hb (dvs := []) .nil (passes_call v.tk fun _ _ _ _ z => z.elim) D.gl hm (pa_cons he pa_nil hs) D.dbg hs hpl
  refine PS.weak (ps_raise (pos := pos) v.calm v.tk mk) fun D σ H ⟨s, R, h⟩ => ⟨s, R, endR.bind (rep' := rV X B) h fun p s1 x H1 R1 x1 r1 q => ?_⟩
  refine ⟨(show 1 ≤ 1000 by decide), fun a ha => ?_⟩
  have q : ExcR X W B c p := q
  refine ⟨a, C, x, rfl, T, hv, upd_same, fun dx hd hn => ?_⟩
  have hd1 : H1 dx = none := by rw [upd_ne hn] at hd; exact hd
  refine ⟨rfl, dx, [("value", x)], upd_same, ?_, hd1, ?_⟩
  · rw [upd_ne hn, upd_same]
  · have gr : Grow H1 (upd (del (upd (upd (upd H1 a (exo a C none)) dx (exd dx [("value", x)])) a (exo a C (some dx))) a) dx (.xd [("value", x)])) := fun b o e => by
      rw [upd_ne (ne_of_none e hd1), del_ne (ne_of_none e ha), upd_ne (ne_of_none e ha), upd_ne (ne_of_none e hd1), upd_ne (ne_of_none e ha)]
      exact e
    exact q _ dx x σ _ hm upd_same (Rep.ext gr.ext _ _ r1) (R1.h0 hd1) (R1.kp.trans (Kp.of gr)) (R1.tb.ext gr)
end
end VL
/-! VL16: lambdas without parameters: made; called in another frame. -/
namespace VL
set_option autoImplicit false
open PySem PySem.Spec PyProof.Rows L2
/-- the lambdas of a frame, by their numbers -/
def cloC (X : Cx) (L : List (Arguments × Expr × Scope)) : CloT := ⟨fun n o c q => ∃ params body scope pm ctv, L[n]? = some (params, body, scope) ∧ q = X.env.qual ++ "<lambda>" ∧
  o = PySem.W.kla_obj "<lambda>" q params body scope (cloFrom X.env.cells scope.names []) pm c ctv, X.mg⟩
def dLam (n : Nat) : M PV := fun s => .ok (.clo n, s)
/-- the frame's own table -/
structure LamT (X : Cx) (T : List (Addr × Str)) : Prop where
  ex : ∃ c P : Addr, LamX.TabB X.base X.mg c P ∧ X.env.code = .ref c ∧ (P, X.env.qual ++ "<lambda>") ∈ T ∧ ∀ p ∈ T, p.1 = P → p.2 = X.env.qual ++ "<lambda>"
section
variable {X : Cx} {W : WX} {B : Bs} {k j : Nat} {pos : Pos}
theorem tabs_grown {T : List (Addr × Str)} {H : Hp} {P c : Addr} {q : Str} {ps : Array Value} {pos : Pos} (hT : LamX.Tabs T H) (hu : ∀ p ∈ T, p.1 = P → p.2 = q) (hP : H P = some (.tbl ps)) (ht : PySem.TriplesOk ps.toList)
    (ha : ∀ (pos : Pos) (cv : Value), codeAmong pos ps.toList = some cv → ∃ c, cv = .ref c ∧ H c = some (LamX.CodeO c q)) (nC : H c = none) :
    LamX.Tabs T (upd (upd H P (.tbl (ps ++ #[rawInt pos.line, rawInt pos.col, .ref c]))) c (LamX.CodeO c q)) ∧ Kp none H (upd (upd H P (.tbl (ps ++ #[rawInt pos.line, rawInt pos.col, .ref c]))) c (LamX.CodeO c q)) := by
  have hE : ∀ b o, H b = some o → (∀ ps, o ≠ .tbl ps) → upd (upd H P (.tbl (ps ++ #[rawInt pos.line, rawInt pos.col, .ref c]))) c (LamX.CodeO c q) b = some o := fun b o e n => by
    rw [upd_ne (ne_of_none e nC), upd_ne (fun z => n ps (Option.some.inj (e.symm.trans (by rw [z]; exact hP))))]
    exact e
  have eL : (ps ++ #[rawInt pos.line, rawInt pos.col, .ref c]).toList = ps.toList ++ [rawInt pos.line, rawInt pos.col, .ref c] := by simp
  have atP : upd (upd H P (.tbl (ps ++ #[rawInt pos.line, rawInt pos.col, .ref c]))) c (LamX.CodeO c q) P = some (.tbl (ps ++ #[rawInt pos.line, rawInt pos.col, .ref c])) := by
    rw [upd_ne (ne_of_none hP nC), upd_same]
  refine ⟨fun p hp => ?_, fun b o e _ n => hE b o e n, fun b ps' e => ?_⟩
  · by_cases hb : p.1 = P
    · rw [hu p hp hb, hb]
      refine ⟨_, atP, by rw [eL]; exact PySem.TriplesOk_snoc _ _ _ _ ht, fun p' cv hcv => ?_⟩
      rw [eL] at hcv
      rcases LamX.among_app _ ht hcv with z | z
      · obtain ⟨c0, e1, e2⟩ := ha p' cv z
        exact ⟨c0, e1, hE _ _ e2 LamX.codeO_ne⟩
      · exact ⟨c, z, upd_same⟩
    · obtain ⟨ps', a1, a2, a3⟩ := hT p hp
      refine ⟨ps', by rw [upd_ne (ne_of_none a1 nC), upd_ne hb]; exact a1, a2, fun p' cv hcv => ?_⟩
      obtain ⟨c0, e1, e2⟩ := a3 p' cv hcv
      exact ⟨c0, e1, hE _ _ e2 LamX.codeO_ne⟩
  · by_cases hb : b = P
    · rw [hb]; exact ⟨_, atP⟩
    · exact ⟨ps', by rw [upd_ne (ne_of_none e nC), upd_ne hb]; exact e⟩
/-- the lambda's object is new, and known -/
theorem lam_laid {pins : List (Addr × Obj)} {σ : St} {H H1 : Hp} {s : Shared} {h' : Heap} {tk : Nat} {sp : PSt} {n : Nat} {c : Addr} {o : Obj} {q : Str} {Q : VK} (I1 : Inv X pins σ H1 { s with heap := h', toks := tk }) (R : RelSt X.K B sp σ H) (kp : Kp none H H1) (T1 : LamX.Tabs B.T H1)
    (hc : H1 c = some (LamX.CodeO c q)) (hC : B.C.clo n o c q) (hfr : o.isFreed = false) (hq : tRa X W B (rV X B) (.ok (.clo n, sp)) σ H Q) : EP X pins σ Q (.ref h'.objs.size) { s with heap := h'.push o, toks := tk } := by
  have nf : H1 h'.objs.size = none := I1.hok.fresh (Nat.le_refl _)
  have ho : (h'.push o).get? h'.objs.size = some o := Heap.get?_push_size _ hfr
  have I2 : Inv X pins σ (upd H1 h'.objs.size (.frz o (.own 0))) { s with heap := h'.push o, toks := tk } := I1.laid (t' := tk) (fun b o e => Heap.get?_push_of_some _ e) (Nat.le_refl _) ⟨ho, ⟨_, ho⟩⟩
  have gr : Grow H1 (upd H1 h'.objs.size (.frz o (.own 0))) := Grow.new nf
  have T2 := T1.ext gr
  have kp2 := kp.trans (Kp.of gr)
  refine ⟨.ref h'.objs.size, _, I2, rfl, hq _ _ (R.growN kp2 T2) kp2.ext0 ?_⟩
  show Rep X.K B.C _ (.clo n) _
  simp only [Rep]
  exact ⟨_, o, _, c, q, rfl, upd_same, hC, gr _ _ hc⟩
theorem px_lam {n : Nat} {L : List (Arguments × Expr × Scope)} {params : Arguments} {body : Expr} {scope : Scope} (hC : B.C = cloC X L) (hL : L[n]? = some (params, body, scope)) (LT : LamT X B.T) (ls : LamX.LamS X.env.scope scope) (hdef : defaultsOf params X.env = ([], []) := by rfl) :
    PX X W B (.Lambda params body scope pos) (dLam n) := by
  refine ⟨fun pins s σ H Q I h => ?_⟩
  obtain ⟨sp, R, h⟩ := h
  obtain ⟨c0, P, TB, hcode, hm, hu⟩ := LT.ex
  obtain ⟨ps, hP, ht, ha⟩ := R.tb _ hm
  refine PySem.W.kla_eval hdef ?_
  have bP : s.heap.BuiltinsAt X.mg P := TB.bm.keeps I.bk
  have hP' : s.heap.get? P = some { cls := .none, data := .fields ps } := I.hok P _ hP
  have hfree := ls.has I.ok
  cases hc : codeAmong pos ps.toList with
  | none =>
    refine PySem.W.kla_makeFunction (mg := X.mg) (c := c0) (P := P) (ps := ps) (closure_ok hfree) I.ok.glob (I.mod.glob.keeps I.bk) hcode (TB.code.keeps I.bk) hP' ht hc TB.gP bP fun c' ctv h' tk hx hge hlt hrec htb => ?_
    obtain ⟨c2, oc, vs, t, e2, hoc, hd, hv⟩ := hrec
    cases e2
    have nC : H c' = none := I.hok.fresh hge
    have I1 := LamX.inv_table (t' := tk) (more := #[rawInt pos.line, rawInt pos.col, .ref c']) (h' := h') I hP hx htb hge ⟨oc, vs, t, hoc, hd, hv⟩
    obtain ⟨T1, kp⟩ := tabs_grown (pos := pos) R.tb hu hP ht ha nC
    exact lam_laid I1 R kp T1 upd_same (by rw [hC]; exact ⟨params, body, scope, _, ctv, hL, rfl, rfl⟩) rfl h
  | some cv =>
    obtain ⟨c', e, hco⟩ := ha pos cv hc
    subst e
    refine PySem.W.kla_makeFunctionHit (mg := X.mg) (c := c0) (P := P) (ps := ps) (closure_ok hfree) I.ok.glob (I.mod.glob.keeps I.bk) hcode (TB.code.keeps I.bk) hP' ht hc bP fun ctv h' tk hx hsz => ?_
    have I1 : Inv X pins σ H { s with heap := h', toks := tk } := I.kept hx
    exact lam_laid I1 R (Kp.of fun _ _ e => e) R.tb hco (by rw [hC]; exact ⟨params, body, scope, _, ctv, hL, rfl, rfl⟩) rfl h
end
end VL
/-! VL17: what is caught is kept; a lambda called in another frame. -/
namespace VL
set_option autoImplicit false
open PySem PySem.Spec PyProof.Rows L2
section
variable {X : Cx} {pins : List (Addr × Obj)} {σ : L2.St} {H : Hp} {s : Shared}
/-- an object that is there, younger than the frame, is known from now on -/
theorem Inv_track {a : Addr} {o : Obj} (I : Inv X ((a, o) :: pins) σ H s) (h0 : ∀ o, X.s_0.heap.get? a ≠ some o) (hp : ∀ p ∈ X.pn ++ pins, p.1 ≠ a) : Inv X pins σ (upd H a (.frz o (.own 0))) s := by
  obtain ⟨ha, nH, nL, nF, nd⟩ := I.pin (a, o) (List.mem_append_right _ List.mem_cons_self)
  have ha : s.heap.get? a = some o := ha
  have nH : H a = none := nH
  refine ⟨I.ok, I.os, I.bare, ⟨I.base.keep, I.base.slot, fun b u e n hx => ?_, I.base.there, fun b xs e => ?_, fun b u v e => ?_, fun b ps e => ?_⟩, I.loc, I.cell, ?_, fun x c e => ?_, fun p hq => ?_, fun b u e => ?_, I.len⟩
  · rw [upd_ne (fun z => h0 u (by rw [← z]; exact e))]
    exact I.base.free b u e n hx
  · rw [upd_ne (ne_of_none (I.base.tups b xs e) nH)]; exact I.base.tups b xs e
  · rw [upd_ne (ne_of_none (I.base.frzs b u v e) nH)]; exact I.base.frzs b u v e
  · obtain ⟨more, z⟩ := I.base.tbls b ps e
    exact ⟨more, by rw [upd_ne (ne_of_none z nH)]; exact z⟩
  · rw [upd_ne (Ne.symm nL)]; exact I.free
  · obtain ⟨v, oc, hc, hd⟩ := I.cell x c e
    have n : c ≠ a := fun z => by rw [z, ha] at hc; cases hc; exact nd _ hd
    rw [upd_ne n]; exact I.freeC x c e
  · obtain ⟨q1, q2, q3⟩ := I.pin p ((List.mem_append.mp hq).elim (fun z => List.mem_append_left _ z) fun z => List.mem_append_right _ (List.mem_cons_of_mem _ z))
    exact ⟨q1, by rw [upd_ne (hp p hq)]; exact q2, q3⟩
  · by_cases hb : b = a
    · rw [hb, upd_same] at e
      cases e
      rw [hb]
      exact ⟨ha, ⟨o, ha⟩⟩
    · rw [upd_ne hb] at e
      exact (I.hok b u e).stay (fun c v _ z => z) (fun c z => by rw [upd_ne (ne_of_none z nH)]; exact z) fun c xs z => by rw [upd_ne (ne_of_none z nH)]; exact z
/-- what 'except x as n: m = n' wishes of an exception; i is n's slot, j is m's -/
def wKeep (K : PySem.W.Frag) (c : Value) (i j : Nat) (D : Ends) : WX := fun cls d σ H =>
  PySem.W.exmOne K cls c = some true ∧ ∀ (a : Addr) (o : Obj), H a = none → Zc cls d o → (∃ vs, o.data = .fields vs) → D.nx (((σ.set i (some (.ref a))).set j (some (.ref a))).set i none) (upd H a (.frz o (.own 0)))
theorem ps_try_keep {x n m : Str} {c : Value} {i j : Nat} {body : List Stmt} {np np2 mp ap pos pos' : Pos} {tb : WX → TS} (hs : X.stack = X.env :: X.outer) (hf : X.env.frame = some X.env.locals) (hex : X.ex = []) (hN : X.N.Nodup) (hi : X.N[i]? = some n) (hln : X.env.kindOf n = some .local)
    (hj : X.N[j]? = some m) (hjl : X.env.kindOf m = some .local) (hc : Names X x c) (hsw : swapsWith (.Name n np2) (some (.Name m mp)) ap.line X.env = pure false) (hdb : (n == ("__debug__" : Str)) = false) (hcd : (n == ("__classdict__" : Str)) = false)
    (hb : ∀ (W : WX) (pn : List (Addr × Obj)) (xe : Value → Shared → Prop), Takes (X.tr pn xe) W → PassesOwn (model X.prog X.w) X.A X.env xe → PSs (X.tr pn xe) body (tb W)) :
    PS X (.Try body [.ExceptHandler (some (.Name x np)) (some n) [.Assign [.Name m mp] (.Name n np2) ap] pos'] [] [] pos) (fun D σ H => tb (wKeep X.K c i j D) D σ H) := by
  refine ⟨fun pins s σ H D I h => ?_⟩
  have ok := I.ok
  have hfr : X.A.frames = some (X.env :: X.outer) := by rw [ok.frames, hs]
  have hloc : Loc X.env.scope n := .inl hln
  refine wpAny_Try_except ?_
  refine wpAny_mono ((hb (wKeep X.K c i j D) (X.pn ++ pins) (fun e s₁ => wpAny (model X.prog X.w) X.A (noteFrame e X.env) (fun _ s₂ => wpAny (model X.prog X.w) X.A (setFlight e none) (fun _ s₃ =>
    wpAny (model X.prog X.w) X.A (handleBy e X.env [.ExceptHandler (some (.Name x np)) (some n) [.Assign [.Name m mp] (.Name n np2) ap] pos']) (SP X pins D) X.xe s₃) X.xe s₂) X.xe s₁) (fun u s' xx => ?_) PassesOwn.looking).run [] s σ H D (I.toTry _) h) (fun f s1 hsp => ?_) (fun e s1 he => he)
  · obtain ⟨a, G, sI, pins', σ', H', cls, d, rfl, J', nb, up, sky, na, os, ag, hb1, hyes⟩ := xx
    have J : Inv X pins σ' H' sI := J'.ofTry ok
    have sky' : Sky G (X.env :: X.outer) a (Zc cls d) X.env.locals s'.heap := by rw [← hs]; exact sky
    show wpAny (model X.prog X.w) X.A (noteFrame (.ref a) X.env) _ _ _
    refine Sky.land Zc.steady hfr hf sky' fun h3 fl3 up3 => ?_
    have J3 : Inv X pins σ' H' { s' with heap := h3 } := J.landed nb fl3.1 (up.trans up3) os ag
    obtain ⟨oe3, vs3, he3, hz3, hd3⟩ := fl3.there
    have nfr : a ∉ frs (X.env :: X.outer) := fun hm => by
      obtain ⟨_, o', e', hnf⟩ := fl3.2.2.1.mem hm
      rw [he3] at e'; cases e'
      exact hnf _ hd3
    have nL : a ≠ X.env.locals := fun z => nfr (List.mem_filterMap.mpr ⟨X.env, List.mem_cons_self, by rw [hf, z]⟩)
    have nF : a ∉ X.fs := fun hm => by
      obtain ⟨e, he, q⟩ := List.mem_filterMap.mp hm
      exact nfr (List.mem_filterMap.mpr ⟨e, List.mem_cons_of_mem _ he, q⟩)
    have nG : G.get? a = none := fl3.2.1
    have new0 : ∀ o, X.s_0.heap.get? a ≠ some o := fun o e => by
      obtain ⟨o', e'⟩ := J.base.there a o e (by rw [hex]; exact fun z => nomatch z)
      have := nb a o' e' (by rw [hs]; exact nfr)
      rw [nG] at this; cases this
    have newP : ∀ p ∈ X.pn ++ pins, p.1 ≠ a := fun p hp z => by
      obtain ⟨q1, _, q3, q4, _⟩ := J'.pin p (List.mem_append_left _ hp)
      have q1 : sI.heap.get? p.1 = some p.2 := q1
      rw [z] at q1
      have := nb a _ q1 (by rw [hs]; exact nfr)
      rw [nG] at this; cases this
    have S3 := J3.suite he3 hd3 na nL nF
    refine wpAny_handleBy_cons (codeAny_handlers_test ?_) (by intro q; cases q)
    have LT : PySem.W.Looks (model X.prog X.w) h3 (typeOf (.ref a)) cls := fun A Q E s k q => wpAny_typeOf_ref (k _ _ he3) (by rw [hz3.1]; exact q)
    have LM := PySem.W.exm_one (M := model X.prog X.w) (J3.kIn) LT hb1
    have test : ∀ {Q : Value → Shared → Prop} {E : Value → Shared → Prop}, Q c { s' with heap := h3 } → wpAny (model X.prog X.w) (X.A.mark (some (.ref a))) (eval (.Name x np) X.env) Q E { s' with heap := h3 } := fun {Q E} q => by
      obtain ⟨hg, hdbg, hm | ⟨hm, hv, hnn⟩⟩ := hc
      · exact ld_glob (X := X.suite a ((a, oe3) :: (X.pn ++ pins))) S3 hg hm q hdbg
      · exact ld_blt (X := X.suite a ((a, oe3) :: (X.pn ++ pins))) S3 hg hm hv q hnn hdbg
    refine test (LM.here ?_)
    refine codeAny_handlers_suite_as ?_
    refine HandSPX.lands_againZ fl3 fun h4 fl4 up4 => ?_
    have J4 : Inv X pins σ' H' { s' with heap := h4 } := J.landed nb fl4.1 ((up.trans up3).trans up4) os ag
    obtain ⟨oe4, vs4, he4, hz4, hd4⟩ := fl4.there
    have S4 := J4.suite he4 hd4 na nL nF
    refine store_ok (X := X.suite a ((a, oe4) :: (X.pn ++ pins))) (v := .ref a) S4 hN hi hloc rfl (fun s5 S5 => ?_) (.inr hln)
    have suite : PSs (X.suite a ((a, oe4) :: (X.pn ++ pins))) [.Assign [.Name m mp] (.Name n np2) ap] (tAsg (tVar i) (gName j)) :=
      pss_one (ps_set hN hj (.inl hjl) (pe_var hi (.inl hln) hdb hcd) hsw (.inr hjl))
    have iσ : i < σ'.length := by rw [J.len]; exact (List.getElem?_eq_some_iff.mp hi).1
    refine wpAny_mono (suite.run [] s5 _ H' { nx := fun σ6 H6 => σ6 = (σ'.set i (some (.ref a))).set j (some (.ref a)) ∧ H6 = H', rt := fun _ _ => False } S5 ⟨.ref a, List.getElem?_set_self iσ, rfl, rfl⟩) (fun f s6 hsp => ?_) (fun _ _ z => False.elim z)
    cases f with
    | brk => obtain ⟨_, _, _, z⟩ := hsp; exact z.elim
    | cont => obtain ⟨_, _, _, z⟩ := hsp; exact z.elim
    | ret u => obtain ⟨_, _, _, _, _, z⟩ := hsp; exact z.elim
    | next =>
      obtain ⟨σ6, H6, S6, e6, eH⟩ := hsp
      subst e6 eH
      have S6' : Inv X ((a, oe4) :: pins) ((σ'.set i (some (.ref a))).set j (some (.ref a))) H6 s6 :=
        ⟨ok, S6.os, S6.bare, S6.base, S6.loc, S6.cell, S6.free, S6.freeC, fun p hp => S6.pin p (by
          rw [List.append_nil]
          rcases List.mem_append.mp hp with z | z
          · exact List.mem_cons_of_mem _ (List.mem_append_left _ z)
          · rcases List.mem_cons.mp z with z | z
            · rw [z]; exact List.mem_cons_self
            · exact List.mem_cons_of_mem _ (List.mem_append_right _ z)), S6.hok, S6.len⟩
      exact gone_ok S6' hN hi hln fun s7 J7 => ⟨_, _, Inv_track J7 new0 newP, hyes a oe4 na hz4 ⟨_, hd4⟩⟩
  · cases f with
    | next =>
      obtain ⟨σ', H', J', q⟩ := hsp
      exact wpAny_execs_nil ⟨σ', H', J'.ofTry ok, q⟩
    | brk =>
      obtain ⟨σ', H', J', q⟩ := hsp
      exact ⟨σ', H', J'.ofTry ok, q⟩
    | cont =>
      obtain ⟨σ', H', J', q⟩ := hsp
      exact ⟨σ', H', J'.ofTry ok, q⟩
    | ret u =>
      obtain ⟨v, σ', H', J', r, q⟩ := hsp
      exact ⟨v, σ', H', J'.ofTry ok, r, q⟩
end
end VL
/-! VL18: a lambda called in another frame; _law_heard. -/
namespace VL
set_option autoImplicit false
open PySem PySem.Spec PyProof.Rows L2
/-- x(), in the frame that got the lambda: its object is frozen -/
theorem pe_act2 {X : Cx} {pins : List (Addr × Obj)} {σ : L2.St} {H : Hp} {s : Shared} {CXg : CXT} {Eg : XK} {Ng : List Str} {qg : Str} {sg : Scope} {g f c' : Addr} {cdg pm ctv : Value} {params : Arguments} {body : Expr} {scope : Scope} {k i : Nat} {a : Str} {u : HO} {pn : List (Addr × Obj)} {xe : Value → Shared → Prop} {W : WX} {E : XK} {tb : TE} {p1 p2 : Pos}
    (I : Inv X pins σ H s) (L : LamX.LamS X.env.scope scope) (hf : H f = some (.frz (PySem.W.kla_obj "<lambda>" (X.env.qual ++ "<lambda>") params body scope (cloFrom X.env.cells scope.names []) pm c' ctv) u))
    (hbind : bindArgs (PySem.W.kla_fn "<lambda>" (X.env.qual ++ "<lambda>") params body scope (cloFrom X.env.cells scope.names []) pm (.ref c') ctv) ⟨[], []⟩ = pure [])
    (tk : Takes ((cxOf CXg X.prog X.w X.K X.mg X.base Ng qg sg g cdg X.A X.stack s H Eg).tr pn xe) W) (hr : Room (k + 1) (X.A.deeper (envOfC qg sg s.heap.objs.size g cdg))) (hgd : X.A.guards = some [])
    (hbody : ∀ (A : Around) (outer : List Env) (s : Shared) (H : Hp), Room k (A.deeper (LamX.lamEnv X scope s.heap.objs.size f c')) → A.guards = some [] → PE (LamX.lamCx X A outer s H E scope f c') body tb)
    (hN : Ng[i]? = some a) (hv : Vis sg a) (hd : (a == ("__debug__" : Str)) = false) (hcd : (a == ("__classdict__" : Str)) = false) :
    PE ((cxOf CXg X.prog X.w X.K X.mg X.base Ng qg sg g cdg X.A X.stack s H Eg).tr pn xe) (.Call (.Name a p1) [] [] p2)
      (fun σZ HZ Q => σZ[i]? = some (some (.ref f)) ∧ HZ c' = some (LamX.CodeO c' (X.env.qual ++ "<lambda>")) ∧ (∀ cls d H', E cls d H' → W cls d σZ H') ∧ tb σ HZ Q) := by
  refine ⟨fun pinsZ sZ σZ HZ Q IZ h => ?_⟩
  obtain ⟨hs, hc, hW, ht⟩ := h
  refine wpAny_Call_Name_kw (thn ((pe_var (pos := p1) (i := i) hN hv hd hcd).run pinsZ sZ σZ HZ (fun v H1 => v = .ref f ∧ H1 = HZ) IZ ⟨.ref f, hs, rfl, rfl⟩) fun u1 s1 ⟨v, H1, I1, r1, q1⟩ => ?_)
  obtain ⟨ev, eH⟩ := q1
  subst ev
  rw [eH] at I1
  obtain rfl : u1 = Value.ref f := r1
  have of1 : s1.heap.get? f = some (PySem.W.kla_obj "<lambda>" (X.env.qual ++ "<lambda>") params body scope (cloFrom X.env.cells scope.names []) pm c' ctv) := (I1.hok f _ (I1.base.frzs f _ _ hf)).1
  refine PySem.W.callWith_F0 ⟨_, _, _, _, of1⟩ ?_
  have un : Un (frs X.stack) [] H HZ s.heap s1.heap := I1.base
  obtain ⟨⟨oc, vs, t, hoc, hdc, hvc⟩, _, _⟩ := I1.hok c' _ hc
  have rc : codeAny (model X.prog X.w) (X.A.deeper (envOfC qg sg s.heap.objs.size g cdg)) (.call (.ref f) ⟨[], []⟩) (CR (L2.CX X.prog X.w) (envOfC qg sg s.heap.objs.size g cdg :: X.stack) X.prog X.w HZ s1 Q E) s1 := by
    refine PySem.W.kla_callFunE hr.depth of1 rfl L.co L.gen rfl ⟨c', oc, vs, t, rfl, hoc, hdc, hvc⟩ ?_
    rw [hbind]
    refine wpAny_pure (wpAny_newFunctionEnv (fun y hy => (L.own y hy).2) (fun y hy => absurd hy (by simp)) (fun h₁ hns hsb => ⟨I1.nolimit.fresh _ hsb, ?_⟩) L.kind)
    show codeAny _ _ (.expr body (LamX.lamEnv X scope s1.heap.objs.size f c')) _ _
    have kp : ∀ b o, s1.heap.get? b = some o → h₁.get? b = some o := fun b o e => hsb.extBut b o (Nat.ne_of_lt (Heap.lt_size e)) (Heap.get?_push_of_some _ e)
    have J : Inv (LamX.lamCx X (X.A.deeper (envOfC qg sg s.heap.objs.size g cdg)) (envOfC qg sg s.heap.objs.size g cdg :: X.stack) s1 HZ E scope f c') [] σ HZ { s1 with heap := h₁, toks := s1.toks + ([] : List (Str × Value)).length } :=
      LamX.lam_start2 I L I1.env0 hr.hd un hns kp
    refine PySem.W.kla_codeExpr (wpAny_mono ((hbody _ _ s1 HZ (hr.deeper _) hgd).run [] _ _ HZ Q J ht) (fun v s' hq => ?_) fun e s' hq => hq)
    obtain ⟨w', H', J', rv, q⟩ := hq
    exact ⟨w', H', J'.os, J'.bare, J'.base, J'.hok, rv, q⟩
  refine wpAny_call (codeAny_mono rc fun r s' hq => ?_)
  cases r with
  | error e => exact tk e s' (XE.of_call I1 hW hq)
  | ok fl =>
    cases fl with
    | ret u => exact I1.after hq
    | next => exact False.elim hq
    | brk => exact False.elim hq
    | cont => exact False.elim hq
/-- the names that the lambda may read: the shared ones -/
def shOnly (s : PSt) : PSt := s.map shP
theorem shOnly_some {s : PSt} {i : Nat} {l : LV} (h : (shOnly s)[i]? = some (some l)) : ∃ p, l = .sh p ∧ s[i]? = some (some (.sh p)) := by
  unfold shOnly at h
  rw [List.getElem?_map] at h
  obtain ⟨m, em, h⟩ := Option.map_eq_some_iff.mp h
  cases m with
  | none => cases h
  | some m =>
    cases m with
    | sh p => cases h; exact ⟨p, rfl, em⟩
    | ow p => cases h
    | po p => cases h
theorem RelSt.shOnly {K : PySem.W.Frag} {B : Bs} {s : PSt} {σ : St} {H : Hp} (R : RelSt K B s σ H) : RelSt K ⟨H, none, B.C, B.T⟩ (VL.shOnly s) σ H where
  len := by unfold VL.shOnly; rw [List.length_map]; exact R.len
  same := fun a o e _ _ => e
  pt := fun a z => nomatch z
  at_ := fun i l h => by
    obtain ⟨p, rfl, h'⟩ := shOnly_some h
    exact R.at_ i _ h'
  sep := fun i j p q a h => by obtain ⟨_, z, _⟩ := shOnly_some h; cases z
  sepP := fun i j p q h => by obtain ⟨_, z, _⟩ := shOnly_some h; cases z
  tb := R.tb
  tbs := fun a ps e => ⟨ps, e⟩
/-- the error classes that are heard -/
structure ErrsOk (K : PySem.W.Frag) (mg : Str → Option Value) (CT : Addr) (errs : List Str) : Prop where
  ok : ∀ c ∈ errs, ∃ C0 : Addr, mg c = some (.ref C0) ∧ PySem.W.exmOne K (.ref C0) (.ref CT) = some true
def hRes (errs : List Str) (s : PSt) (r : Res (PV × PSt)) : Res (PV × PSt) := match r with
  | .ok (q, _) => .ok (.tup [.non, q], s)
  | .exc c q => if errs.contains c then .ok (.tup [.err c q, .non], s) else .bad
  | .bad => .bad
def dHeard (errs : List Str) (de : M PV) (lm : Nat → M PV) : M PV := fun s => (de s).bind fun (p, s) => match p with
  | .clo n => hRes errs s (lm n (VL.shOnly s))
  | _ => .bad
section
variable {X : Cx} {W : WX} {B : Bs} {k j : Nat} {pos : Pos}
theorem err_kept {K : PySem.W.Frag} {C : CloT} {H : Hp} {a dx C0 : Addr} {o : Obj} {v : V} {c : Str} {p : PV} {s : Shared} {X : Cx} {pins : List (Addr × Obj)} {σ : St} (na : H a = none) (hz : Zc (.ref C0) (some dx) o) (hd : ∃ vs, o.data = .fields vs) (hm : C.mg c = some (.ref C0))
    (hx : ∃ o', H dx = some (.frz o' (.xd [("value", v)]))) (r : Rep K C H p v) : Rep K C (upd H a (.frz o (.own 0))) (.err c p) (.ref a) := by
  obtain ⟨o', hx⟩ := hx
  have gr : Grow H (upd H a (.frz o (.own 0))) := Grow.new na
  simp only [Rep]
  exact ⟨a, dx, C0, o, o', _, v, rfl, hm, upd_same, hz.1, hz.2, hd, gr _ _ hx, Rep.ext gr.ext _ _ r⟩
end
end VL
/-! VL19: _law_heard. -/
namespace VL
set_option autoImplicit false
open PySem PySem.Spec PyProof.Rows L2
/-- the places in its text -/
structure HPos where
  (a1 a2 a3 a4 a5 a6 a7 b1 b2 b3 b4 c1 c2 c3 c4 c5 c6 d1 d2 d3 d4 : Pos)
  (kt k2 j1 j2 k3 : Nat)
abbrev HPos.s1 (p : HPos) : Stmt := .Assign [.Tuple [.Name "caught" p.a1, .Name "back" p.a2] p.kt p.a3] (.Tuple [.Constant .none p.j1 p.a4, .Constant .none p.j2 p.a5] p.k2 p.a6) p.a7
abbrev HPos.call (p : HPos) : Expr := .Call (.Name "call" p.b2) [] [] p.b3
abbrev HPos.s2b (p : HPos) : Stmt := .Assign [.Name "back" p.b1] p.call p.b4
abbrev HPos.s2 (p : HPos) : Stmt := .Try [p.s2b] [.ExceptHandler (some (.Name "TapeError" p.c1)) (some "error") [.Assign [.Name "caught" p.c2] (.Name "error" p.c3) p.c4] p.c5] [] [] p.c6
abbrev HPos.s3 (p : HPos) : Stmt := .Return (some (.Tuple [.Name "caught" p.d1, .Name "back" p.d2] p.k3 p.d3)) p.d4
abbrev HPos.body (p : HPos) : List Stmt := [p.s1, p.s2, p.s3]
abbrev hN : List Str := ["call", "caught", "back", "error"]
/-- what its text is to keep in its own frame -/
structure HText (p : HPos) (sg : Scope) : Prop where
  w1 : ∀ (q : Str) (n : Nat) (f : Addr) (cd : Value), swappedStores [.Tuple [.Name "caught" p.a1, .Name "back" p.a2] p.kt p.a3] (.Tuple [.Constant .none p.j1 p.a4, .Constant .none p.j2 p.a5] p.k2 p.a6) (envOfC q sg n f cd) = pure none
  w2 : ∀ (q : Str) (n : Nat) (f : Addr) (cd : Value), swapsWithSole [.Tuple [.Name "caught" p.a1, .Name "back" p.a2] p.kt p.a3] (.Tuple [.Constant .none p.j1 p.a4, .Constant .none p.j2 p.a5] p.k2 p.a6) p.a7.line (envOfC q sg n f cd) = pure false
  w3 : ∀ (q : Str) (n : Nat) (f : Addr) (cd : Value), swapsWith p.call (some (.Name "back" p.b1)) p.b4.line (envOfC q sg n f cd) = pure false
  w4 : ∀ (q : Str) (n : Nat) (f : Addr) (cd : Value), swapsWith (.Name "error" p.c3) (some (.Name "caught" p.c2)) p.c4.line (envOfC q sg n f cd) = pure false
  l0 : sg.names.lookup ("call" : Str) = some NameKind.local
  l1 : sg.names.lookup ("caught" : Str) = some NameKind.local
  l2 : sg.names.lookup ("back" : Str) = some NameKind.local
  l3 : sg.names.lookup ("error" : Str) = some NameKind.local
  l4 : sg.names.lookup ("TapeError" : Str) = some NameKind.globalImplicit
  sc : FnScope hN ["call"] sg
structure Heard (X : Cx) (errs : List Str) : Prop where
  gl : Gl X "_law_heard"
  ex : ∃ (g CT : Addr) (pg : Arguments) (p : HPos) (sg : Scope) (dV kV doc pm cdv ct oc : Value) (an od : Option Addr) (osl : Array (Option Value)),
    X.mg "_law_heard" = some (.ref g) ∧ PySem.W.keepIn X.K (.ref g) = true ∧ X.K.lookup g = some ⟨oc, od, .func (PySem.W.fnOf "_law_heard" "_law_heard" pg p.body sg dV kV doc pm an cdv ct), osl⟩ ∧ PySem.W.codeIn X.K cdv "_law_heard" = true ∧
    Binds X.K (PySem.W.fnOf "_law_heard" "_law_heard" pg p.body sg dV kV doc pm an cdv ct) ["call"] [] ∧ HText p sg ∧ X.mg "TapeError" = some (.ref CT) ∧ ErrsOk X.K X.mg CT errs
/-- the frame's lambdas: their meanings -/
structure Lams (X : Cx) (k : Nat) (C : CloT) (T : List (Addr × Str)) (L : List (Arguments × Expr × Scope)) (lm : Nat → M PV) : Prop where
  eq : C = cloC X L
  ok : ∀ (n : Nat) (l : Arguments × Expr × Scope), L[n]? = some l → (∀ s, lm n s = .bad) ∨ (LamX.LamS X.env.scope l.2.2 ∧ (∀ (q : Str) (cl : List (Str × Addr)) (pm cv ctv : Value), bindArgs (PySem.W.kla_fn "<lambda>" q l.1 l.2.1 l.2.2 cl pm cv ctv) ⟨[], []⟩ = pure []) ∧
    ∀ (A : Around) (outer : List Env) (s : Shared) (H : Hp) (E : XK) (f c' : Addr) (B' : Bs), B'.C = C → B'.T = T → VX (LamX.lamCx X A outer s H E l.2.2 f c') k (fun cls d _ H' => E cls d H') → PX (LamX.lamCx X A outer s H E l.2.2 f c') (fun cls d _ H' => E cls d H') B' l.2.1 (lm n))
/-- how it ends -/
def HEnd (X : Cx) (C : CloT) (T : List (Addr × Str)) (errs : List Str) (r : Res (PV × PSt)) (H1 : Hp) (v : V) (H2 : Hp) : Prop :=
  Kp none H1 H2 ∧ LamX.Tabs T H2 ∧ ∃ ta, v = .ref ta ∧
    ((∃ q s2 x, r = .ok (q, s2) ∧ H2 ta = some (.tup [.non, x]) ∧ Rep X.K C H2 q x) ∨
     (∃ c q a dx C0 o y, r = .exc c q ∧ errs.contains c = true ∧ H2 ta = some (.tup [.ref a, .non]) ∧ H2 a = some (.frz o (.own 0)) ∧ Zc (.ref C0) (some dx) o ∧ (∃ vs, o.data = .fields vs) ∧ X.mg c = some (.ref C0) ∧ H1 dx = none ∧ H2 dx = some (.xd [("value", y)]) ∧ Rep X.K C H2 q y))
section
variable {X : Cx} {W : WX} {B : Bs} {k j : Nat} {pos : Pos}
theorem start_h {f : Addr} : L2.start hN [V.ref f] = [some (.ref f), none, none, none] := rfl
theorem heard_run {pins : List (Addr × Obj)} {σ : L2.St} {H : Hp} {s : Shared} {errs : List Str} {L : List (Arguments × Expr × Scope)} {lm : Nat → M PV} {n : Nat} {f : Addr} {sp : PSt}
    {p : HPos} {sg : Scope} {g CT : Addr} {cdv : Value} {Q : VK} (I : Inv X pins σ H s) (R : RelSt X.K B sp σ H) (v : VX X j W) (hj : k + 3 ≤ j) (LL : Lams X k B.C B.T L lm) (ht : HText p sg) (hCT : X.mg "TapeError" = some (.ref CT)) (eo : ErrsOk X.K X.mg CT errs)
    (rc : Rep X.K B.C H (.clo n) (.ref f)) (hr : Room (j - 1) (X.A.deeper (envOfC "_law_heard" sg s.heap.objs.size g cdv)))
    (hq : ∀ v H2, HEnd X B.C B.T errs (lm n (VL.shOnly sp)) H v H2 → Q v H2) (hok : ∀ c q, lm n (VL.shOnly sp) = .exc c q → errs.contains c = true) (hnb : lm n (VL.shOnly sp) ≠ .bad) :
    ∃ t, PSs (cxOf C8.CX0 X.prog X.w X.K X.mg X.base hN "_law_heard" sg g cdv X.A X.stack s H C8.E0) p.body t ∧ t { nx := fun _ H' => Q .non H', rt := Q } (L2.start hN [V.ref f]) H := by
  simp only [Rep] at rc
  obtain ⟨f', o, u, c', q, e1, hf, hc, hco⟩ := rc
  cases e1
  rw [LL.eq] at hc
  obtain ⟨params, body, scope, pm, ctv, hL, rfl, rfl⟩ := hc
  obtain ⟨ls, hbind, hbody⟩ := (LL.ok n (params, body, scope) hL).resolve_left fun z => hnb (z _)
  generalize hZ : cxOf C8.CX0 X.prog X.w X.K X.mg X.base hN "_law_heard" sg g cdv X.A X.stack s H C8.E0 = Z
  have nd : hN.Nodup := ht.sc.nd
  have zN : Z.N = hN := by subst hZ; rfl
  have zS : Z.env.scope = sg := by subst hZ; rfl
  have zK : Z.K = X.K := by subst hZ; rfl
  have v0 : Vis Z.env.scope "call" := by rw [zS]; exact .inl ht.l0
  have v1 : Vis Z.env.scope "caught" := by rw [zS]; exact .inl ht.l1
  have v2 : Vis Z.env.scope "back" := by rw [zS]; exact .inl ht.l2
  have v3 : Vis Z.env.scope "error" := by rw [zS]; exact .inl ht.l3
  -- the statements
  have S1 : PS Z p.s1 (tAsg (tTup (tCons (tC .non) (tCons (tC .non) tNil))) (gTup Z.K 2 (gCons (gName 1) (gCons (gName 2) gNil)))) := by
    subst hZ
    exact ps_asg (pe_tup (pa_cons pe_non (pa_cons pe_non pa_nil))) (pg_tup rfl (pgs_cons (pg_name nd rfl (.inl ht.l1) (.inr ht.l1)) (pgs_cons (pg_name nd rfl (.inl ht.l2) (.inr ht.l2)) pgs_nil))) (ht.w2 _ _ _ _) (ht.w1 _ _ _ _)
  have S3 : PS Z p.s3 (tRet (tTup (tCons (tVar 1) (tCons (tVar 2) tNil)))) := by
    subst hZ
    exact ps_ret (pe_tup (pa_cons (pe_var rfl v1) (pa_cons (pe_var rfl v2) pa_nil)))
  let tl : WX → TS := fun W' D σZ HZ => ∃ E : XK, (∀ cls d H', E cls d H' → W' cls d σZ H') ∧ σZ[0]? = some (some (.ref f)) ∧ HZ c' = some (LamX.CodeO c' (X.env.qual ++ "<lambda>")) ∧
    tR X (fun cls d _ H' => E cls d H') ⟨H, none, B.C, B.T⟩ (rV X ⟨H, none, B.C, B.T⟩) (lm n) σ HZ (fun x H1 => D.nx (σZ.set 2 (some x)) H1)
  have S2 : PS Z p.s2 (fun D σ H => tl (wKeep Z.K (.ref CT) 3 1 D) D σ H) := by
    subst hZ
    refine ps_try_keep (x := "TapeError") (c := .ref CT) rfl rfl rfl nd (i := 3) (j := 1) rfl ht.l3 rfl ht.l1 ⟨ht.l4, by decide, .inl hCT⟩ (ht.w4 _ _ _ _) (by decide) (by decide) fun W' pn xe tk _ => ?_
    refine pss_one ⟨fun pins' s' σZ HZ D IZ hh => ?_⟩
    obtain ⟨E, hW, h1, h2, h3⟩ := hh
    have act := pe_act2 (p1 := p.b2) (p2 := p.b3) (Ng := hN) (i := 0) (a := "call") (k := k) (tb := tR X (fun cls d _ H' => E cls d H') ⟨H, none, B.C, B.T⟩ (rV X ⟨H, none, B.C, B.T⟩) (lm n)) I ls hf (hbind _ _ _ _ _) tk (hr.mono (by omega)) v.grd
      (fun A outer s1 H1 hr2 hg2 => hbody A outer s1 H1 E f c' ⟨H, none, B.C, B.T⟩ rfl rfl ⟨hr2, hg2, rfl, takes_of rfl rfl rfl rfl⟩) rfl (.inl ht.l0) (by decide) (by decide)
    exact (ps_set (pos := p.b4) (pos' := p.b1) (i := 2) nd rfl (.inl ht.l2) act (ht.w3 _ _ _ _) (.inr ht.l2)).run pins' s' σZ HZ D IZ ⟨h1, h2, hW, h3⟩
  refine ⟨_, pss_cons S1 (pss_cons S2 (pss_one S3)), ?_⟩
  refine ⟨(show 2 ≤ sizeLine by decide), fun p0 hp0 => ⟨p0, [.non, .non], rfl, SqT.of upd_same, rfl, .non, [.non], rfl, .non, [], rfl, rfl, ?_⟩⟩
  have g0 : Grow H (upd H p0 (.tup [.non, .non])) := Grow.new hp0
  have s0 : ((L2.start hN [V.ref f]).set 1 (some V.non)).set 2 (some V.non) = [some (.ref f), some .non, some .non, none] := rfl
  rw [s0]
  -- the lambda's own end
  generalize hres : lm n (VL.shOnly sp) = res at hq hok hnb
  refine ⟨fun cls dx H' => ∃ c q y d, dx = some d ∧ res = .exc c q ∧ X.mg c = some cls ∧ H' d = some (.xd [("value", y)]) ∧ Rep X.K B.C H' q y ∧ H d = none ∧ Kp none H H' ∧ LamX.Tabs B.T H', ?_, rfl, g0 _ _ hco, VL.shOnly sp, R.shOnly.grow g0.ext g0, ?_⟩
  · rintro cls dx H' ⟨c, q, y, d, rfl, er, hm, hx, ry, hd, kp, tb⟩
    have hcc := hok c q er
    obtain ⟨C0, hm0, hex⟩ := eo.ok c (by simpa using hcc)
    rw [hm] at hm0
    cases hm0
    refine ⟨by rw [zK]; exact hex, fun a o na hz hdat => ?_⟩
    have gr : Grow H' (upd H' a (.frz o (.own 0))) := Grow.new na
    refine ⟨.ref a, rfl, .non, rfl, (show 2 ≤ sizeLine by decide), fun ta hta => ?_⟩
    have gr2 : Grow (upd H' a (.frz o (.own 0))) (upd (upd H' a (.frz o (.own 0))) ta (.tup [.ref a, .non])) := Grow.new hta
    have g : Grow H' (upd (upd H' a (.frz o (.own 0))) ta (.tup [.ref a, .non])) := fun b u e => gr2 b u (gr b u e)
    refine hq _ _ ⟨kp.trans (Kp.of g), tb.ext g, ta, rfl, .inr ⟨c, q, a, d, C0, o, y, er, hcc, upd_same, gr2 _ _ upd_same, hz, hdat, hm, hd, g _ _ hx, Rep.ext g.ext _ _ ry⟩⟩
  · rw [hres]
    cases res with
    | bad => exact absurd rfl hnb
    | exc c q => exact fun cls dx y σ' H' hm hx ry nd' kp tb => ⟨c, q, y, dx, rfl, rfl, hm, hx, ry, nd', kp, tb⟩
    | ok r =>
      obtain ⟨q, s2⟩ := r
      intro x H1 R1 x1 rx
      have kp : Kp none H H1 := R1.kp
      refine ⟨.non, rfl, x, rfl, (show 2 ≤ sizeLine by decide), fun ta hta => ?_⟩
      have gr : Grow H1 (upd H1 ta (.tup [.non, x])) := Grow.new hta
      refine hq _ _ ⟨kp.trans (Kp.of gr), R1.tb.ext gr, ta, rfl, .inl ⟨q, s2, x, rfl, upd_same, Rep.ext gr.ext _ _ rx⟩⟩
theorem wr_xd {fs : List (Str × V)} : Wr (.xd fs) := ⟨(fun _ z => nomatch z), (fun _ _ z => nomatch z), (fun _ z => nomatch z), (fun _ z => nomatch z)⟩
theorem heard_end {pins : List (Addr × Obj)} {σ : L2.St} {H1 : Hp} {s2 : Shared} {errs : List Str} {r : Res (PV × PSt)} {s1 : PSt} {u : Value} {Q : VK} (hm : B.C.mg = X.mg) (R1 : RelSt X.K B s1 σ H1)
    (h : EP X pins σ (fun v H2 => HEnd X B.C B.T errs r H1 v H2) u s2)
    (q : tRa X W B (rV X B) (hRes errs s1 r) σ H1 Q) : EP X pins σ Q u s2 := by
  obtain ⟨v, H2, I2, rv, kp, tb, ta, ev, h⟩ := h
  subst ev
  rcases h with ⟨p, sp, x, er, ht, rx⟩ | ⟨c, p, a, dx, C0, o, y, er, hc, ht, ha, hz, hd, hmc, n1, hx, ry⟩
  · subst er
    exact ⟨.ref ta, H2, I2, rv, q _ H2 (R1.growN kp tb) kp.ext0 (rep_tup.mpr ⟨ta, _, rfl, ht, .cons (by simp only [Rep]) (.cons rx .nil)⟩)⟩
  · subst er
    simp only [hRes, hc, if_true] at q
    obtain ⟨o', _, I3⟩ := freeze I2 hx wr_xd.tup wr_xd.frz wr_xd.tbl (fun _ z => nomatch z)
    have x3 : Ext H2 (upd H2 dx (.frz o' (.xd [("value", y)]))) := Ext.upd hx wr_xd
    have tb3 := tabs_upd (o := .frz o' (.xd [("value", y)])) tb hx wr_xd
    have kp3 : Kp none H1 (upd H2 dx (.frz o' (.xd [("value", y)]))) := ⟨fun b w e n t => by
        rw [upd_ne (ne_of_none e n1)]
        exact kp.keep b w e n t, fun b ps e => by
        rw [upd_ne (ne_of_none e n1)]
        exact kp.tbs b ps e⟩
    refine ⟨.ref ta, _, I3, rv, q _ _ (R1.growN kp3 tb3) kp3.ext0 (rep_tup.mpr ⟨ta, _, rfl, (x3.tup _ _ ht), .cons ?_ (.cons (by simp only [Rep]) .nil)⟩)⟩
    simp only [Rep]
    exact ⟨a, dx, C0, o, o', _, y, rfl, by rw [hm]; exact hmc, x3.frz _ _ _ ha, hz.1, hz.2, hd, upd_same, Rep.ext x3 _ _ ry⟩
theorem px_heard {e : Expr} {de : M PV} {errs : List Str} {L : List (Arguments × Expr × Scope)} {lm : Nat → M PV} {p : Pos} (HD : Heard X errs) (v : VX X j W) (hj : k + 3 ≤ j) (LL : Lams X k B.C B.T L lm) (he : PX X W B e de)
    (hs : starEach [e] X.env = (false, eval e X.env) :: starEach [] X.env := by rfl) (hpl : (backTo pos (starEach [] X.env)).any (·.1) = false := by rfl) : PX X W B (.Call (.Name "_law_heard" p) [e] [] pos) (dHeard errs de lm) := by
  obtain ⟨g, CT, pg, hp, sg, dV, kV, doc, pm, cdv, ct, oc, an, od, osl, hm, hk, lk, hcd, hb, ht, hCT, eo⟩ := HD.ex
  have hmg : B.C.mg = X.mg := by rw [LL.eq]; rfl
  refine ⟨fun pins s σ H Q I h => ?_⟩
  obtain ⟨sp, R, h⟩ := h
  refine wpAny_Call_Name_kw (ld_glob I HD.gl hm ?_ (by decide))
  refine PySem.W.callWith_K (h₀ := X.base) I.ok.mod.kin hk (thn ((pa_cons he pa_nil hs).run pos pins s σ H (fun vs H1 => ∃ f n s1, vs = [.ref f] ∧ RelSt X.K B s1 σ H1 ∧ Rep X.K B.C H1 (.clo n) (.ref f) ∧ tRa X W B (rV X B) (hRes errs s1 (lm n (VL.shOnly s1))) σ H1 Q) I ⟨sp, R, tRa.bind (rep' := rV X B) h fun p s1 x H1 R1 x1 r1 q => ?_⟩)
    fun us s1 ⟨vs, H1, I1, r, f, n, sq, ev, R1, rc, q⟩ => ⟨I1.kIn, ?_⟩) hs hpl
  · cases p with
    | clo n =>
      obtain ⟨a, _, _, _, _, ea, _⟩ := (show ∃ a o u c q, x = .ref a ∧ _ from by have r1 := r1; simp only [Rep] at r1; exact r1)
      subst ea
      exact ⟨a, n, s1, rfl, R1, r1, q⟩
    | _ => exact (show False from q).elim
  · subst ev
    obtain ⟨u, eu, ru⟩ := vals1 r
    subst eu
    cases ru
    have rcx : codeAny (model X.prog X.w) X.A (.call (.ref g) ⟨[.ref f], []⟩) (CR C8.CX0 X.stack X.prog X.w H1 s1 (fun v H2 => HEnd X B.C B.T errs (lm n (VL.shOnly sq)) H1 v H2) C8.E0) s1 := by
      refine LamX.run_ofS (k := j - 1) (N := hN) (ps := ["call"]) (us := [.ref f]) (vs := [.ref f]) lk hcd ht.sc (by have := v.room; rw [show j - 1 + 1 = j by omega]; exact this) I1.env0 ?_ (.cons rfl .nil) rfl fun hr' => ?_
      · have := hb s1 [.ref f] I1.kIn rfl
        exact this
      · refine heard_run I1 R1 v hj LL ht hCT eo rc hr' (fun _ _ z => z) (fun c p er => ?_) fun er => ?_
        · rw [er] at q
          by_cases hc : errs.contains c = true
          · exact hc
          · unfold hRes at q; dsimp only at q
            rw [if_neg hc] at q
            exact (show False from q).elim
        · rw [er] at q
          exact (show False from q).elim
    refine wpAny_call (codeAny_mono rcx fun r s' hq => ?_)
    cases r with
    | error e => exact (show False from hq).elim
    | ok fl =>
      cases fl with
      | ret u => exact heard_end hmg R1 (I1.after hq) q
      | next => exact False.elim hq
      | brk => exact False.elim hq
      | cont => exact False.elim hq
end
end VL
/-! VL20: isinstance; the value of an error. -/
namespace PySem.W
open PySem PySem.Spec PySem.Calls PyProof.Rows
section
variable {prog : Program} {w : World} {A : Around} {E : Value → Shared → Prop} {s : Shared} {K : Frag} {x D : Addr} {ox : Obj} {od : Option Obj}
theorem vl_find {C : Addr} {name : Str} {a g : Value} (hc : (clsIn K C).isSome = true) (ha : findIn K (.ref C) name = some (some a)) (hg : specialIn K a "__get__" = some (some g)) (ht : takesIn K a = some true) : findObj K C od name = some (.bind g a) := by
  obtain ⟨cd, hc⟩ := Option.isSome_iff_exists.mp hc
  unfold findObj
  rw [hc, Option.bind_some, ha, Option.bind_some]
  simp [hg, ht]
theorem vl_class {Q : Option Value → Shared → Prop} (C : L2.ExcC K D) (X : K.In s.heap) (I : InstAt s.heap x ox D od) (h : Q (some (.ref D)) { s with toks := s.toks + 1 }) : wpAny (model prog w) A (getAttr? (.ref x) "__class__") Q E s := by
  have hf : findObj K D od "__class__" = some (.bind (.builtin "getset_descriptor.__get__") (.builtin "object.__class__")) := vl_find (by obtain ⟨cd, hc, _⟩ := any_some C.hd; rw [hc]; rfl) C.ha C.hn C.ht
  obtain ⟨hp, g, d, t, os⟩ := s
  have L0 := I.type (M := model prog w)
  have L1 := looks_findIn (M := model prog w) X C.hg
  have L2 := looks_findIn (M := model prog w) X C.hk
  have L3 := looks_find (M := model prog w) X I hf
  have sub : Looks (model prog w) hp (isInstance (.ref x) (.type "BaseException")) true := L0.andThen (looks_subIn X C.hs)
  have hx0 : (false && onTheHeap (Value.builtin "BaseException.__getattribute__")) = false := rfl
  have hx2 : (Value.builtin "BaseException.__getattribute__" == Value.builtin "object.__getattribute__") = false := by decide +kernel
  have hx1 : (onTheHeap (Value.ref D) && Value.builtin "BaseException.__getattribute__" == Value.builtin "object.__getattribute__") = false := by rw [hx2]; rfl
  unfold getAttr? getAttrBy? getAttrBy
  refine wpAny_bind (wpAny_mkText (wpAny_bind (wpAny_attempt (wpAny_holding (wpAny_bind (L0.at (wpAny_bind (L1.at ?_))))))))
  show wpAny _ _ (if (onTheHeap (Value.ref D) && Value.builtin "BaseException.__getattribute__" == Value.builtin "object.__getattribute__") = true then _ else _) _ _ _
  rw [hx1, if_neg Bool.false_ne_true]
  unfold getAttrByItsOwn hookBefore
  refine wpAny_bind ?_
  rw [if_pos (show onTheHeap (Value.ref D) = true from rfl)]
  refine L2.at ?_
  refine wpAny_bind (wpAny_attempt (wpAny_holding ?_))
  unfold callGetattribute
  rw [hx0, if_neg Bool.false_ne_true]
  unfold boundAndCalled
  rw [PySem.F.excAttr_ValueError.ga.bind (.ref x)]
  refine wpAny_bind (wpAny_pure ?_)
  show wpAny _ _ (call (.builtin "BaseException.__getattribute__") [.ref x, .str "__class__" t]) _ _ _
  refine wpAny_call (codeAny_call_builtin PySem.F.excAttr_ValueError.ga.plain PySem.F.entry_bexc_ga ?_)
  refine @check_slot (model prog w) _ _ ⟨hp, g, d, t + 1, os⟩ "BaseException.__getattribute__" "BaseException" "__getattribute__" (.ref x) [.str "__class__" t] [] _ (by decide +kernel) (by decide +kernel) sub (PySem.F.args_bexc_ga (.ref x) (.str "__class__" t)) ?_
  unfold Builtin.«object.__getattribute__»
  refine wpAny_bind (wpAny_of_eq (a := ((Value.ref x : Value), [Value.str "__class__" t])) (by first | rfl | (simp only [slotArgs]; rfl)) ?_)
  refine wpAny_bind (wpAny_pure (wpAny_bind (L0.at (wpAny_bind (L3.at ?_)))))
  show wpAny _ _ (holding [Value.builtin "object.__class__"] (call (.builtin "getset_descriptor.__get__") [.builtin "object.__class__", .ref x, .ref D]) >>= ret) _ _ _
  refine wpAny_bind (wpAny_holding (wpAny_call (class_get (s := ⟨hp, g, d, t + 1, os⟩) (ox := ox) (od := od) X I C.hm ?_)))
  refine wpAny_pure ?_
  show wpAny _ _ (handedOut (.ref D)) _ _ _
  rw [handedOut_of (v := .ref D) rfl]
  first
    | exact wpAny_pure (wpAny_pure h)
    | exact wpAny_pure h
    | exact wpAny_pure (wpAny_bind (wpAny_pure (wpAny_pure h)))
theorem vl_kitx (C : L2.ExcC K D) : KitX K (.ref x) (.ref D) (fun h => ∃ ox od, InstAt h x ox D od) where
  ty := fun _ _ _ ⟨_, _, I⟩ => I.type
  it := fun _ _ X _ => by
    obtain ⟨cdD, hcD, _⟩ := any_some C.hd
    unfold clsIn at hcD
    split at hcD
    · rename_i c' d' cd' sl' ho
      intro A' Q' E' s' k q
      unfold isType loadHead
      exact wpAny_bind (wpAny_loadPart (k _ _ (X _ _ ho)) (wpAny_pure q))
    · cases hcD
  ne := fun h tp dd its n sl X htp => by
    obtain ⟨cdD, hcD, _⟩ := any_some C.hd
    refine Bool.eq_false_iff.mpr fun q => ?_
    have e : D = tp := Value.ref.inj (beq_iff_eq.mp q)
    subst e
    unfold clsIn at hcD
    split at hcD
    · rename_i c' d' cd' sl' ho
      have z := (X _ _ ho).symm.trans htp
      cases z
    · cases hcD
  ca := fun X ⟨_, _, I⟩ k => vl_class C X I k
end
end PySem.W
namespace VL
set_option autoImplicit false
open PySem PySem.Spec PyProof.Rows L2
inductive Ty where
  | int | bool | str | tuple | list | dict
def Ty.nm : Ty → String
  | .int => "int" | .bool => "bool" | .str => "str" | .tuple => "tuple" | .list => "list" | .dict => "dict"
def tyN : PV → Option String
  | .non => some "NoneType" | .bl _ => some "bool" | .int _ => some "int" | .str _ => some "str" | .tup _ => some "tuple" | .lst _ => some "list" | .dct _ _ => some "dict"
  | _ => none
def isTy : Ty → PV → Option Bool
  | .int, .int _ => some true | .int, .bl _ => some true
  | .bool, .bl _ => some true | .str, .str _ => some true | .tuple, .tup _ => some true | .list, .lst _ => some true | .dict, .dct _ _ => some true
  | _, .clo _ => none | _, .fn _ => none | _, .err _ _ => none | _, .dtt _ _ => none | _, .tix _ => none
  | _, _ => some false
theorem isTy_kit : ∀ (t : Ty) (p : PV) (b : Bool), isTy t p = some b → ∃ a, tyN p = some a ∧ kitB a t.nm = some b := by
  intro t p b h
  cases p with
  | clo _ => cases t <;> cases h
  | fn _ => cases t <;> cases h
  | err _ _ => cases t <;> cases h
  | dtt _ _ => cases t <;> cases h
  | tix _ => cases t <;> cases h
  | non => refine ⟨_, rfl, ?_⟩; cases t <;> (cases h; decide +kernel)
  | bl _ => refine ⟨_, rfl, ?_⟩; cases t <;> (cases h; decide +kernel)
  | int _ => refine ⟨_, rfl, ?_⟩; cases t <;> (cases h; decide +kernel)
  | str _ => refine ⟨_, rfl, ?_⟩; cases t <;> (cases h; decide +kernel)
  | tup _ => refine ⟨_, rfl, ?_⟩; cases t <;> (cases h; decide +kernel)
  | lst _ => refine ⟨_, rfl, ?_⟩; cases t <;> (cases h; decide +kernel)
  | dct _ _ => refine ⟨_, rfl, ?_⟩; cases t <;> (cases h; decide +kernel)
theorem rep_tyx {K : PySem.W.Frag} {C : CloT} {H : Hp} {p : PV} {x : V} {a : String} (r : Rep K C H p x) (e : tyN p = some a) : TyX K H x (.type a) := by
  cases p with
  | non => cases e; cases rep_non.mp r; exact .base .non
  | bl b => cases e; cases rep_bl.mp r; exact .base (.bl _)
  | int b => cases e; cases rep_int.mp r; exact .base (.int _)
  | str b => cases e; cases rep_str.mp r; exact .base (.str _)
  | tup ps =>
    cases e
    obtain ⟨q, xs, rfl, st, _⟩ := rep_tupS r
    rcases st with (h | ⟨o, h⟩) | ⟨o, its, n, h, hc, _⟩
    · exact .base (.tup h)
    · exact .fTuple h
    · exact .kTuple h hc
  | lst ps =>
    cases e
    obtain ⟨q, xs, rfl, st, _⟩ := rep_lst.mp r
    rcases st with ⟨o, h⟩ | ⟨its, n, h, _⟩
    · exact .base (.frz h)
    · exact .kList h rfl
  | dct ks ps =>
    cases e
    simp only [Rep] at r
    obtain ⟨q, xs, rfl, _, ⟨o, h⟩, _⟩ := r
    exact .fDict h
  | _ => cases e
section
variable {X : Cx} {W : WX} {B : Bs} {pos : Pos} {da : M PV}
def dIsT (t : Ty) (d : M PV) : M PV := fun s => (d s).bind fun (p, s) => (optR (isTy t p)).bind fun b => .ok (.bl b, s)
theorem px_isT {a : Expr} {T : Str} {p tp : Pos} (t : Ty) (hg : Gl X "isinstance") (hm : X.mg "isinstance" = none) (hgT : Gl X T) (hmT : X.mg T = none) (ha : PX X W B a da) (hT : bootBuiltins T = some (.type t.nm)) (hn : T ≠ "__name__" := by decide) (hd : (T == ("__debug__" : Str)) = false := by decide)
    (hs : starEach [a, .Name T tp] X.env = (false, eval a X.env) :: starEach [.Name T tp] X.env := by rfl) (hs2 : starEach [.Name T tp] X.env = (false, eval (.Name T tp) X.env) :: starEach [] X.env := by rfl) (hpl : (backTo pos (starEach [.Name T tp] X.env)).any (·.1) = false := by rfl) :
    PX X W B (.Call (.Name "isinstance" p) [a, .Name T tp] [] pos) (dIsT t da) := by
  refine PE.weak (pe_callB (p := p) (pos := pos) call_isi hg hm (by decide +kernel) (pa_cons ha (pa_cons (pe_bltn (v := .ty t.nm) hgT hmT hT rfl hn hd) pa_nil hs2) hs) (he := hs) (hpl := hpl)) fun σ H Q ⟨s, R, q⟩ => ⟨s, R, tRa.bind (rep' := rV X B) q fun p s1 v H1 R1 x1 r1 q => ?_⟩
  obtain ⟨b, eb, q⟩ := optR_ok q
  obtain ⟨n, en, ek⟩ := isTy_kit t p b eb
  exact ⟨v, .ty t.nm, .type n, .type t.nm, b, rfl, .ty _, rep_tyx r1 en, kit_ty ek, q _ H1 R1 (Ext.refl _) (rep_bl.mpr rfl)⟩
/-- what a frame knows of isinstance(x, c), c an error class of its own -/
structure IsE (X : Cx) (errs : List Str) (c2 : Str) (sub : Str → Bool) : Prop where
  gl : Gl X c2
  dbg : (c2 == ("__debug__" : Str)) = false
  ex : ∃ C2 : Addr, X.mg c2 = some (.ref C2) ∧ PySem.W.kitOne X.K (.type "NoneType") (.ref C2) = some false ∧ ∀ c ∈ errs, ∃ C0 : Addr, X.mg c = some (.ref C0) ∧ ExcC X.K C0 ∧ PySem.W.kitOne X.K (.ref C0) (.ref C2) = some (sub c)
def dIsE (errs : List Str) (sub : Str → Bool) (d : M PV) : M PV := fun s => (d s).bind fun (p, s) => match p with
  | .non => .ok (.bl false, s)
  | .err c _ => if errs.contains c then .ok (.bl (sub c), s) else .bad
  | _ => .bad
def rIsX (X : Cx) (B : Bs) (errs : List Str) (sub : Str → Bool) (c2 : Str) : List V → Hp → VK → Prop := fun xs H Q => ∃ (x : V) (p : PV) (C2 : Addr), xs = [x, .ref C2] ∧ X.mg c2 = some (.ref C2) ∧ Rep X.K B.C H p x ∧ ((p = .non ∧ Q (.bl false) H) ∨ ∃ c v, p = .err c v ∧ c ∈ errs ∧ Q (.bl (sub c)) H)
theorem err_there {C : CloT} {pins : List (Addr × Obj)} {σ : St} {H : Hp} {s : Shared} {c : Str} {v : PV} {x : V} {u : Value} (I : Inv X pins σ H s) (hm : C.mg = X.mg) (r : Rep X.K C H (.err c v) x) (ru : RelV x u) :
    ∃ (a dx C0 : Addr) (ox od : Obj) (y : V), u = .ref a ∧ X.mg c = some (.ref C0) ∧ PySem.W.InstAt s.heap a ox C0 (some od) ∧ (∃ mA, s.heap.Ns1 dx mA ∧ (∀ name, PySem.W.lookIn name od = some (mA name)) ∧ RelO (some y) (mA "value")) ∧ Rep X.K C H v y := by
  simp only [Rep] at r
  obtain ⟨a, d, C0, o, o', w, y, rfl, hc, ha, h1, h2, h3, hd, rv⟩ := r
  cases ru
  obtain ⟨_, mA, hns, hr⟩ := I.hok d _ hd
  obtain ⟨od, ho, hl⟩ := lookIn_ns hns
  obtain ⟨hoa, _⟩ := I.hok a _ ha
  obtain ⟨vs, hv⟩ := h3
  refine ⟨a, d, C0, o, od, y, rfl, by rw [← hm]; exact hc, ⟨hoa, h1, by unfold PySem.W.notCls; rw [hv] <;> rfl, by rw [h2]; exact ho⟩, ⟨mA, hns, hl, ?_⟩, rv⟩
  have := hr "value"
  simpa using this
theorem call_isX {errs : List Str} {sub : Str → Bool} {c2 : Str} (hm : B.C.mg = X.mg) (D : IsE X errs c2 sub) : CallR X (.builtin "isinstance") (rIsX X B errs sub c2) := by
  intro pins s σ H xs us Q I r h
  obtain ⟨x, p, C2, rfl, hc2, rp, h⟩ := h
  obtain ⟨C2', e2, kN, kE⟩ := D.ex
  rw [hc2] at e2
  cases e2
  obtain ⟨u1, u2, rfl, r1, r2⟩ := vals2 r
  cases (show u2 = Value.ref C2 from r2)
  rcases h with ⟨rfl, q⟩ | ⟨c, v, rfl, hc, q⟩
  · cases rep_non.mp rp
    cases (show u1 = Value.none from r1)
    exact PySem.W.kia_one PySem.W.kitx_none I.kIn True.intro kN (fun z => nomatch z) fun tk => ⟨.bl false, H, I.tok tk, rfl, q⟩
  · obtain ⟨a, dx, C0, ox, od, y, rfl, hc0, J, _, _⟩ := err_there I hm rp r1
    obtain ⟨C0', e0, ec, ek⟩ := kE c hc
    rw [hc0] at e0
    cases e0
    exact PySem.W.kia_one (PySem.W.vl_kitx ec) I.kIn ⟨ox, _, J⟩ ek (fun z => nomatch z) fun tk => ⟨.bl (sub c), H, I.tok tk, rfl, q⟩
theorem px_isE {a : Expr} {errs : List Str} {sub : Str → Bool} {c2 : Str} {p tp : Pos} (hmc : B.C.mg = X.mg) (D : IsE X errs c2 sub) (hg : Gl X "isinstance") (hm : X.mg "isinstance" = none) (ha : PX X W B a da)
    (hs : starEach [a, .Name c2 tp] X.env = (false, eval a X.env) :: starEach [.Name c2 tp] X.env := by rfl) (hs2 : starEach [.Name c2 tp] X.env = (false, eval (.Name c2 tp) X.env) :: starEach [] X.env := by rfl) (hpl : (backTo pos (starEach [.Name c2 tp] X.env)).any (·.1) = false := by rfl) :
    PX X W B (.Call (.Name "isinstance" p) [a, .Name c2 tp] [] pos) (dIsE errs sub da) := by
  obtain ⟨C2, hc2, _⟩ := D.ex
  refine PE.weak (pe_callB (p := p) (pos := pos) (call_isX (B := B) hmc D) hg hm (by decide +kernel) (pa_cons ha (pa_cons (pe_glob (v := .ref C2) D.gl hc2 rfl D.dbg) pa_nil hs2) hs) (he := hs) (hpl := hpl)) fun σ H Q ⟨s, R, q⟩ => ⟨s, R, tRa.bind (rep' := rV X B) q fun p s1 v H1 R1 x1 r1 q => ?_⟩
  refine ⟨v, p, C2, rfl, hc2, r1, ?_⟩
  cases p with
  | non => exact .inl ⟨rfl, q _ H1 R1 (Ext.refl _) (rep_bl.mpr rfl)⟩
  | err c w =>
    dsimp only at q
    by_cases hc : errs.contains c = true
    · rw [if_pos hc] at q
      exact .inr ⟨c, w, rfl, by simpa using hc, q _ H1 R1 (Ext.refl _) (rep_bl.mpr rfl)⟩
    · rw [if_neg hc] at q
      exact (show False from q).elim
  | _ => exact (show False from q).elim
/-- what a frame knows of e.value -/
structure ValE (X : Cx) (errs : List Str) : Prop where
  ok : ∀ c ∈ errs, ∃ C0 : Addr, X.mg c = some (.ref C0) ∧ XfC X.K C0 ∧ PySem.W.findIn X.K (.ref C0) "value" = some none
def dVal' (errs : List Str) (d : M PV) : M PV := fun s => (d s).bind fun (p, s) => match p with
  | .err c v => if errs.contains c then .ok (v, s) else .bad
  | _ => .bad
theorem px_value {e : Expr} {errs : List Str} (hmc : B.C.mg = X.mg) (D : ValE X errs) (he : PX X W B e da) (hb : attributeBase e "value" X.env (eval e X.env) = eval e X.env := by rfl) : PX X W B (.Attribute e "value" pos) (dVal' errs da) := by
  refine ⟨fun pins s σ H Q I h => ?_⟩
  obtain ⟨sp, R, h⟩ := h
  refine attr_of hb (thn (he.run pins s σ H (fun v H1 => ∃ c w s1, Rep X.K B.C H1 (.err c w) v ∧ c ∈ errs ∧ RelSt X.K B s1 σ H1 ∧ tRa X W B (rV X B) (.ok (w, s1)) σ H1 Q) I ⟨sp, R, tRa.bind (rep' := rV X B) h fun p s1 v H1 R1 x1 r1 q => ?_⟩) fun u s1 hh => ?_)
  · cases p with
    | err c w =>
      dsimp only at q
      by_cases hc : errs.contains c = true
      · rw [if_pos hc] at q
        exact ⟨c, w, s1, r1, by simpa using hc, R1, q⟩
      · rw [if_neg hc] at q
        exact (show False from q).elim
    | _ => exact (show False from q).elim
  · obtain ⟨v, H1, I1, rx, c, w, s2, r1, hc, R1, q⟩ := hh
    obtain ⟨a, dx, C0, ox, od, y, rfl, hc0, J, ⟨mA, hns, hl, hr⟩, rv⟩ := err_there I1 hmc r1 rx
    obtain ⟨C0', e0, T, hno⟩ := D.ok c hc
    rw [hc0] at e0
    cases e0
    obtain ⟨u, hu, ru⟩ := RelO.some_of (v := y) (o := mA "value") hr
    exact HandSPX.exc_get I1.kIn J T.ga T.gg T.exC (PySem.W.findObj_own T.hdC hno rfl (by rw [hl, hu])) (handed_of ru) ⟨y, H1, I1.tok _, ru, q y H1 R1 (Ext.refl _) rv⟩
end
end VL
set_option Elab.async false
set_option linter.all false
set_option maxRecDepth 100000
set_option maxHeartbeats 2000000
/-! VL21: the end of a law. -/
namespace VL
set_option autoImplicit false
open PySem PySem.Spec PyProof.Rows L2 LamX
theorem cx_none {P : Program} {w : World} {outer : List Env} {H : Hp} {s : Shared} {e : Value} {s' : Shared} (h : L2.CX P w outer H s (fun _ _ _ => False) e s') : False := by
  obtain ⟨_, _, _, _, _, _, _, _, _, _, _, _, z⟩ := h
  exact z
theorem rep_ints {K : PySem.W.Frag} {C : CloT} {H : Hp} : ∀ ns : List Int, RepL K C H (ns.map PV.int) (ns.map V.int)
  | [] => RepL.nil
  | n :: ns => .cons (rep_int.mpr rfl) (rep_ints ns)
def cNo (mg : Str → Option Value) : CloT := ⟨fun _ _ _ _ => False, mg⟩
theorem law_callV {P : Program} {w : World} {K : PySem.W.Frag} {mg mb : Str → Option Value} {k : Nat} {fa a : Addr} {cs : List (Addr × Addr)} {T : List (Addr × Str)} {fd : FuncData} {x : Str} {Fl : VL.Fn} {s₁ : Shared} {vs : List Value} {ns : List Int}
    (KX : K.In s₁.heap) (hns : s₁.heap.Ns mainGlobals mg) (hb : s₁.heap.Ns builtinsNs mb) (hbb : ∀ x : Str, x ≠ "__name__" → mb x = bootBuiltins x) (hlim : s₁.heap.NoLimit) (hg : s₁.gens = #[])
    (hT : ∀ p ∈ cs, s₁.heap.get? p.2 = some { cls := .none, data := .fields #[] }) (nT : ∀ p ∈ cs, K.lookup p.2 = none) (C : ∀ p ∈ cs, PySem.W.CodeHd s₁.heap p.1 p.2) (hTT : ∀ q ∈ T, ∃ p ∈ cs, p.2 = q.1)
    (hbm : ∃ (bm : Addr) (ob : Obj), mg "__builtins__" = some (.ref bm) ∧ bm ≠ builtinsNs ∧ s₁.heap.get? bm = some ob ∧ ob.cls = .type "module" ∧ ob.dict = some builtinsNs ∧ ob.data = .plain)
    (ha : s₁.heap.get? a = some { cls := .type "list", data := .seq vs.toArray }) (hi : IntsAre vs ns) (hl : ns.length ≤ sizeLine) (hr : Room k callerA)
    (F : ∀ base : Heap, K.In base → base.Ns mainGlobals mg → (∀ p ∈ cs, TabB base mg p.1 p.2) → VL.FnV P w K mg base (L2.CX P w) k fa fd [x] (spV mg K (cNo mg) T false 1 Fl)) (hbind : ∀ (s : Shared) (u : Value), BindsTo s fd ⟨[u], []⟩ [(x, u)])
    (hFl : Fl [] [.lst (ns.map PV.int)] = .ok (.sh (.bl true), [])) :
    codeAny (model P w) callerA (.call (.ref fa) ⟨[.ref a], []⟩) (fun r s' => r = .ok (.ret (.bool true)) ∧ OldK s₁.heap s'.heap ∧ s'.os = s₁.os ∧ AllBare s'.gens) s₁ := by
  have rv := vals_ints hi
  have lenV := hi.length
  have isT : ∀ b : Addr, b ∈ cs.map (·.2) → s₁.heap.get? b = some { cls := .none, data := .fields #[] } := fun b hb => by
    obtain ⟨p, hp, e⟩ := List.mem_map.mp hb
    rw [← e]
    exact hT p hp
  have aT : a ∉ cs.map (·.2) := fun z => by
    have q := isT a z
    rw [ha] at q
    have z' : Data.seq vs.toArray _ = Data.fields #[] := congrArg Obj.data (Option.some.inj q)
    cases z'
  have memT : ∀ p ∈ cs, p.2 ∈ cs.map (·.2) := fun p hp => List.mem_map.mpr ⟨p, hp, rfl⟩
  have hsp : ∀ H : Hp, (∀ p ∈ cs, H p.2 = some (.tbl #[])) → FzL K H a (ns.map V.int) → spV mg K (cNo mg) T false 1 Fl [.ref a] H (fun v _ => v = .bl true) fun _ _ _ => False := fun H hH hS => by
    refine ⟨rfl, fun q hq => ?_, [], [.lst (ns.map PV.int)], none, ⟨rfl, rfl, .cons (rep_lst.mpr ⟨a, _, rfl, hS, rep_ints ns⟩) .nil⟩, ?_⟩
    · obtain ⟨p, hp, e⟩ := hTT q hq
      rw [← e]
      exact TabS.nil (hH p hp)
    · rw [hFl]
      exact fun v H' _ _ _ r => (rep_bl (K := K) (C := cNo mg) (H := H')).mp r
  have core : ∀ H : Hp, (∀ p ∈ cs, H p.2 = some (.tbl #[])) → (∀ b, H b = none ∨ b ∈ cs.map (·.2) ∨ ∃ o xs, H b = some (.frz o (.lst xs))) → FzL K H a (ns.map V.int) → HOk P w H s₁.heap → (∀ b, H b ≠ none → b = a ∨ b ∈ cs.map (·.2)) → (H a ≠ none → K.lookup a = none) →
      codeAny (model P w) callerA (.call (.ref fa) ⟨[.ref a], []⟩) (fun r s' => r = .ok (.ret (.bool true)) ∧ OldK s₁.heap s'.heap ∧ s'.os = s₁.os ∧ AllBare s'.gens) s₁ := by
    intro H hH hO hS hok hA hK
    have base_of : ∀ {b : Addr} {o : Obj}, s₁.heap.get? b = some o → H b = none → (hidT s₁.heap H).get? b = some o := fun e n => hidT_get e n
    have noD : ∀ {b : Addr} {o : Obj}, s₁.heap.get? b = some o → (∀ vs n, o.data ≠ .seq vs n) → o.data ≠ .fields #[] → H b = none := fun {b o} e h1 h2 => by
      cases q : H b with
      | none => rfl
      | some u =>
        rcases hA b (by rw [q]; simp) with e' | e'
        · rw [e', ha] at e
          cases e
          exact (h1 _ _ rfl).elim
        · rw [isT b e'] at e
          cases e
          exact (h2 rfl).elim
    have noA : ∀ {b : Addr} {o : Obj} {es : Array DictEntry} {ep : Nat}, s₁.heap.get? b = some o → o.data = .dict es ep → H b = none := fun {b o es ep} e d => by
      refine noD e (fun vs n z => ?_) fun z => ?_
      · rw [d] at z
        cases z
      · rw [d] at z
        cases z
    have nsK : ∀ {b : Addr} {m : Str → Option Value}, s₁.heap.Ns b m → (hidT s₁.heap H).Ns b m := fun {b m} ⟨o, es, ep, e, d, r⟩ => ⟨o, es, ep, base_of e (noA e d), d, r⟩
    have hKb : K.In (hidT s₁.heap H) := fun b o e => base_of (KX b o e) (by
      cases q : H b with
      | none => rfl
      | some u =>
        rcases hA b (by rw [q]; simp) with e' | e'
        · rw [e'] at e q
          rw [hK (by rw [q]; simp)] at e
          cases e
        · obtain ⟨p, hp, ep⟩ := List.mem_map.mp e'
          rw [← ep, nT p hp] at e
          cases e)
    have hM : L2.Mod K mg (hidT s₁.heap H) := ⟨hKb, nsK hns, ⟨mb, nsK hb, hbb⟩, let ⟨mc, h1, h2⟩ := hlim; ⟨mc, nsK h1, h2⟩⟩
    have TB : ∀ p ∈ cs, TabB (hidT s₁.heap H) mg p.1 p.2 := fun p hp => by
      have hTp := hT p hp
      refine ⟨?_, ?_, fun z => ?_⟩
      · obtain ⟨o, us, file, tf, flags, tg, inF, text, tt, e1, r1, r2, r3, r4, r5, r6, r7, r8, hne⟩ := C p hp
        refine ⟨o, us, file, tf, flags, tg, inF, text, tt, base_of e1 (noD e1 (fun vs n z => ?_) fun z => ?_), r1, r2, r3, r4, r5, r6, r7, r8, hne⟩
        · rw [r2] at z
          cases z
        · rw [r2] at z
          cases z
          simp at r3
      · obtain ⟨bm, ob, b1, b2, b3, b4, b5, b6⟩ := hbm
        have nG : bm ≠ mainGlobals := fun q => by
          obtain ⟨o, es, ep, e, hd, _⟩ := hns
          rw [q, e] at b3
          cases b3
          rw [hd] at b6
          cases b6
        have nP : bm ≠ p.2 := fun q => by
          rw [q, hTp] at b3
          cases b3
          cases b6
        refine ⟨bm, ob, b1, b2, nG, nP, base_of b3 (noD b3 (fun vs n z => ?_) fun z => ?_), b4, b5, b6⟩
        · rw [b6] at z
          cases z
        · rw [b6] at z
          cases z
      · obtain ⟨o, es, ep, e, hd, _⟩ := hns
        rw [z, hTp] at e
        cases e
        cases hd
    have e0 : Env0 P w K mg (hidT s₁.heap H) callerA [] s₁ H := ⟨rfl, hM, fun b o e => of_hidT e, Nat.le_of_eq (hidT_size _ _), trivial, fun b hb => absurd (show b ∈ ([] : List Addr) from hb) (by simp), hok, .of_eq hg⟩
    refine codeAny_mono ((F _ hKb (nsK hns) TB).run callerA [] s₁ H ⟨[.ref a], []⟩ [.ref a] [.ref a] (fun v _ => v = .bl true) (fun _ _ _ => False) hr rfl e0 (hbind s₁ (.ref a)) (.cons rfl .nil) (hsp H hH hS)) fun r s' h => ?_
    cases r with
    | error e => exact (cx_none h).elim
    | ok fl =>
      cases fl with
      | next => exact False.elim h
      | brk => exact False.elim h
      | cont => exact False.elim h
      | ret u =>
        obtain ⟨v, H', os, bare, un, hok', r', q⟩ := h
        have q' : v = .bl true := q
        subst q'
        obtain rfl : u = Value.bool true := r'
        have key : ∀ b o, b ∉ cs.map (·.2) → s₁.heap.get? b = some o → s'.heap.get? b = some o := fun b o nb e => by
          cases q : H b with
          | none => exact un.keep b o e q (by intro z; exact absurd (show b ∈ ([] : List Addr) from z) (by simp)) (by simp)
          | some u =>
            rcases hO b with z | z | ⟨ob, xs, z⟩
            · rw [q] at z; cases z
            · exact absurd z nb
            · have z2 := un.frzs b ob _ z
              obtain ⟨e1, _⟩ := hok b _ z
              obtain ⟨e2, _⟩ := hok' b _ z2
              rw [e] at e1; cases e1
              exact e2
        have grown : ∀ p ∈ cs, ∃ more : Array Value, s'.heap.get? p.2 = some { cls := .none, data := .fields more } := fun p hp => by
          obtain ⟨more, z⟩ := un.tbls p.2 #[] (hH p hp)
          exact ⟨_, hok' p.2 _ z⟩
        refine ⟨rfl, ⟨fun b o e => ?_, fun b o e => ?_⟩, os, bare⟩
        · by_cases hb : b ∈ cs.map (·.2)
          · obtain ⟨p, hp, ep⟩ := List.mem_map.mp hb
            obtain ⟨more, hm⟩ := grown p hp
            rw [← ep] at e ⊢
            rw [hT p hp] at e
            cases e
            exact .inr (.inl ⟨((C p hp).tab (hT p hp)).isCodeTable, rfl, #[], more, rfl, by rw [Array.empty_append]; exact hm⟩)
          · exact .inl (key b o hb e)
        · by_cases hb : b ∈ cs.map (·.2)
          · obtain ⟨p, hp, ep⟩ := List.mem_map.mp hb
            obtain ⟨more, hm⟩ := grown p hp
            rw [← ep]
            exact ⟨_, hm⟩
          · exact ⟨o, key b o hb e⟩
  cases hk : K.lookup a with
  | some o =>
    have e := KX a o hk
    rw [ha] at e
    cases e
    refine core (fun b => if b ∈ cs.map (·.2) then some (.tbl #[]) else none) (fun p hp => if_pos (memT p hp)) (fun b => ?_) (.inr ⟨vs.toArray, _, hk, by rw [List.size_toArray, lenV]; exact hl, by simpa using rv⟩) (fun b u z => ?_) (fun b z => ?_) fun z => absurd (show (if a ∈ cs.map (·.2) then some (HO.tbl #[]) else none) = none from if_neg aT) z
    · by_cases hb : b ∈ cs.map (·.2)
      · exact .inr (.inl hb)
      · exact .inl (if_neg hb)
    · by_cases hb : b ∈ cs.map (·.2)
      · have z' := (if_pos hb).symm.trans z
        cases z'
        exact isT b hb
      · have z' := (if_neg hb).symm.trans z
        cases z'
    · by_cases hb : b ∈ cs.map (·.2)
      · exact .inr hb
      · exact absurd (if_neg hb) z
  | none =>
    refine core (fun b => if b = a then some (.frz { cls := .type "list", data := .seq vs.toArray } (.lst (ns.map V.int))) else if b ∈ cs.map (·.2) then some (.tbl #[]) else none) (fun p hp => (if_neg (show ¬ p.2 = a from fun z => aT (by rw [← z]; exact memT p hp))).trans (if_pos (memT p hp))) (fun b => ?_)
      (.inl ⟨{ cls := .type "list", data := .seq vs.toArray }, if_pos rfl⟩) (fun b u z => ?_) (fun b z => ?_) fun _ => hk
    · by_cases hb : b = a
      · exact .inr (.inr ⟨_, _, if_pos hb⟩)
      · by_cases hb2 : b ∈ cs.map (·.2)
        · exact .inr (.inl hb2)
        · exact .inl ((if_neg hb).trans (if_neg hb2))
    · by_cases hb : b = a
      · have z' := (if_pos hb).symm.trans z
        cases z'
        rw [hb]
        exact ⟨ha, by rw [List.length_map]; exact hl, vs, _, rv, ha⟩
      · have z1 := (if_neg hb).symm.trans z
        by_cases hb2 : b ∈ cs.map (·.2)
        · have z' := (if_pos hb2).symm.trans z1
          cases z'
          exact isT b hb2
        · have z' := (if_neg hb2).symm.trans z1
          cases z'
    · by_cases hb : b = a
      · exact .inl hb
      · by_cases hb2 : b ∈ cs.map (·.2)
        · exact .inr hb2
        · exact absurd ((if_neg hb).trans (if_neg hb2)) z
end VL
/-! VL22: from the head's facts to what the frames know. -/
namespace VL
set_option autoImplicit false
open PySem PySem.Spec PyProof.Rows L2
structure HE (fa : List He.Fa) (fn : List He.DefD) (K : PySem.W.Frag) (mg : Str → Option Value) (base : Heap) : Prop where
  c : He.SaysD fa fn K
  kin : K.In base
  ns : base.Ns mainGlobals mg
section
variable {fa : List He.Fa} {fn : List He.DefD} {P : Program} {w : World} {K : PySem.W.Frag} {mg : Str → Option Value} {base : Heap}
theorem HE.glo (E : HE fa fn K mg base) {x : Str} (i : Nat) (h : fa[i]? = some (.glo x)) : mg x = some (.ref (He.ga K x)) := He.glo_ok E.kin E.ns (E.c.fact i h)
theorem HE.free (E : HE fa fn K mg base) {x : Str} (i : Nat) (h : fa[i]? = some (.free x)) : mg x = none := He.free_ok E.kin E.ns (E.c.fact i h)
theorem HE.int (E : HE fa fn K mg base) {x : Str} {n : Int} (i : Nat) (h : fa[i]? = some (.int x n)) : ∃ t, mg x = some (.int n t) := He.int_ok E.kin E.ns (E.c.fact i h)
theorem HE.str (E : HE fa fn K mg base) {x z : Str} (i : Nat) (h : fa[i]? = some (.str x z)) : ∃ t, mg x = some (.str z t) := He.str_ok E.kin E.ns (E.c.fact i h)
/-- a def's place and its promise -/
def OkD (P : Program) (w : World) (K : PySem.W.Frag) (mg : Str → Option Value) (base : Heap) (k : Nat) (x : Str) (io : Bool) (n : Nat) (C : CloT) (T : List (Addr × Str)) (F : Fn) : Prop :=
  ∃ (f : Addr) (fd : FuncData) (ps : List Str), mg x = some (.ref f) ∧ PySem.W.keepIn K (.ref f) = true ∧ Binds K fd ps [] ∧ ps.length = n ∧ FnV P w K mg base (CX P w) k f fd ps (spV mg K C T io ps.length F)
theorem OkD.dn {X : Cx} {k : Nat} {x : Str} {io : Bool} {n : Nat} {C : CloT} {T : List (Addr × Str)} {F : Fn} (o : OkD X.prog X.w X.K X.mg X.base k x io n C T F) (gl : Gl X x) (dbg : (x == ("__debug__" : Str)) = false := by decide) : Def X k x io n C T F := ⟨gl, dbg, o⟩
abbrev CxD (P : Program) (w : World) (K : PySem.W.Frag) (mg : Str → Option Value) (base : Heap) (N : List Str) (qual : Str) (scope : Scope) (f : Addr) (cdv : Value) (A : Around) (outer : List Env) (s : Shared) (H : Hp) (E : XK) : Cx :=
  cxOf (CX P w) P w K mg base N qual scope f cdv A outer s H E
theorem okV {x qual : Str} {params : Arguments} {body : List Stmt} {scope : Scope} {f : Addr} {fd : FuncData} {N ps : List Str} {C : CloT} {T : List (Addr × Str)} {io : Bool} {k n : Nat} {db : M Fl} (F : FunD K x qual params body scope [] [] f fd) (hm : mg x = some (.ref f)) (S : FnScope N ps scope) (hn : ps.length = n)
    (hb : ∀ (kV doc pm : Value) (an : Option Addr) (cdv ct : Value) (us : List Value), us.length = ps.length → bindArgs (PySem.W.fnOf x qual params body scope .none kV doc pm an cdv ct) ⟨us, []⟩ = pure (ps.zip us))
    (hbody : ∀ (cdv : Value) (A : Around) (outer : List Env) (s : Shared) (H : Hp) (E : XK) (B : Bs), B.C = C → B.T = T → VX (CxD P w K mg base N qual scope f cdv A outer s H E) k (fun cls d _ H' => E cls d H') →
      PassesOwn (model P w) (CxD P w K mg base N qual scope f cdv A outer s H E).A (CxD P w K mg base N qual scope f cdv A outer s H E).env (CxD P w K mg base N qual scope f cdv A outer s H E).xe →
      PXB (CxD P w K mg base N qual scope f cdv A outer s H E) (fun cls d _ H' => E cls d H') B body db) : OkD P w K mg base (k + 1) x io n C T (dFn io N.length db) := by
  have bn := FunD.bindsN F hb
  have kp := F.kp
  obtain ⟨oc, od, dV, kV, doc, pm, an, cdv, ct, osl, rfl, lk, hcd, _, _⟩ := F.ex
  exact ⟨f, _, ps, hm, kp, bn, hn, fnv_of lk hcd S fun A outer s H E B h1 h2 v po => hbody cdv A outer s H E B h1 h2 v po⟩
theorem okVf {x qual : Str} {params : Arguments} {body : List Stmt} {scope : Scope} {f : Addr} {fd : FuncData} {N ps : List Str} {C : CloT} {T : List (Addr × Str)} {io : Bool} {k : Nat} {db : M Fl} (F : FunD K x qual params body scope [] [] f fd) (S : FnScope N ps scope) 
    (hbody : ∀ (cdv : Value) (A : Around) (outer : List Env) (s : Shared) (H : Hp) (E : XK) (B : Bs), B.C = C → B.T = T → VX (CxD P w K mg base N qual scope f cdv A outer s H E) k (fun cls d _ H' => E cls d H') →
      PassesOwn (model P w) (CxD P w K mg base N qual scope f cdv A outer s H E).A (CxD P w K mg base N qual scope f cdv A outer s H E).env (CxD P w K mg base N qual scope f cdv A outer s H E).xe →
      PXB (CxD P w K mg base N qual scope f cdv A outer s H E) (fun cls d _ H' => E cls d H') B body db) : FnV P w K mg base (CX P w) (k + 1) f fd ps (spV mg K C T io ps.length (dFn io N.length db)) := by
  obtain ⟨oc, od, dV, kV, doc, pm, an, cdv, ct, osl, rfl, lk, hcd, _, _⟩ := F.ex
  exact fnv_of lk hcd S fun A outer s H E B h1 h2 v po => hbody cdv A outer s H E B h1 h2 v po
/-- an error class, by what is looked at -/
def oexB (K : PySem.W.Frag) (C : Addr) : Bool := match K.lookup C with
  | some ⟨.type "type", _, .cls cd, sl⟩ => (match cd.mro, sl.toList with
    | .ref C' :: bm, [_, _, _, _, some (.builtin n), _] => C' == C && n == "ValueError.__new__" && !cd.hasDel && cd.hasDict && PySem.HandSPX.refsVE bm
    | _, _ => false)
  | _ => false
def init0 (K : PySem.W.Frag) : Addr := He.fAd K ("TapeError", some "__init__")
def errB (K : PySem.W.Frag) (x : Str) : Bool :=
  oexB K (He.ga K x) && (decide (PySem.W.findIn K (.ref (He.ga K x)) "__setattr__" = some (some (.builtin "object.__setattr__"))) && (decide (PySem.W.subIn K (.ref (He.ga K x)) (.type "BaseException") = some true) && (decide (PySem.W.typeIn K (.ref (He.ga K x)) = some (.type "type")) && (PySem.W.keepIn K (.ref (He.ga K x)) &&
  (decide (PySem.W.findIn K (.ref (He.ga K x)) "__init__" = some (some (.ref (init0 K)))) && (decide (PySem.W.typeIn K (.ref (init0 K)) = some (.type "function")) && (decide (PySem.W.findIn K (.ref (He.ga K x)) "value" = some none) &&
  (decide (PySem.W.findIn K (.ref (He.ga K x)) "__getattribute__" = some (some (.builtin "BaseException.__getattribute__"))) && (decide (PySem.W.findIn K (.ref (He.ga K x)) "__getattr__" = some none) && (PySem.W.hasDictIn K (He.ga K x) && (decide (PySem.W.findIn K (.ref (He.ga K x)) "__class__" = some (some (.builtin "object.__class__"))) &&
  (decide (PySem.W.specialIn K (.builtin "object.__class__") "__get__" = some (some (.builtin "getset_descriptor.__get__"))) && (decide (PySem.W.takesIn K (.builtin "object.__class__") = some true) && decide (PySem.W.mroIn K (He.ga K x) (.type "object") = some true))))))))))))))
structure ErrK (K : PySem.W.Frag) (x : Str) : Prop where
  ox : OexC K (He.ga K x)
  iC : PySem.W.findIn K (.ref (He.ga K x)) "__init__" = some (some (.ref (init0 K)))
  tI : PySem.W.typeIn K (.ref (init0 K)) = some (.type "function")
  no : PySem.W.findIn K (.ref (He.ga K x)) "value" = some none
  ec : ExcC K (He.ga K x)
  xf : XfC K (He.ga K x)
theorem oexB_ok {K : PySem.W.Frag} {C : Addr} (q : oexB K C = true) : ∃ nm q N bs bm sn sub ab col dd k0 k1 k2 k3 k5, K.lookup C = some (excClassObj nm q C N bs bm true sn sub ab col dd k0 k1 k2 k3 k5 "ValueError.__new__") ∧ PySem.HandSPX.refsVE bm = true := by
  unfold oexB at q
  split at q
  · rename_i dd cd sl ho
    split at q
    · rename_i C' bm k0 k1 k2 k3 n k5 hm hs
      simp only [Bool.and_eq_true, beq_iff_eq, Bool.not_eq_true'] at q
      obtain ⟨⟨⟨⟨rfl, rfl⟩, hdel⟩, hdict⟩, ht⟩ := q
      obtain ⟨nm, bs, mro, ns, qn, hd, sn, sub, ab, col, del⟩ := cd
      dsimp only at hm hdel hdict
      subst hm hdel hdict
      have hsl : sl = #[k0, k1, k2, k3, some (.builtin "ValueError.__new__"), k5] := by
        obtain ⟨l⟩ := sl
        simp only at hs
        rw [hs]
      subst hsl
      exact ⟨nm, qn, ns, bs, bm, sn, sub, ab, col, dd, k0, k1, k2, k3, k5, ho, ht⟩
    · cases q
  · cases q
theorem errB_ok {x : Str} (h : errB K x = true) : ErrK K x := by
  unfold errB at h
  simp only [Bool.and_eq_true, decide_eq_true_eq] at h
  obtain ⟨h1, h2, h3, h4, h5, h6, h7, h8, h9, h10, h11, h12, h13, h14, h15⟩ := h
  exact ⟨⟨oexB_ok h1, h2, h3, h4, h5⟩, h6, h7, h8, ⟨h9, h10, h3, h11, h12, h13, h14, h15⟩, ⟨h9, h10, h3, h11⟩⟩
/-- the error classes, one beside another; the base's name is TapeError -/
def errsB (errs : List Str) (sub : Str → Str → Bool) (K : PySem.W.Frag) : Bool :=
  (errs.all fun x => errB K x && (decide (PySem.W.exmOne K (.ref (He.ga K x)) (.ref (He.ga K "TapeError")) = some true) && (decide (PySem.W.kitOne K (.type "NoneType") (.ref (He.ga K x)) = some false) && errs.all fun y => decide (PySem.W.kitOne K (.ref (He.ga K y)) (.ref (He.ga K x)) = some (sub y x))))) &&
  (match PySem.W.findCls K (.type "ValueError") (.type "type") "__init__" with
    | some (.val (.builtin n)) => n == "ValueError.__init__"
    | _ => false)
structure ErrsK (errs : List Str) (sub : Str → Str → Bool) (K : PySem.W.Frag) : Prop where
  one : ∀ x ∈ errs, ErrK K x
  exm : ∀ x ∈ errs, PySem.W.exmOne K (.ref (He.ga K x)) (.ref (He.ga K "TapeError")) = some true
  kN : ∀ x ∈ errs, PySem.W.kitOne K (.type "NoneType") (.ref (He.ga K x)) = some false
  kit : ∀ x ∈ errs, ∀ y ∈ errs, PySem.W.kitOne K (.ref (He.ga K y)) (.ref (He.ga K x)) = some (sub y x)
  vV : PySem.W.findCls K (.type "ValueError") (.type "type") "__init__" = some (.val (.builtin "ValueError.__init__"))
theorem errsB_ok {errs : List Str} {sub : Str → Str → Bool} (h : errsB errs sub K = true) : ErrsK errs sub K := by
  unfold errsB at h
  obtain ⟨h1, h2⟩ := Bool.and_eq_true_iff.mp h
  have key : ∀ x ∈ errs, _ := fun x hx => List.all_eq_true.mp h1 x hx
  simp only [Bool.and_eq_true, decide_eq_true_eq, List.all_eq_true] at key
  refine ⟨fun x hx => errB_ok (key x hx).1, fun x hx => (key x hx).2.1, fun x hx => (key x hx).2.2.1, fun x hx => (key x hx).2.2.2, ?_⟩
  split at h2
  · rename_i n e
    rw [e, eq_of_beq h2]
  · cases h2
end
end VL
/-! VL23: error classes as the frames know them; the walk of a law. -/
namespace VL
set_option autoImplicit false
open PySem PySem.Spec PyProof.Rows L2
/-- the error classes' __init__ -/
def OkI (P : Program) (w : World) (K : PySem.W.Frag) (mg : Str → Option Value) (base : Heap) (k : Nat) : Prop :=
  ∃ fd : FuncData, FnOk P w K mg base (CX P w) k (init0 K) fd ["self", "value"] (spInit K) ∧ Binds K fd ["self", "value"] []
structure ErrAll (errs : List Str) (sub : Str → Str → Bool) (P : Program) (w : World) (K : PySem.W.Frag) (mg : Str → Option Value) (base : Heap) : Prop where
  k : ErrsK errs sub K
  at_ : ∀ c ∈ errs, mg c = some (.ref (He.ga K c))
  te : mg "TapeError" = some (.ref (He.ga K "TapeError"))
  init : OkI P w K mg base 1
section
variable {X : Cx} {errs : List Str} {sub : Str → Str → Bool}
theorem ErrAll.c (a : ErrAll errs sub X.prog X.w X.K X.mg X.base) {c : Str} (gl : Gl X c) (hc : c ∈ errs := by decide) (dbg : (c == ("__debug__" : Str)) = false := by decide) : ErrC X 1 c := by
  obtain ⟨fd, F, hb⟩ := a.init
  have e := a.k.one c hc
  exact ⟨gl, dbg, _, _, fd, _, a.at_ c hc, e.ox, e.iC, e.tI, F, hb, e.no⟩
theorem ErrAll.is (a : ErrAll errs sub X.prog X.w X.K X.mg X.base) {c : Str} (gl : Gl X c) (hc : c ∈ errs := by decide) (dbg : (c == ("__debug__" : Str)) = false := by decide) : IsE X errs c (fun d => sub d c) :=
  ⟨gl, dbg, _, a.at_ c hc, a.k.kN c hc, fun d hd => ⟨_, a.at_ d hd, (a.k.one d hd).ec, a.k.kit c hc d hd⟩⟩
theorem ErrAll.val (a : ErrAll errs sub X.prog X.w X.K X.mg X.base) : ValE X errs := ⟨fun c hc => ⟨_, a.at_ c hc, (a.k.one c hc).xf, (a.k.one c hc).no⟩⟩
theorem ErrAll.eo {P : Program} {w : World} {K : PySem.W.Frag} {mg : Str → Option Value} {base : Heap} (a : ErrAll errs sub P w K mg base) : ErrsOk K mg (He.ga K "TapeError") errs := ⟨fun c hc => ⟨_, a.at_ c hc, a.k.exm c hc⟩⟩
end
section
variable {fa : List He.Fa} {fn : List He.DefD} {P : Program} {w : World} {K : PySem.W.Frag} {mg : Str → Option Value} {base : Heap}
/-- _law_heard's place -/
structure OkH (K : PySem.W.Frag) (mg : Str → Option Value) (errs : List Str) : Prop where
  ex : ∃ (g CT : Addr) (pg : Arguments) (p : HPos) (sg : Scope) (dV kV doc pm cdv ct oc : Value) (an od : Option Addr) (osl : Array (Option Value)),
    mg "_law_heard" = some (.ref g) ∧ PySem.W.keepIn K (.ref g) = true ∧ K.lookup g = some ⟨oc, od, .func (PySem.W.fnOf "_law_heard" "_law_heard" pg p.body sg dV kV doc pm an cdv ct), osl⟩ ∧ PySem.W.codeIn K cdv "_law_heard" = true ∧
    Binds K (PySem.W.fnOf "_law_heard" "_law_heard" pg p.body sg dV kV doc pm an cdv ct) ["call"] [] ∧ HText p sg ∧ mg "TapeError" = some (.ref CT) ∧ ErrsOk K mg CT errs
theorem OkH.h {X : Cx} {errs : List Str} (o : OkH X.K X.mg errs) (gl : Gl X "_law_heard") : Heard X errs := ⟨gl, o.ex⟩
theorem okH {pg : Arguments} {p : HPos} {sg : Scope} {f : Addr} {fd : FuncData} {errs : List Str} (F : FunD K "_law_heard" "_law_heard" pg p.body sg [] [] f fd) (hm : mg "_law_heard" = some (.ref f)) (ht : HText p sg)
    (hb : ∀ (kV doc pm : Value) (an : Option Addr) (cdv ct : Value) (us : List Value), us.length = [("call" : Str)].length → bindArgs (PySem.W.fnOf "_law_heard" "_law_heard" pg p.body sg .none kV doc pm an cdv ct) ⟨us, []⟩ = pure ([("call" : Str)].zip us))
    (te : mg "TapeError" = some (.ref (He.ga K "TapeError"))) (eo : ErrsOk K mg (He.ga K "TapeError") errs) : OkH K mg errs := by
  have bn := FunD.bindsN (ps := ["call"]) F hb
  have kp := F.kp
  obtain ⟨oc, od, dV, kV, doc, pm, an, cdv, ct, osl, rfl, lk, hcd, _, _⟩ := F.ex
  exact ⟨f, _, pg, p, sg, dV, kV, doc, pm, cdv, ct, oc, an, od, osl, hm, kp, lk, hcd, bn, ht, te, eo⟩
/-- what is known of the law at the head's heap h -/
def LawV (l : PySem.W.OpenLaw) (w : World) (K : PySem.W.Frag) (k n : Nat) (x : Str) (mg : Str → Option Value) (fa : Addr) (h : Heap) : Prop :=
  ∃ (fd : FuncData) (cs : List (Addr × Addr)) (T : List (Addr × Str)) (Fl : Fn), (∀ p ∈ cs, h.get? p.2 = some { cls := .none, data := .fields #[] }) ∧ (∀ p ∈ cs, K.lookup p.2 = none) ∧ (∀ p ∈ cs, PySem.W.CodeHd h p.1 p.2) ∧ (∀ q ∈ T, ∃ p ∈ cs, p.2 = q.1) ∧
    (∀ (s : Shared) (u : Value), BindsTo s fd ⟨[u], []⟩ [(x, u)]) ∧ (∀ ns : List Int, ns.length ≤ n → (∀ z ∈ ns, Builtin.Int.intBits z ≤ 1048576) → Fl [] [.lst (ns.map PV.int)] = .ok (.sh (.bl true), [])) ∧
    ∀ base : Heap, K.In base → base.Ns mainGlobals mg → (∀ p ∈ cs, LamX.TabB base mg p.1 p.2) → FnV l.prog w K mg base (CX l.prog w) k fa fd [x] (spV mg K (cNo mg) T false 1 Fl)
theorem walk_V {l : PySem.W.OpenLaw} {n k : Nat} {q : Program} {loose : List Str} {XP : (Str → Option Value) → Heap → Prop} {YP : World → Heap → Prop} {d : DefRec} {x : Str}
    (hn : l.most = some n) (hn2 : n ≤ sizeLine) (hdf : d.params.defaults = []) (hr : Room k callerA)
    (F : ∀ (w : World) (mg : Str → Option Value) (fa : Addr) (h : Heap), YP w h → h.Ns mainGlobals mg → mg d.name = some (.ref fa) → ∃ K : PySem.W.Frag, K.In h ∧ LawV l w K k n x mg fa h) :
    PySem.W.WalkO q loose XP YP l.row.toRowW d [] (fun f vs => PySem.call f vs) := by
  refine _root_.Att.attach_callB hn hdf fun w s₀ s₁ mg mb fa o pm cd doc a vs ns G Y ho hd hcd hmg hobj hints hlen hbits hg => ?_
  obtain ⟨K, KX, fd, cs, T, Fl, hT, nT, C, hTT, hb, hsp, hF⟩ := F w mg fa _ Y G.T.g hmg
  exact law_callV KX G.T.g G.T.b G.T.builtins G.T.nolimit hg hT nT C hTT G.T.bmain hobj hints (Nat.le_trans hlen hn2) hr hF hb (hsp ns hlen hbits)
end
end VL
/-! VL24: a def that makes lambdas. -/
namespace VL
set_option autoImplicit false
open PySem PySem.Spec PyProof.Rows L2
mutual
def noclo : PV → Bool
  | .clo _ => false
  | .tup xs => nocloL xs
  | .lst xs => nocloL xs
  | .dct _ xs => nocloL xs
  | .dtt _ xs => nocloL xs
  | .tix xs => nocloL xs
  | .err _ v => noclo v
  | _ => true
def nocloL : List PV → Bool
  | [] => true
  | x :: xs => noclo x && nocloL xs
end
section
variable {K : PySem.W.Frag} {C C' : CloT} {H : Hp}
mutual
theorem Rep.reC (h : C.mg = C'.mg) : ∀ (p : PV) (v : V), noclo p = true → Rep K C H p v → Rep K C' H p v
  | .non, _, _, r => by simpa only [Rep] using r
  | .bl _, _, _, r => by simpa only [Rep] using r
  | .int _, _, _, r => by simpa only [Rep] using r
  | .str _, _, _, r => by simpa only [Rep] using r
  | .tup ps, v, n, r => by
    simp only [Rep] at r ⊢
    obtain ⟨a, xs, e, s, r⟩ := r
    exact ⟨a, xs, e, s, RepL.reC h ps xs (by simpa only [noclo] using n) r⟩
  | .lst ps, v, n, r => by
    simp only [Rep] at r ⊢
    obtain ⟨a, xs, e, s, r⟩ := r
    exact ⟨a, xs, e, s, RepL.reC h ps xs (by simpa only [noclo] using n) r⟩
  | .dct ks ps, v, n, r => by
    simp only [Rep] at r ⊢
    obtain ⟨a, xs, e, l, s, r⟩ := r
    exact ⟨a, xs, e, l, s, RepL.reC h ps xs (by simpa only [noclo] using n) r⟩
  | .dtt ks ps, v, n, r => by
    simp only [Rep] at r ⊢
    obtain ⟨a, xs, e, l, s, r⟩ := r
    exact ⟨a, xs, e, l, s, RepL.reC h ps xs (by simpa only [noclo] using n) r⟩
  | .tix ps, v, n, r => by
    simp only [Rep] at r ⊢
    obtain ⟨a, o, xs, e, s, r⟩ := r
    exact ⟨a, o, xs, e, s, RepL.reC h ps xs (by simpa only [noclo] using n) r⟩
  | .clo _, _, n, _ => by simp only [noclo] at n; cases n
  | .fn _, _, _, r => by simp only [Rep] at r ⊢; rw [← h]; exact r
  | .err c p, v, n, r => by
    simp only [Rep] at r ⊢
    obtain ⟨a, d, C0, o, o', u, w, e, g, s, c1, c2, c3, s2, r⟩ := r
    exact ⟨a, d, C0, o, o', u, w, e, by rw [← h]; exact g, s, c1, c2, c3, s2, Rep.reC h p w (by simpa only [noclo] using n) r⟩
theorem RepL.reC (h : C.mg = C'.mg) : ∀ (ps : List PV) (xs : List V), nocloL ps = true → RepL K C H ps xs → RepL K C' H ps xs
  | [], _, _, r => by simpa only [RepL] using r
  | p :: ps, _, n, r => by
    simp only [nocloL, Bool.and_eq_true] at n
    simp only [RepL] at r ⊢
    obtain ⟨y, z, e, h1, h2⟩ := r
    exact ⟨y, z, e, Rep.reC h p y n.1 h1, RepL.reC h ps z n.2 h2⟩
end
end
def nocloV : LV → Bool
  | .sh p => noclo p
  | .ow p => noclo p
  | .po p => noclo p
def noR : Res (LV × List PV) → Res (LV × List PV)
  | .ok (l, q) => if nocloV l && nocloL q then .ok (l, q) else .bad
  | .exc c p => if noclo p then .exc c p else .bad
  | .bad => .bad
def dFnL (io : Bool) (N : Nat) (db : M Fl) : Fn := fun q ps => if nocloL q && nocloL ps then noR (dFn io N db q ps) else .bad
theorem Own.reC {K : PySem.W.Frag} {C C' : CloT} {H : Hp} (h : C.mg = C'.mg) {p : PV} {a : Addr} (n : noclo p = true) (o : Own K C H p a) : Own K C' H p a := by
  cases p with
  | lst ps => obtain ⟨xs, h1, h2⟩ := o; exact ⟨xs, h1, RepL.reC h ps xs (by simpa only [noclo] using n) h2⟩
  | dct ks ps => obtain ⟨l, xs, h1, h2⟩ := o; exact ⟨l, xs, h1, RepL.reC h ps xs (by simpa only [noclo] using n) h2⟩
  | dtt ks ps => obtain ⟨l, xs, h1, h2⟩ := o; exact ⟨l, xs, h1, RepL.reC h ps xs (by simpa only [noclo] using n) h2⟩
  | _ => exact o.elim
theorem reC_fn {K : PySem.W.Frag} {C C' : CloT} {mg : Str → Option Value} {T : List (Addr × Str)} {pt : Option Addr} {io : Bool} {N : Nat} {db : M Fl} {q ps : List PV} {vs : List V} {H : Hp} {Q : VK} {E : XK} (h : C.mg = C'.mg)
    (ha : argsR K C io q ps vs H pt) (he : fnEnd mg K C T pt (dFnL io N db q ps) H Q E) : argsR K C' io q ps vs H pt ∧ fnEnd mg K C' T pt (dFn io N db q ps) H Q E := by
  unfold dFnL at he
  by_cases hn : (nocloL q && nocloL ps) = true
  · rw [if_pos hn] at he
    obtain ⟨nq, np⟩ := Bool.and_eq_true_iff.mp hn
    refine ⟨?_, ?_⟩
    · unfold argsR at ha ⊢
      cases io with
      | false =>
        simp only [Bool.false_eq_true, if_false] at ha ⊢
        exact ⟨ha.1, ha.2.1, RepL.reC h _ _ np ha.2.2⟩
      | true =>
        simp only [if_true] at ha ⊢
        obtain ⟨a, ws, xs, e1, e2, e3, e4, e5⟩ := ha
        exact ⟨a, ws, xs, e1, e2, e3, RepL.reC h _ _ nq e4, RepL.reC h _ _ np e5⟩
    · generalize dFn io N db q ps = r at he ⊢
      cases r with
      | bad => exact he
      | exc c p =>
        unfold noR at he
        dsimp only at he
        split at he
        · rename_i n
          exact fun cls dx v H' m hx rv => he cls dx v H' m hx (Rep.reC h.symm p v n rv)
        · exact he.elim
      | ok x =>
        obtain ⟨l, q'⟩ := x
        unfold noR at he
        dsimp only at he
        split at he
        · rename_i n
          obtain ⟨nl, nq'⟩ := Bool.and_eq_true_iff.mp n
          refine fun v H' kp tb hq g => he v H' kp tb (fun a e => ?_) ?_
          · obtain ⟨ys, h1, h2⟩ := hq a e
            exact ⟨ys, h1, RepL.reC h.symm _ _ nq' h2⟩
          · cases l with
            | sh p => exact Rep.reC h.symm p v nl g
            | ow p => obtain ⟨b, e, o, n⟩ := g; exact ⟨b, e, o.reC h.symm nl, n⟩
            | po p => exact g
        · exact he.elim
  · rw [if_neg hn] at he
    exact he.elim
/-- a def that makes lambdas -/
theorem fnv_ofL {P : Program} {w : World} {K : PySem.W.Frag} {mg : Str → Option Value} {base : Heap} {k : Nat} {f : Addr} {name qual : Str} {params : Arguments} {body : List Stmt} {scope : Scope} {dV kV doc pm cdv ct oc : Value} {an od : Option Addr}
    {osl : Array (Option Value)} {N ps : List Str} {C : CloT} {T : List (Addr × Str)} {io : Bool} {db : M Fl} {L : List (Arguments × Expr × Scope)} (hCm : C.mg = mg) (lk : K.lookup f = some ⟨oc, od, .func (PySem.W.fnOf name qual params body scope dV kV doc pm an cdv ct), osl⟩) (hcd : PySem.W.codeIn K cdv qual = true) (S : FnScope N ps scope)
    (hbody : ∀ (A : Around) (outer : List Env) (s : Shared) (H : Hp) (E : XK) (B : Bs), B.C = cloC (cxOf (CX P w) P w K mg base N qual scope f cdv A outer s H E) L → B.T = T → VX (cxOf (CX P w) P w K mg base N qual scope f cdv A outer s H E) k (fun cls d _ H' => E cls d H') →
      PassesOwn (model P w) (cxOf (CX P w) P w K mg base N qual scope f cdv A outer s H E).A (cxOf (CX P w) P w K mg base N qual scope f cdv A outer s H E).env (cxOf (CX P w) P w K mg base N qual scope f cdv A outer s H E).xe →
      PXB (cxOf (CX P w) P w K mg base N qual scope f cdv A outer s H E) (fun cls d _ H' => E cls d H') B body db) :
    FnV P w K mg base (CX P w) (k + 1) f (PySem.W.fnOf name qual params body scope dV kV doc pm an cdv ct) ps (spV mg K C T io ps.length (dFnL io N.length db)) := by
  refine ⟨fun vs H Q E h => h.1, fun A outer s H args us vs Q E hr hgd e0 hb r hsp => ?_⟩
  obtain ⟨hl, ht, q, ars, pt, ha, he⟩ := hsp
  have KX : K.In s.heap := e0.mod.kin.keeps fun b o e => (e0.bs b o e).1
  have lim : s.heap.NoLimit := e0.mod.nolimit.keeps fun b o e => (e0.bs b o e).1
  have hkind : ∀ y ∈ ps.zip us, scope.names.lookup y.1 = some .local ∨ (scope.names.lookup y.1 = some .cell ∧ ((cellsFrom (s.heap.objs.size + 1) scope.names []).lookup y.1).isSome = true) := fun ⟨n, v⟩ hy => by
    rcases S.par n (List.of_mem_zip hy).1 with q | q
    · exact .inl q
    · exact .inr ⟨q, PySem.W.cellsFrom_some _ _ _ (.inl q)⟩
  have hpl : ps.length ≤ N.length := by have := congrArg List.length S.pre; rw [List.length_take] at this; omega
  refine codeAny_call_function hr.depth (KX _ _ lk) rfl S.co S.gen rfl (PySem.W.codeRec_of KX hcd) (hb _ _ _ _ ?_)
  refine wpAny_newFunctionEnv_cells S.kind hkind fun env henv s1 x => ?_
  subst henv
  refine ⟨lim.keeps x.toInCall.keep, codeAny_func ?_⟩
  generalize hX : cxOf (CX P w) P w K mg base N qual scope f cdv A outer s H E = X
  have I : Inv X [] (L2.start N vs) H s1 := by rw [← hX]; exact inv_start S hr.hd e0 hl r x
  have vx : VX X k (fun cls d _ H' => E cls d H') := by
    subst hX
    exact ⟨hr.deeper _, hgd, rfl, takes_of rfl rfl rfl rfl⟩
  have po : PassesOwn (model P w) X.A X.env X.xe := by
    subst hX
    exact passes_of rfl
  have hcm : C.mg = (cloC (cxOf (CX P w) P w K mg base N qual scope f cdv A outer s H E) L).mg := hCm
  obtain ⟨ha, he⟩ := reC_fn hcm ha he
  rw [hX] at ha he
  have hbd := hbody A outer s H E ⟨H, pt, cloC (cxOf (CX P w) P w K mg base N qual scope f cdv A outer s H E) L, T⟩ rfl rfl (by rw [hX]; exact vx) (by rw [hX]; exact po)
  rw [hX] at hbd
  have hK : X.K = K := by subst hX; rfl
  have hm : X.mg = mg := by subst hX; rfl
  have rd := fn_read (X := X) (N := N) (db := db) (Q := Q) (E := E) (by rw [hK]; exact ha) ht (by omega) (by rw [hK, hm]; exact he)
  have wp := hbd.run [] s1 (L2.start N vs) H _ I rd
  subst hX
  refine wpAny_mono wp (fun fl s' hs => ?_) fun e s' hs => hs
  have fin : ∀ {σ' : St} {H' : Hp} {v : V} {u : Value}, Inv (cxOf (CX P w) P w K mg base N qual scope f cdv A outer s H E) [] σ' H' s' → RelV v u → Q v H' → CE outer P w H s Q u s' :=
    fun {σ' H' v u} J rv q => ⟨v, H', J.os, J.bare, J.base, J.hok, rv, q⟩
  cases fl with
  | ret u =>
    obtain ⟨v, σ', H', J, rv, q⟩ := hs
    exact fin J rv q
  | next =>
    obtain ⟨σ', H', J, q⟩ := hs
    exact fin (v := V.non) (u := Value.none) J rfl q
  | brk =>
    obtain ⟨_, _, _, q⟩ := hs
    exact False.elim q
  | cont =>
    obtain ⟨_, _, _, q⟩ := hs
    exact False.elim q
theorem okVL {P : Program} {w : World} {K : PySem.W.Frag} {mg : Str → Option Value} {base : Heap} {x qual : Str} {params : Arguments} {body : List Stmt} {scope : Scope} {f : Addr} {fd : FuncData} {N ps : List Str} {C : CloT} {T : List (Addr × Str)} {io : Bool} {k n : Nat} {db : M Fl} {L : List (Arguments × Expr × Scope)} (hCm : C.mg = mg) (F : FunD K x qual params body scope [] [] f fd) (hm : mg x = some (.ref f)) (S : FnScope N ps scope) (hn : ps.length = n)
    (hb : ∀ (kV doc pm : Value) (an : Option Addr) (cdv ct : Value) (us : List Value), us.length = ps.length → bindArgs (PySem.W.fnOf x qual params body scope .none kV doc pm an cdv ct) ⟨us, []⟩ = pure (ps.zip us))
    (hbody : ∀ (cdv : Value) (dflt : FunD K x qual params body scope [] [] f fd) (hcode : fd.code = cdv) (A : Around) (outer : List Env) (s : Shared) (H : Hp) (E : XK) (B : Bs), B.C = cloC (CxD P w K mg base N qual scope f cdv A outer s H E) L → B.T = T → VX (CxD P w K mg base N qual scope f cdv A outer s H E) k (fun cls d _ H' => E cls d H') →
      PassesOwn (model P w) (CxD P w K mg base N qual scope f cdv A outer s H E).A (CxD P w K mg base N qual scope f cdv A outer s H E).env (CxD P w K mg base N qual scope f cdv A outer s H E).xe →
      PXB (CxD P w K mg base N qual scope f cdv A outer s H E) (fun cls d _ H' => E cls d H') B body db) : OkD P w K mg base (k + 1) x io n C T (dFnL io N.length db) := by
  have bn := FunD.bindsN F hb
  have kp := F.kp
  have F0 := F
  obtain ⟨oc, od, dV, kV, doc, pm, an, cdv, ct, osl, rfl, lk, hcd, _, _⟩ := F.ex
  exact ⟨f, _, ps, hm, kp, bn, hn, fnv_ofL hCm lk hcd S fun A outer s H E B h1 h2 v po => hbody cdv F0 rfl A outer s H E B h1 h2 v po⟩
end VL
/-! VL25: min, max of two numbers; list(range(n)); sorted(d.values()). -/
namespace VL
set_option autoImplicit false
open PySem PySem.Spec PyProof.Rows L2
section
variable {X : Cx} {W : WX} {B : Bs} {pos : Pos} {a b : Expr} {da db : M PV}
def d2i (f : Int → Int → Int) (a b : M PV) : M PV := fun s => (a s).bind fun (p, s) => (b s).bind fun (q, s) => match p, q with
  | .int i, .int j => .ok (.int (f i j), s)
  | _, _ => .bad
def max2 (i j : Int) : Int := if j > i then j else i
def min2 (i j : Int) : Int := if j < i then j else i
theorem two_read {f : Int → Int → Int} {r : List V → Hp → VK → Prop} (hr : ∀ i j H Q, Q (.int (f i j)) H → r [.int i, .int j] H Q) {σ : St} {H : Hp} {Q : VK} (q : tR X W B (rV X B) (d2i f da db) σ H Q) :
    tCB r (tCons (tR X W B (rV X B) da) (tCons (tR X W B (rV X B) db) tNil)) σ H Q := by
  obtain ⟨s, R, q⟩ := q
  refine ⟨s, R, tRa.bind (rep' := rV X B) q fun p s1 v H1 R1 x1 r1 q => ⟨s1, R1, tRa.bind (rep' := rV X B) q fun p2 s2 v2 H2 R2 x2 r2 q => ?_⟩⟩
  cases p with
  | int i =>
    cases p2 with
    | int j =>
      cases rep_int.mp r1
      cases rep_int.mp r2
      exact hr i j H2 Q (q _ H2 R2 (Ext.refl _) (rep_int.mpr rfl))
    | _ => exact (show False from q).elim
  | _ => exact (show False from q).elim
theorem px_max2 {p : Pos} (hc : X.calm = true) (hg : Gl X "max") (hm : X.mg "max" = none) (ha : PX X W B a da) (hb : PX X W B b db) (hs : starEach [a, b] X.env = (false, eval a X.env) :: starEach [b] X.env := by rfl) (hs2 : starEach [b] X.env = (false, eval b X.env) :: starEach [] X.env := by rfl)
    (hpl : (backTo pos (starEach [b] X.env)).any (·.1) = false := by rfl) : PX X W B (.Call (.Name "max" p) [a, b] [] pos) (d2i max2 da db) :=
  PE.weak (pe_callB (p := p) (pos := pos) (call_max2 hc) hg hm (by decide +kernel) (pa_cons ha (pa_cons hb pa_nil hs2) hs) (he := hs) (hpl := hpl)) fun σ H Q q => two_read (f := max2) (fun i j H Q q => ⟨i, j, rfl, q⟩) q
theorem px_min2 {p : Pos} (hc : X.calm = true) (hg : Gl X "min") (hm : X.mg "min" = none) (ha : PX X W B a da) (hb : PX X W B b db) (hs : starEach [a, b] X.env = (false, eval a X.env) :: starEach [b] X.env := by rfl) (hs2 : starEach [b] X.env = (false, eval b X.env) :: starEach [] X.env := by rfl)
    (hpl : (backTo pos (starEach [b] X.env)).any (·.1) = false := by rfl) : PX X W B (.Call (.Name "min" p) [a, b] [] pos) (d2i min2 da db) :=
  PE.weak (pe_callB (p := p) (pos := pos) (call_min2 hc) hg hm (by decide +kernel) (pa_cons ha (pa_cons hb pa_nil hs2) hs) (he := hs) (hpl := hpl)) fun σ H Q q => two_read (f := min2) (fun i j H Q q => ⟨i, j, rfl, q⟩) q
/-- a fresh list laid -/
theorem fresh_laid {pins : List (Addr × Obj)} {σ : L2.St} {H : Hp} {s : Shared} {h' : Heap} {tk : Nat} {sp : PSt} {l : Addr} {xs : List V} {ps : List PV} {its : List Value} {c : Nat} {Q : VK} (I : Inv X pins σ H s) (R : RelSt X.K B sp σ H) (hl : s.heap.objs.size ≤ l) (kp : ∀ b o, s.heap.get? b = some o → h'.get? b = some o)
    (e : h'.get? l = some { cls := .type "list", data := .seq its.toArray c }) (rv : Vals xs its) (rp : RepL X.K B.C H ps xs) (hz : ps.length ≤ sizeLine) (q : tRa X W B (rF X B) (.ok (.lst ps, sp)) σ H Q) : EP X pins σ Q (.ref l) { s with heap := h', toks := tk } := by
  have hn : H l = none := I.hok.fresh hl
  have J : Inv X pins σ (upd H l (.lst xs)) { s with heap := h', toks := tk } := I.laid (t' := tk) kp hl ⟨by rw [rp.length]; exact hz, its, c, rv, e⟩
  exact ⟨.ref l, _, J, rfl, newL_read R rp hn q⟩
def dListRange (d : M PV) : M PV := fun s => (d s).bind fun (p, s) => match p with
  | .int j => if decide (0 ≤ j) && Nat.ble j.toNat 16777216 then .ok (.lst (rangeL 0 j.toNat), s) else .bad
  | _ => .bad
theorem range_vals : ∀ (n : Nat) (lo : Nat) (its : List Value), its.length = n → (∀ (i : Nat) (v : Value), its[i]? = some v → ∃ t, v = Value.int ((lo : Int) + (i : Int)) t) → ∃ xs, Vals xs its ∧ ∀ {K : PySem.W.Frag} {C : CloT} {H : Hp}, RepL K C H ((List.range' lo n).map fun i => PV.int (i : Nat)) xs
  | 0, lo, its, h, _ => by
    have e : its = [] := List.length_eq_zero_iff.mp h
    subst e
    exact ⟨[], .nil, RepL.nil⟩
  | n + 1, lo, [], h, _ => by simp at h
  | n + 1, lo, v :: its, h, hp => by
    obtain ⟨t, e⟩ := hp 0 v rfl
    obtain ⟨xs, rv, rr⟩ := range_vals n (lo + 1) its (by simpa using h) (fun i u hu => by
      obtain ⟨t', e'⟩ := hp (i + 1) u (by simpa using hu)
      exact ⟨t', by rw [e']; congr 1; push_cast; omega⟩)
    refine ⟨.int (lo : Nat) :: xs, .cons ⟨t, by rw [e]; simp⟩ rv, ?_⟩
    rw [List.range'_succ, List.map_cons]
    exact .cons (rep_int.mpr rfl) rr
theorem pf_listRange {p p2 pos2 : Pos} (hc : X.calm = true) (hg : Gl X "list") (hm : X.mg "list" = none) (hg2 : Gl X "range") (hm2 : X.mg "range" = none) (ha : PX X W B a da)
    (hs : starEach [a] X.env = [(false, eval a X.env)] := by rfl) (hs' : starEach [a] X.env = (false, eval a X.env) :: starEach [] X.env := by rfl)
    (hs2 : starEach [.Call (.Name "range" p2) [a] [] pos2] X.env = (false, eval (.Call (.Name "range" p2) [a] [] pos2) X.env) :: starEach [] X.env := by rfl) (hpl : (backTo pos (starEach [] X.env)).any (·.1) = false := by rfl) :
    PF X W B (.Call (.Name "list" p) [.Call (.Name "range" p2) [a] [] pos2] [] pos) (dListRange da) := by
  refine ⟨fun pins s σ H Q I h => ?_⟩
  obtain ⟨sp, R, h⟩ := h
  refine wpAny_Call_Name_kw (ld_blt (u := .type "list") I hg hm (by decide +kernel) ?_ (by decide) (by decide))
  have inner : wpAny (model X.prog X.w) X.A (eval (.Call (.Name "range" p2) [a] [] pos2) X.env) (fun u s1 => ∃ (j : Int) (t1 t2 t3 : Tok) (s0 : Shared) (H1 : Hp) (s2 : PSt) (tk : Nat), 0 ≤ j ∧ j.toNat ≤ 16777216 ∧ u = .ref s0.heap.objs.size ∧ Inv X pins σ H1 s0 ∧
      s1 = { s0 with heap := s0.heap.push { cls := .type "range", data := .fields #[.int 0 t1, .int j t2, .int 1 t3] }, toks := tk } ∧ RelSt X.K B s2 σ H1 ∧ tRa X W B (rF X B) (.ok (.lst (rangeL 0 j.toNat), s2)) σ H1 Q) X.xe s := by
    refine Call_ (ld_blt I hg2 hm2 PyProof.Rows.boot_range (PyProof.Rows.callWith_type1 (thn ((pa_cons ha pa_nil hs').run pos2 pins s σ H (fun vs H1 => ∃ j s1, vs = [.int j] ∧ 0 ≤ j ∧ j.toNat ≤ 16777216 ∧ RelSt X.K B s1 σ H1 ∧ tRa X W B (rF X B) (.ok (.lst (rangeL 0 j.toNat), s1)) σ H1 Q) I
      ⟨sp, R, tRa.bind (rep' := rF X B) h fun p s1 v H1 R1 x1 r1 q => ?_⟩) fun us s1 ⟨vs, H1, I1, r1, j, s2, ev, h0, h1, R1, q⟩ => ?_) hs rfl))
    · cases p with
      | int j =>
        dsimp only at q
        split at q
        case isFalse => exact (show False from q).elim
        rename_i hf
        simp only [Bool.and_eq_true, decide_eq_true_eq] at hf
        cases rep_int.mp r1
        exact ⟨j, s1, rfl, hf.1, Nat.le_of_ble_eq_true hf.2, R1, q⟩
      | _ => exact (show False from q).elim
    · subst ev
      obtain ⟨u, eu, ru⟩ := vals1 r1
      subst eu
      obtain ⟨t, rfl⟩ := ru
      refine call_range_1 ?_
      exact ⟨j, _, t, _, s1, H1, s2, _, h0, h1, rfl, I1, rfl, R1, q⟩
  refine PyProof.Rows.callWith_type1 (Calls.spliced_cons (thn inner fun u s1 ⟨j, t1, t2, t3, s0, H1, s2, tk, h0, h1, eu, I1, es, R1, q⟩ => Calls.spliced_nil ?_)) hs2 hpl
  subst eu es
  have hsz : Builtin.Range.rangeSize 0 j 1 = (j.toNat : Nat) := by rw [rangeSize_one]; split <;> omega
  refine call_list_range (a := 0) (b := j) (c := 1) (n := j.toNat) (I1.ok.hd hc) (IsRange.new ..) (small_one (by decide) (by decide) (by omega) (by omega)) hsz (by omega) fun h' tk' acc' c' kp e hacc => ?_
  have I2 : Inv X pins σ H1 { s0 with heap := s0.heap.push { cls := .type "range", data := .fields #[.int 0 t1, .int j t2, .int 1 t3] }, toks := tk } := I1.kept fun b o e => Heap.get?_push_of_some _ e
  obtain ⟨xs, rv, rr⟩ := range_vals j.toNat 0 acc'.toList (by rw [Array.length_toList]; exact hacc.1) fun i v hv => by
    obtain ⟨t, e⟩ := hacc.2 i v (by rw [← Array.getElem?_toList]; exact hv)
    exact ⟨t, by rw [e]; congr 1; omega⟩
  have hr : (rangeL 0 j.toNat) = (List.range' 0 j.toNat).map fun i => PV.int (i : Nat) := by
    unfold rangeL
    rw [List.range_eq_range']
    congr 1
    funext i
    simp
  rw [hr] at q
  refine fresh_laid (its := acc'.toList) (c := c') (tk := tk') I2 R1 (Nat.le_refl _) kp (by simpa using e) rv rr ?_ q
  simp only [List.length_map, List.length_range']
  rw [sizeLine_eq]
  omega
/-- sorted(d.values()), the values ints -/
def allInt (ps : List PV) : Bool := ps.all fun p => match p with
  | .int _ => true
  | _ => false
def dSortV (d : M PV) : M PV := fun s => (d s).bind fun (p, s) => match p with
  | .dct _ ps => if allInt ps && sortOk ps then .ok (.lst (ps.mergeSort leB), s) else .bad
  | _ => .bad
theorem kv_vals : ∀ {kvs : List (Key × V)} {vs : List (Key × Value)}, KV kvs vs → Vals (kvs.map (·.2)) (vs.map (·.2))
  | _, _, .nil => .nil
  | _, _, .cons h t => .cons h.2 (kv_vals t)
theorem int_reads {C : CloT} {H : Hp} {h : Heap} {l : Addr} : ∀ {ps : List PV} {xs : List V} {its : List Value}, RepL X.K C H ps xs → Vals xs its → allInt ps = true → PySem.W.EachIs (fun v p => ∃ as, Reads h v p.toD as ∧ l ∉ as) its ps
  | [], xs, its, r, rv, _ => by
    simp only [RepL] at r
    subst r
    cases rv
    exact .nil
  | p :: ps, xs, its, r, rv, h => by
    obtain ⟨y, zs, rfl, r1, r2⟩ := r.head
    simp only [allInt, List.all_cons, Bool.and_eq_true] at h
    cases rv with
    | cons v1 v2 =>
      refine .cons ?_ (int_reads r2 v2 h.2)
      cases p with
      | int i =>
        cases rep_int.mp r1
        obtain ⟨t, e⟩ := v1
        subst e
        exact ⟨_, by simp only [PV.toD]; exact .int i t, by simp⟩
      | _ => cases h.1
theorem pf_sortV {e : Expr} {d : M PV} {p apos cpos : Pos} (hc : X.calm = true) (hu : X.A.units + 64 < cLine) (hg : Gl X "sorted") (hm : X.mg "sorted" = none) (he : PX X W B e d) (hbase : attributeBase e "values" X.env (eval e X.env) = eval e X.env := by rfl) (hline : (apos.endLine == cpos.line) = true := by rfl)
    (hs : starEach [.Call (.Attribute e "values" apos) [] [] cpos] X.env = (false, eval (.Call (.Attribute e "values" apos) [] [] cpos) X.env) :: starEach [] X.env := by rfl) (hpl : (backTo pos (starEach [] X.env)).any (·.1) = false := by rfl) :
    PF X W B (.Call (.Name "sorted" p) [.Call (.Attribute e "values" apos) [] [] cpos] [] pos) (dSortV d) := by
  refine ⟨fun pins s σ H Q I h => ?_⟩
  obtain ⟨sp, R, h⟩ := h
  refine wpAny_Call_Name_kw (ld_blt (u := .builtin "sorted") I hg hm (by decide +kernel) ?_ (by decide) (by decide))
  have inner : wpAny (model X.prog X.w) X.A (eval (.Call (.Attribute e "values" apos) [] [] cpos) X.env) (fun u s1 => ∃ (s0 : Shared) (H1 : Hp) (dd : Addr) (o : Obj) (kvs : List (Key × V)) (ps : List PV) (s2 : PSt), u = .ref s0.heap.objs.size ∧ Inv X pins σ H1 s0 ∧ H1 dd = some (.frz o (.dK kvs)) ∧ RepL X.K B.C H1 ps (kvs.map (·.2)) ∧ allInt ps = true ∧ sortOk ps = true ∧
      s1 = { s0 with heap := s0.heap.push { cls := .type "dict_values", data := .fields #[.ref dd] } } ∧ RelSt X.K B s2 σ H1 ∧ tRa X W B (rF X B) (.ok (.lst (ps.mergeSort leB), s2)) σ H1 Q) X.xe s := by
    refine wpAny_Call_method (T := "dict") (id := "dict.values") hbase rfl hline PySem.F.plainAttrs_dict PySem.F.slot_dict_values PySem.F.type_dict_values (thn (he.run pins s σ H (fun x H1 => ∃ (dd : Addr) (o : Obj) (kvs : List (Key × V)) (ps : List PV) (s2 : PSt), x = .ref dd ∧ H1 dd = some (.frz o (.dK kvs)) ∧ RepL X.K B.C H1 ps (kvs.map (·.2)) ∧ allInt ps = true ∧ sortOk ps = true ∧
      RelSt X.K B s2 σ H1 ∧ tRa X W B (rF X B) (.ok (.lst (ps.mergeSort leB), s2)) σ H1 Q) I ⟨sp, R, tRa.bind (rep' := rF X B) h fun p s1 v H1 R1 x1 r1 q => ?_⟩) fun u s1 ⟨x, H1, I1, rx, dd, o, kvs, ps, s2, ex, hd, rl, hi, hk, R1, q⟩ => ?_)
    · cases p with
      | dct ks ps =>
        dsimp only at q
        split at q
        case isFalse => exact (show False from q).elim
        rename_i hf
        simp only [Bool.and_eq_true] at hf
        obtain ⟨a, xs, o, rfl, l1, f, r, l2⟩ := dct_keys r1
        have em : (ks.zip xs).map (·.2) = xs := by rw [← List.unzip_snd, List.unzip_zip (by omega)]
        exact ⟨a, o, _, ps, s1, rfl, f, by rw [em]; exact r, hf.1, hf.2, R1, q⟩
      | _ => exact (show False from q).elim
    · subst ex
      obtain rfl : u = Value.ref dd := rx
      obtain ⟨hs, hgd, hx, es, ep, vs, hdt, hsz, kv, hm⟩ := I1.frzK hd
      refine ⟨hm.dictOf.typeIs, hm.dictOf.mapOf.noDict, ?_⟩
      show wpAny _ _ (callWith cpos (.builtin "dict.values") [.ref dd] [] []) _ X.xe s1
      exact method_meetsIn PySem.F.slot_dict_values PySem.F.entry_dict_values rfl (PySem.evalArgs_none ⟨rfl, hm.dictOf.typeIs, PySem.F.args_dict_values_1 _, _, meets_dict_values (mixKind X.prog X.w) dd hs, ⟨vs, hm.dictOf⟩, s1, H1, dd, o, kvs, ps, s2, rfl, I1, hd, rl, hi, hk, rfl, R1, q⟩)
  refine PyProof.Rows.callWith_builtin1 (Calls.spliced_cons (thn inner fun u s1 ⟨s0, H1, dd, o, kvs, ps, s2, eu, I1, hd, rl, hi, hk, es, R1, q⟩ => Calls.spliced_nil ?_)) hs hpl
  subst eu es
  obtain ⟨hs', hgd, hx, ees, ep, vs, hdt, hsz, kv, hm⟩ := I1.frzK hd
  have hl : kvs.length = vs.length := Paired.length kv
  obtain ⟨k1, k2, k3, k4, k5⟩ := sortOk_d hk
  have rlen := rl.length
  rw [List.length_map] at rlen
  have I2 : Inv X pins σ H1 { s0 with heap := s0.heap.push { cls := .type "dict_values", data := .fields #[.ref dd] } } := I1.kept (t' := s0.toks) fun b ob q => Heap.get?_push_of_some _ q
  refine Calls.call_function_entry PyProof.Rows.kind_sorted PyProof.Rows.plain_sorted PyProof.Rows.entry_sorted (PyProof.Rows.args_sorted1 _) ?_
  unfold Builtin.«sorted»
  refine wpAny_bind (m := checkCount "sorted" 1 1 _) (wpAny_pure ?_)
  refine wpAny_bind (PySem.W.kdu_collect (A := X.A.in1) (PySem.W.kdl_values (knd := mixKind X.prog X.w) (kvs := vs) (ep := ep) (r := s0.heap.objs.size) (d := dd)) (I1.ok.hd hc) ⟨⟨_, Heap.get?_push_size _ rfl, rfl, rfl⟩, hm.push _⟩ (by omega) fun h' tk acc hkp hacc => ?_)
  have hla : acc.toList.length = ps.length := by rw [Array.length_toList, hacc.1]; omega
  have hval : acc.toList = vs.map (·.2) := PySem.W.kdl_vals_eq acc.toList (by omega) fun j v e => hacc.2 j v (by rw [← Array.getElem?_toList]; exact e)
  have hvals : Vals (kvs.map (·.2)) acc.toList := by
    rw [hval]
    exact kv_vals kv
  refine wpAny_bind (wpAny_newList ?_ (by rw [hla]; exact k3))
  have lD : ∀ b o, s0.heap.get? b = some o → b ≠ h'.objs.size := fun b o e => Nat.ne_of_lt (Heap.lt_size (hkp b o (Heap.get?_push_of_some _ e)))
  have gD : (h'.push { cls := .type "list", data := .seq acc.toList.toArray }).get? h'.objs.size = some (seqObj "list" acc.toList.toArray 0) := Heap.get?_push_size _ rfl
  refine wpAny_bind (wpAny_holding (wpAny_mono (PySem.W.list_sort_data (R := fun v p => ∃ y, RelV y v ∧ Rep X.K B.C H1 p y) (enc := PV.toD) (bs := ps) (vs := acc.toList) (n := 0) (Q := fun _ s' => EP X pins σ Q (.ref h'.objs.size) s') gD (each_of rl hvals) (int_reads rl hvals hi) k4 k5 k3 (fun p hp => ?_) fun out ho he => ?_) (fun _ s' x => ?_) fun _ _ e => e))
  · have := (okD_d (List.all_eq_true.mp k1 p hp)).2
    show X.A.units + 1 + 1 + _ < _
    omega
  · rw [leB_eq] at he
    obtain ⟨zs, v2, r2⟩ := of_each he
    obtain ⟨c, hc'⟩ := sortedHeap_at (vs := acc.toList) (out := out.toArray) gD
    show EP X pins σ Q (.ref h'.objs.size) { s0 with heap := sortedHeap (h'.push { cls := .type "list", data := .seq acc.toList.toArray }) h'.objs.size acc.toList out.toArray, toks := tk }
    refine fresh_laid (its := out) (c := c) I1 R1 ?_ (fun b o e => ?_) hc' v2 r2 (by rw [mergeSort_len]; exact k3) q
    · have e1 := Heap.lt_size (hkp s0.heap.objs.size _ (Heap.get?_push_size _ rfl))
      exact Nat.le_of_lt e1
    · have e1 := hkp b o (Heap.get?_push_of_some _ e)
      rw [sortedHeap_old (lD b o e) (by rw [Heap.size_push]; exact Nat.lt_succ_of_lt (Heap.lt_size e1))]
      exact Heap.get?_push_of_some _ e1
  · exact wpAny_pure ⟨_, rfl, x⟩
end
end VL
/-! VL26: what the printed proofs use besides. -/
namespace VL
set_option autoImplicit false
open PySem PySem.Spec PyProof.Rows L2
section
variable {X : Cx} {W : WX} {B : Bs} {D : Ends} {pos : Pos}
abbrev sumL : PV → Res PV := fun p => match p with | .lst _ => sumV p | .tup _ => sumV p | _ => .bad
abbrev sortL : PV → Res (List PV) := fun p => match p with | .lst _ => sortedV p | _ => .bad
theorem sum_tup {prog : Program} {w : World} {A : Around} {E : Value → Shared → Prop} {s : Shared} {l : Addr} {its : List Value} {ns : List Int} {Q : Value → Shared → Prop} (hh : A.handled = none) (hl : s.heap.IsTuple l its.toArray) (hi : IntsAre its ns)
    (h : ∀ h' tk t', (∀ b o, s.heap.get? b = some o → h'.get? b = some o) → Q (.int ns.sum t') { s with heap := h', toks := tk }) : wpAny (model prog w) A (call (.builtin "sum") [.ref l]) Q E s := by
  refine call_sum_walkAnyS (PySem.W.iter_tupleW (A := A.in1) hh hl fun s₂ e W st hfp hw hk => ?_)
  refine ⟨_, _, _, _, _, _, _, fun i => ns.getD i 0, rfl, W, st, hfp, fun i v hv => ?_, fun s' t' m => ?_⟩
  · obtain ⟨n, t, rfl, hn⟩ := PyProof.Rows.IntsAre.at hi i v (by simpa using hv)
    exact ⟨t, by show Value.int n t = Value.int (ns.getD i 0) t; rw [List.getD_eq_getElem?_getD, hn]; rfl⟩
  · obtain ⟨h', tk, rfl, hk'⟩ := PySem.W.moved_old e rfl m
    have e1 : preSum (fun i => ns.getD i 0) its.toArray.size = ns.sum := by
      rw [preSum_getD, List.take_of_length_le (by simp [IntsAre.length hi])]
    rw [e1]
    exact h h' tk t' hk'
theorem c1_sum' {C : CloT} (hc : X.calm = true) : Call1 X C (.builtin "sum") sumL := by
  intro p r e pins s σ H xs us Q I rv ⟨x, ex, n, k⟩
  cases p with
  | lst ps => exact c1_sum hc (.lst ps) r e pins s σ H xs us Q I rv ⟨x, ex, n, k⟩
  | tup ps =>
    obtain ⟨ns, e1, e⟩ := ok_bind e
    cases e
    obtain ⟨a, ys, rfl, sq, rl⟩ := rep_tupS n
    have e2 : intsV ps = some ns := e1
    have ey := intsV_rep e2 rl
    subst ey
    obtain ⟨its, rv2, hl, _⟩ := I.tuple sq
    subst ex
    rw [Vals.ref1 rv]
    exact sum_tup (I.ok.hd hc) hl rv2.ints fun h' tk t' hk => ⟨.int _, H, I.kept hk, ⟨_, rfl⟩, k _ H (Grow.refl H) (rep_int.mpr rfl)⟩
  | _ => cases e
theorem n1_sum' : NoEx1 sumL := fun p c v => by
  cases p <;> first | exact ne_bind fun a => by simp only [ne_eq, reduceCtorEq, not_false_eq_true] | exact fun z => nomatch z
theorem c1_sorted' {C : CloT} (hu : X.A.units + 64 < cLine) : Call1F X C (.builtin "sorted") sortL := c1_sorted hu
theorem n1_sorted' : NoEx1 sortL := n1_sorted
theorem l1_grow {s : PSt} {σ : St} {H H' : Hp} {l : LV} {v : V} (g : Grow H H') (r : rL1 X B s σ H l v) : rL1 X B s σ H' l v := by
  cases l with
  | sh p => exact Rep.ext g.ext _ _ r
  | po p => exact r
  | ow p =>
    obtain ⟨a, e, o, n, lo⟩ := r
    obtain ⟨u, hu, _⟩ := o.get
    exact ⟨a, e, o.ext g.ext (by rw [g _ _ hu, hu]), n, lo⟩
/-- a, b = x, y by way of a tuple (a name that is captured) -/
theorem pxs_parC {i j : Nat} {x y : Str} {a b : Expr} {da db : M LV} {px py pt : Pos} {kt k2 : Nat} {pt2 : Pos} (hc : X.calm = true) (hN : X.N.Nodup) (hi : X.N[i]? = some x) (hj : X.N[j]? = some y)
    (hx : Loc X.env.scope x) (hy : Loc X.env.scope y) (ha : PXL X W B a da) (hb : ∀ H0, PXL X W (B.at H0) b db)
    (hw : swappedStores [.Tuple [.Name x px, .Name y py] kt pt] (.Tuple [a, b] k2 pt2) X.env = pure none := by rfl)
    (hs : swapsWithSole [.Tuple [.Name x px, .Name y py] kt pt] (.Tuple [a, b] k2 pt2) pos.line X.env = pure false := by rfl)
    (h1 : (assignEach [.Tuple [.Name x px, .Name y py] kt pt] X.env).map (·.2) = [assign (.Tuple [.Name x px, .Name y py] kt pt) X.env] := by rfl)
    (hs1 : starEach [a, b] X.env = (false, eval a X.env) :: starEach [b] X.env := by rfl) (hs2 : starEach [b] X.env = (false, eval b X.env) :: starEach [] X.env := by rfl)
    (hf : X.fn x = true ∨ X.env.scope.names.lookup x = some .local := by first | exact .inl rfl | exact .inr rfl | assumption) (hf2 : X.fn y = true ∨ X.env.scope.names.lookup y = some .local := by first | exact .inl rfl | exact .inr rfl | assumption)
    (ht : (assignEach [.Name x px, .Name y py] X.env).length = 2 := by rfl) (ht2 : (assignEach [.Name x px, .Name y py] X.env).findIdx? (·.1) = none := by rfl)
    (ht3 : (assignEach [.Name x px, .Name y py] X.env).map (·.2) = assign (.Name x px) X.env :: (assignEach [.Name y py] X.env).map (·.2) := by rfl) (ht4 : (assignEach [.Name y py] X.env).map (·.2) = assign (.Name y py) X.env :: (assignEach [] X.env).map (·.2) := by rfl) :
    PXS X W B (.Assign [.Tuple [.Name x px, .Name y py] kt pt] (.Tuple [a, b] k2 pt2) pos) (dPar i j da db) := by
  have hpa : PA X [a, b] (fun σ H Q => tR X W B (fun s σ H => rL1 X B s σ H) da σ H fun v H1 => ∃ H0 : Hp, tR X W (B.at H0) (fun s σ H => rL1 X (B.at H0) s σ H) db σ H1 fun w H2 => Q [v, w] H2) := by
    have hb' : PE X b (fun σ H Q => ∃ H0 : Hp, tR X W (B.at H0) (fun s σ H => rL1 X (B.at H0) s σ H) db σ H Q) := ⟨fun pins s σ H Q I ⟨H0, q⟩ => (hb H0).run pins s σ H Q I q⟩
    exact PA.weak (pa_cons ha (pa_cons hb' pa_nil hs2) hs1) fun σ H Q h => h
  refine PS.weak (ps_asg (pe_tup hpa) (pg_tup hc (pgs_cons (pg_name hN hi hx hf) (pgs_cons (pg_name hN hj hy hf2) pgs_nil ht4) ht3) ht ht2) hs hw h1) fun D σ H ⟨s, R, h⟩ => ?_
  refine par_read (Q := fun vs H1 => vs.length ≤ sizeLine ∧ ∀ p, H1 p = none → gTup X.K 2 (gCons (gName i) (gCons (gName j) gNil)) (.ref p) σ (upd H1 p (.tup vs)) D.nx) ⟨s, R, endR.bind (rep' := r2 X B) h fun l s1 vs H1 R1 x1 ⟨v, w, e, q1, q2, q3⟩ q => ?_⟩
  subst e
  refine ⟨(show 2 ≤ sizeLine by decide), fun p hp => ⟨p, [v, w], rfl, SqT.of upd_same, rfl, v, [w], rfl, w, [], rfl, rfl, ?_⟩⟩
  have gr : Grow H1 (upd H1 p (.tup [v, w])) := Grow.new hp
  have R2 := R1.grow gr.ext gr
  exact q _ _ (set_l1 (set_l1 R2 (l1_grow gr q1)) (l1_set R2 (l1_grow gr q2) q3)) gr.ext
end
theorem u1 {n : Nat} (h : n + 64 < cLine) : n + 1 < cLine := by omega
/-- the frame's own table, by the head's facts -/
theorem lamT_of {X : Cx} {x q : Str} {params : Arguments} {body : List Stmt} {scope : Scope} {p : Str × Option Str} {fd : FuncData} {cdv : Value} {T : List (Addr × Str)} (F : FunD X.K x q params body scope [] [] (He.fAd X.K p) fd) (hcode : fd.code = cdv) (hx : X.env.code = cdv)
    (TB : LamX.TabB X.base X.mg (He.cT X.K p).1 (He.cT X.K p).2) (hm : ((He.cT X.K p).2, X.env.qual ++ "<lambda>") ∈ T) (hu : ∀ r ∈ T, r.1 = (He.cT X.K p).2 → r.2 = X.env.qual ++ "<lambda>") : LamT X T := by
  obtain ⟨oc, od, dV, kV, doc, pm, an, cdv', ct, osl, e, lk, hcd, _, _⟩ := F.ex
  obtain ⟨c, ec⟩ := He.codeIn_ref hcd
  have e2 : fd.code = .ref c := by rw [e]; exact ec
  have e3 := He.codeOf_eq lk e2
  refine ⟨(He.cT X.K p).1, (He.cT X.K p).2, TB, ?_, hm, hu⟩
  rw [hx, ← hcode, e2]
  show Value.ref c = Value.ref (He.codeOf X.K p)
  rw [e3]
/-! ### lambdas in a text -/
def kidsE : Expr → List Expr
  | .Call f as _ _ => f :: as
  | .List es _ => es
  | .Tuple es _ _ => es
  | .Subscript a b _ => [a, b]
  | .BinOp a _ b _ => [a, b]
  | .Compare a _ bs _ => a :: bs
  | .UnaryOp _ a _ => [a]
  | .BoolOp _ es _ => es
  | .IfExp c a b _ => [c, a, b]
  | .Attribute e _ _ => [e]
  | .ListComp e _ _ _ => [e]
  | _ => []
def kidsS : Stmt → List Expr
  | .Assign _ v _ => [v]
  | .Expr v _ => [v]
  | .Return (some v) _ => [v]
  | .If c _ _ _ => [c]
  | .While c _ _ _ => [c]
  | .For _ i _ _ _ => [i]
  | _ => []
def subS : Stmt → List Stmt
  | .If _ a b _ => a ++ b
  | .For _ _ b _ _ => b
  | .While _ b _ _ => b
  | _ => []
def getE : Expr → List Nat → Expr
  | e, [] => e
  | e, n :: ns => match (kidsE e)[n]? with
    | some k => getE k ns
    | none => e
def getS : List Stmt → List Nat → List Nat → Expr
  | b, [], _ => .Constant .none 0 ⟨0, 0, 0, 0⟩
  | b, [n], p => match b[n]? with
    | some st => (match p with
      | [] => .Constant .none 0 ⟨0, 0, 0, 0⟩
      | m :: ms => match (kidsS st)[m]? with
        | some e => getE e ms
        | none => .Constant .none 0 ⟨0, 0, 0, 0⟩)
    | none => .Constant .none 0 ⟨0, 0, 0, 0⟩
  | b, n :: ns, p => match b[n]? with
    | some st => getS (subS st) ns p
    | none => .Constant .none 0 ⟨0, 0, 0, 0⟩
def lamOf : Expr → Arguments × Expr × Scope
  | .Lambda a b s _ => (a, b, s)
  | e => (⟨[], [], none, [], [], none, []⟩, e, ⟨.function, [], false, false, []⟩)
def LamsL {α : Type} (P : Nat → α → Prop) : Nat → List α → Prop
  | _, [] => True
  | n, l :: ls => P n l ∧ LamsL P (n + 1) ls
theorem lamsL_all {α : Type} {P : Nat → α → Prop} : ∀ {L : List α} {k : Nat}, LamsL P k L → ∀ (n : Nat) (l : α), L[n]? = some l → P (k + n) l
  | [], _, _, _, _, e => by simp at e
  | l :: ls, k, h, 0, m, e => by
    simp only [List.getElem?_cons_zero, Option.some.injEq] at e
    subst e
    exact h.1
  | l :: ls, k, h, n + 1, m, e => by
    rw [List.getElem?_cons_succ] at e
    have := lamsL_all h.2 n m e
    rwa [show k + (n + 1) = k + 1 + n by omega]
end VL
set_option Elab.async false
set_option linter.all false
set_option maxRecDepth 100000
set_option maxHeartbeats 1000000
/-! VL27: the meanings run by simp: each piece at a state; a piece behind another is not looked at before its time. -/
namespace VL
set_option autoImplicit false
open PySem PySem.Spec PyProof.Rows L2
/-- a piece and what comes behind it: simp looks at the piece alone (what comes behind is fixed by the type of u) -/
def Aft {α β : Type} (f : α → Res β) : Type := Unit
def Res.bnd {α β : Type} (r : Res α) (f : α → Res β) (u : Aft f) : Res β := r.bind f
def aft {α β : Type} (f : α → Res β) : Aft f := ()
@[simp ↓] theorem Res.bind_b {α β : Type} {r : Res α} {f : α → Res β} : r.bind f = r.bnd f (aft f) := (rfl)
@[simp] theorem Res.bnd_ok {α β : Type} {a : α} {f : α → Res β} {u : Aft f} : (Res.ok a).bnd f u = f a := (rfl)
@[simp] theorem Res.bnd_exc {α β : Type} {c : Str} {p : PV} {f : α → Res β} {u : Aft f} : (Res.exc c p : Res α).bnd f u = .exc c p := (rfl)
@[simp] theorem Res.bnd_bad {α β : Type} {f : α → Res β} {u : Aft f} : (Res.bad : Res α).bnd f u = .bad := (rfl)
/-- a size that a list may have -/
def fitN (n : Nat) : Bool := fitsL n
theorem fitN_of {n : Nat} (h : n ≤ 16777216) : fitN n = true := Nat.ble_eq_true_of_le h
/-- an end that a range may have -/
def rOk : Int → Bool
  | .ofNat n => Nat.ble n 4611686018427387903
  | .negSucc n => Nat.ble n 4611686018427387903
theorem rOk_eq (j : Int) : (decide (-(2 ^ 62) ≤ j) && decide (j < 2 ^ 62)) = rOk j := by
  rw [show (2 : Int) ^ 62 = 4611686018427387904 from by decide +kernel]
  cases j with
  | ofNat n =>
    show (decide (-4611686018427387904 ≤ ((n : Nat) : Int)) && decide (((n : Nat) : Int) < 4611686018427387904)) = Nat.ble n 4611686018427387903
    rw [Bool.eq_iff_iff, Bool.and_eq_true, decide_eq_true_eq, decide_eq_true_eq, Nat.ble_eq]
    omega
  | negSucc n =>
    show _ = Nat.ble n 4611686018427387903
    rw [Bool.eq_iff_iff, Bool.and_eq_true, decide_eq_true_eq, decide_eq_true_eq, Nat.ble_eq]
    omega
theorem rOk_of {j : Int} (h0 : -1000000 ≤ j) (h1 : j ≤ 1000000) : rOk j = true := by
  cases j with
  | ofNat n => exact Nat.ble_eq_true_of_le (by have : ((n : Nat) : Int) ≤ 1000000 := h1; omega)
  | negSucc n => exact Nat.ble_eq_true_of_le (by omega)
section
variable {s : PSt} {a b c : M PV} {p q : PV} {i : Nat}
@[simp] theorem e_C : dC p s = .ok (p, s) := (rfl)
@[simp] theorem e_Bad {α : Type} : (dBad : M α) s = .bad := (rfl)
@[simp] theorem e_Nx : dNx s = .ok (.nx, s) := (rfl)
@[simp] theorem e_Bk : dBk s = .ok (.bk, s) := (rfl)
@[simp] theorem e_Ct : dCt s = .ok (.ct, s) := (rfl)
@[simp] theorem e_Yes : dYes s = .ok (true, s) := (rfl)
@[simp] theorem e_Nil : dNil s = .ok ([], s) := (rfl)
@[simp] theorem e_No : dNo s = .ok (none, s) := (rfl)
@[simp] theorem e_Emp : dEmp s = .ok (.dct [] [], s) := (rfl)
@[simp] theorem e_RetN : dRetN s = .ok (.rt .non, s) := (rfl)
@[simp] theorem e_Lam {n : Nat} : dLam n s = .ok (.clo n, s) := (rfl)
@[simp] theorem e_Var : dVar i s = (match s[i]? with
  | some (some (.sh p)) => .ok (p, s)
  | some (some (.ow p)) => .ok (p, s.set i (some (.sh p)))
  | _ => .bad) := (rfl)
@[simp] theorem e_Slot : dSlot i s = (match s[i]? with
  | some (some _) => .ok (.slot i, s)
  | _ => .bad) := (rfl)
@[simp] theorem e_Bin {g : PV → PV → Res PV} : dBin g a b s = (a s).bind fun x => (b x.2).bind fun y => (g x.1 y.1).bind fun r => .ok (r, y.2) := (rfl)
@[simp] theorem e_IsT {t : Ty} : dIsT t a s = (a s).bind fun x => (optR (isTy t x.1)).bind fun b => .ok (.bl b, x.2) := (rfl)
@[simp] theorem e_Val : dVal a s = (a s).bind fun x => .ok (.val x.1, x.2) := (rfl)
@[simp] theorem e_Tru {d : M Src} : dTru d s = (d s).bind fun x => (optR ((x.1.get x.2).bind truthV)).bind fun b => .ok (b, x.2) := (rfl)
@[simp] theorem e_Tst : dTst a s = (a s).bind fun x => (match x.1 with
  | .bl b => .ok (b, x.2)
  | _ => .bad) := (rfl)
@[simp] theorem e_Bl {d : M Bool} : dBl d s = (d s).bind fun x => .ok (.bl x.1, x.2) := (rfl)
@[simp] theorem e_And {d e : M Bool} : dAnd d e s = (d s).bind fun x => if x.1 then e x.2 else .ok (false, x.2) := (rfl)
@[simp] theorem e_Or {d e : M Bool} : dOr d e s = (d s).bind fun x => if x.1 then .ok (true, x.2) else e x.2 := (rfl)
@[simp] theorem e_Not {d : M Bool} : dNot d s = (d s).bind fun x => .ok (!x.1, x.2) := (rfl)
@[simp] theorem e_IfE {α : Type} {d : M Bool} {e f : M α} : dIfE d e f s = (d s).bind fun x => if x.1 then e x.2 else f x.2 := (rfl)
@[simp] theorem e_AndV : dAndV a b s = (a s).bind fun x => (match x.1 with
  | .bl k => if k then b x.2 else .ok (.bl false, x.2)
  | _ => .bad) := by
  unfold dAndV
  congr 1
@[simp] theorem e_OrV : dOrV a b s = (a s).bind fun x => (match x.1 with
  | .bl k => if k then .ok (.bl true, x.2) else b x.2
  | _ => .bad) := by
  unfold dOrV
  congr 1
@[simp] theorem e_Neg : dNeg a s = (a s).bind fun x => (match x.1 with
  | .int i => .ok (.int (-i), x.2)
  | _ => .bad) := by
  unfold dNeg
  congr 1
@[simp] theorem e_Chain {g g' : PV → PV → Res PV} : dChain g g' a b c s = (a s).bind fun x => (b x.2).bind fun y => (g x.1 y.1).bind fun r => (match r with
  | .bl k => if k then (c y.2).bind fun z => (g' y.1 z.1).bind fun r => .ok (r, z.2) else .ok (.bl false, y.2)
  | _ => .bad) := (rfl)
@[simp] theorem e_Cons {r : M (List PV)} : dCons a r s = (a s).bind fun x => (r x.2).bind fun y => .ok (x.1 :: y.1, y.2) := (rfl)
@[simp] theorem e_Tup {r : M (List PV)} : dTup r s = (r s).bind fun x => if fitN x.1.length then .ok (.tup x.1, x.2) else .bad := (rfl)
@[simp] theorem e_Lst {r : M (List PV)} : dLst r s = (r s).bind fun x => if fitN x.1.length then .ok (.lst x.1, x.2) else .bad := (rfl)
@[simp] theorem e_Part : dPart a s = (a s).bind fun x => (match x.1 with
  | .int i => .ok (some i, x.2)
  | _ => .bad) := (rfl)
@[simp] theorem e_Cut {d : M Src} {l h : M (Option Int)} : dCut d l h s = (d s).bind fun x => (l x.2).bind fun y => (h y.2).bind fun z => (optR (x.1.get z.2)).bind fun p => (cutR p y.1 z.1).bind fun r => .ok (r, z.2) := (rfl)
@[simp] theorem e_C1 {g : PV → Res PV} {d : M Src} : dC1 g d s = (d s).bind fun x => (optR (x.1.get x.2)).bind fun p => (g p).bind fun r => .ok (r, x.2) := (rfl)
@[simp] theorem e_C1F {g : PV → Res (List PV)} {d : M Src} : dC1F g d s = (d s).bind fun x => (optR (x.1.get x.2)).bind fun p => (g p).bind fun r => .ok (.lst r, x.2) := (rfl)
@[simp] theorem e_Walk : dWalk a s = (a s).bind fun x => (optR (walkV x.1)).bind fun ps => .ok (ps, x.2) := (rfl)
@[simp] theorem e_Range1 : dRange1 a s = (a s).bind fun x => (match x.1 with
  | .int j => if rOk j then .ok (rangeL 0 j.toNat, x.2) else .bad
  | _ => .bad) := by
  unfold dRange1
  simp only [rOk_eq]
  try rfl
@[simp] theorem e_Range2 : dRange2 a b s = (a s).bind fun x => (b x.2).bind fun y => (match x.1, y.1 with
  | .int i, .int j => if rOk i && rOk j then .ok (rangeL i (j - i).toNat, y.2) else .bad
  | _, _ => .bad) := by
  unfold dRange2
  simp only [rOk_eq]
  try rfl
@[simp] theorem e_Enum : dEnum a s = (a s).bind fun x => (optR (itemsV x.1)).bind fun ps => .ok (enumL 0 ps, x.2) := (rfl)
@[simp] theorem e_Zip : dZip a b s = (a s).bind fun x => (b x.2).bind fun y => (optR (itemsV x.1)).bind fun ps => (optR (itemsV y.1)).bind fun qs => .ok (zipL ps qs, y.2) := (rfl)
@[simp] theorem e_Vals : dVals a s = (a s).bind fun x => (match x.1 with
  | .dct _ ps => .ok (ps, x.2)
  | _ => .bad) := (rfl)
@[simp] theorem e_Keys : dKeys a s = (a s).bind fun x => (match x.1 with
  | .dct ks _ => .ok (ks.map keyP, x.2)
  | _ => .bad) := (rfl)
@[simp] theorem e_Items : dItems a s = (a s).bind fun x => (match x.1 with
  | .dct ks ps => .ok (zipL (ks.map keyP) ps, x.2)
  | _ => .bad) := (rfl)
@[simp] theorem e_Seq {d e : M Fl} : dSeq d e s = (d s).bind fun x => (match x.1 with
  | .nx => e x.2
  | .rt p => .ok (.rt p, x.2)
  | .rf p => .ok (.rf p, x.2)
  | .bk => .ok (.bk, x.2)
  | .ct => .ok (.ct, x.2)) := (rfl)
@[simp] theorem e_Expr : dExpr a s = (a s).bind fun x => .ok (.nx, x.2) := (rfl)
@[simp] theorem e_Ret : dRet a s = (a s).bind fun x => .ok (.rt x.1, x.2) := (rfl)
@[simp] theorem e_RetF : dRetF a s = (a s).bind fun x => .ok (.rf x.1, x.2) := (rfl)
@[simp] theorem e_If {d : M Bool} {e f : M Fl} : dIf d e f s = (d s).bind fun x => if x.1 then e x.2 else f x.2 := (rfl)
@[simp] theorem e_Asg {g : PV → PSt → Res PSt} : dAsg g a s = (a s).bind fun x => (g x.1 x.2).bind fun s => .ok (.nx, s) := (rfl)
@[simp] theorem e_gNm : gNm i p s = .ok (s.set i (some (.sh p))) := (rfl)
@[simp] theorem e_gNl : gNl [] s = .ok s := (rfl)
@[simp] theorem e_gCs {g : PV → PSt → Res PSt} {gs : List PV → PSt → Res PSt} {ps : List PV} : gCs g gs (p :: ps) s = (g p s).bind fun s => gs ps s := (rfl)
@[simp] theorem e_gTp {n : Nat} {gs : List PV → PSt → Res PSt} {ps : List PV} : gTp n gs (.tup ps) s = if ps.length == n then gs ps s else .bad := (rfl)
@[simp] theorem e_Own : dOwn i a s = (a s).bind fun x => .ok (.nx, x.2.set i (some (.ow x.1))) := (rfl)
@[simp] theorem e_Sh : dSh a s = (a s).bind fun x => .ok (.sh x.1, x.2) := (rfl)
@[simp] theorem e_Fr : dFr a s = (a s).bind fun x => .ok (.ow x.1, x.2) := (rfl)
@[simp] theorem e_Par {j : Nat} {d e : M LV} : dPar i j d e s = (d s).bind fun x => (e x.2).bind fun y => .ok (.nx, (y.2.set i (some x.1)).set j (some y.1)) := by
  unfold dPar d2
  cases d s with
  | ok x =>
    obtain ⟨p, s1⟩ := x
    simp only [Res.bind_ok]
    cases e s1 <;> rfl
  | _ => rfl
@[simp] theorem e_For {it : M (List PV)} {g : PV → PSt → Res PSt} {d : M Fl} : dFor it g d s = (it s).bind fun x => dForL g d x.1 x.2 := (rfl)
@[simp] theorem e_asSh {d : M LV} : asSh d s = (d s).bind fun x => (match x.1 with
  | .sh p => .ok (p, x.2)
  | _ => .bad) := (rfl)
@[simp] theorem e_asOw {d : M LV} : asOw d s = (d s).bind fun x => (match x.1 with
  | .ow p => .ok (p, x.2)
  | _ => .bad) := (rfl)
@[simp] theorem e_Call {n : Nat} {F : Fn} {d : M (List PV)} : dCall n F d s = (d s).bind fun x => if x.1.length == n then (F [] x.1).bind fun y => .ok (y.1, x.2) else .bad := (rfl)
@[simp] theorem e_CallI {n : Nat} {F : Fn} {d : M (List PV)} : dCallI i n F d s = (optR (owA s i)).bind fun _ => (d s).bind fun x => if x.1.length + 1 == n then (match x.2[i]? with
  | some (some (.ow (.lst q))) => (F q x.1).bind fun y => .ok (y.1, x.2.set i (some (.ow (.lst y.2))))
  | some (some (.po (.lst q))) => (F q x.1).bind fun y => .ok (y.1, x.2.set i (some (.po (.lst y.2))))
  | _ => .bad) else .bad := (rfl)
@[simp] theorem e_Raise {cc : Str} : dRaise cc a s = (a s).bind fun x => .exc cc x.1 := (rfl)
@[simp] theorem e_Get {d : M Src} : dGet d b s = (d s).bind fun x => (b x.2).bind fun y => (optR (x.1.get y.2)).bind fun p => (match p with
  | .dct ks ps => (optR (keyV y.1)).bind fun k => (optR (getK k ks ps)).bind fun r => .ok (r, y.2)
  | p => (ixV p y.1).bind fun r => .ok (r, y.2)) := (rfl)
@[simp] theorem e_App : dApp i a s = (optR (owL s i)).bind fun _ => (a s).bind fun x => (optR (owL x.2 i)).bind fun ps => if fitN (ps.length + 1) then .ok (.non, x.2.set i (some (.ow (.lst (ps ++ [x.1]))))) else .bad := (rfl)
@[simp] theorem e_Ext : dExt i a s = (optR (owL s i)).bind fun _ => (a s).bind fun x => (optR (owL x.2 i)).bind fun ps => (match x.1 with
  | .lst qs => if fitN (ps.length + qs.length) then .ok (.non, x.2.set i (some (.ow (.lst (ps ++ qs))))) else .bad
  | _ => .bad) := (rfl)
@[simp] theorem e_2i {f : Int → Int → Int} : d2i f a b s = (a s).bind fun x => (b x.2).bind fun y => (match x.1, y.1 with
  | .int i, .int j => .ok (.int (f i j), y.2)
  | _, _ => .bad) := (rfl)
@[simp] theorem e_ListRange : dListRange a s = (a s).bind fun x => (match x.1 with
  | .int j => if decide (0 ≤ j) && Nat.ble j.toNat 16777216 then .ok (.lst (rangeL 0 j.toNat), x.2) else .bad
  | _ => .bad) := (rfl)
@[simp] theorem e_SortV : dSortV a s = (a s).bind fun x => (match x.1 with
  | .dct _ ps => if allInt ps && sortOk ps then .ok (.lst (ps.mergeSort leB), x.2) else .bad
  | _ => .bad) := (rfl)
@[simp] theorem e_Lc {vs : List Nat} {it : M (List PV)} {g : PV → PSt → Res PSt} {t : M Bool} : dLc vs it g t a s = (it s).bind fun x => (dLcL vs g t a x.1 [] (wipeP x.2 vs)).bind fun y => .ok (.lst y.1, backP x.2 y.2 vs) := (rfl)
@[simp] theorem e_Src {n : Nat} : (Src.slot n).get s = slotP s[n]? := (rfl)
@[simp] theorem e_Srv : (Src.val p).get s = some p := (rfl)
@[simp] theorem e_slotS : slotP (some (some (.sh p))) = some p := (rfl)
@[simp] theorem e_slotO : slotP (some (some (.ow p))) = some p := (rfl)
@[simp] theorem e_slotP : slotP (some (some (.po p))) = some p := (rfl)
@[simp] theorem e_Setd : dSetd i a b s = (optR (owD s i)).bind fun _ => (a s).bind fun x => (b x.2).bind fun y => (optR (owD y.2 i)).bind fun z => (optR (keyV x.1)).bind fun k =>
  if fitN (z.1.length + 1) then (match getK k z.1 z.2 with
    | some r => .ok (r, y.2)
    | none => .ok (y.1, y.2.set i (some (.ow (.dct (putP k y.1 z.1 z.2).1 (putP k y.1 z.1 z.2).2))))) else .bad := (rfl)
@[simp] theorem e_Put : dPut i a b s = (optR (owA s i)).bind fun _ => (b s).bind fun x => (a x.2).bind fun y => (match y.2[i]? with
  | some (some (.ow (.lst ps))) => (match y.1 with
    | .int j => (optR (ixN ps.length j)).bind fun n => .ok (.nx, y.2.set i (some (.ow (.lst (ps.set n x.1)))))
    | _ => .bad)
  | some (some (.po (.lst ps))) => (match y.1 with
    | .int j => (optR (ixN ps.length j)).bind fun n => .ok (.nx, y.2.set i (some (.po (.lst (ps.set n x.1)))))
    | _ => .bad)
  | some (some (.ow (.dct ks ps))) => (optR (keyV y.1)).bind fun k => if fitN (ks.length + 1) then .ok (.nx, y.2.set i (some (.ow (.dct (putP k x.1 ks ps).1 (putP k x.1 ks ps).2)))) else .bad
  | _ => .bad) := (rfl)
section
variable {x y : Int} {ps qs : List PV} {ks : List Key} {k : Bool}
@[simp] theorem v_add : addV (.int x) (.int y) = .ok (.int (x + y)) := (rfl)
@[simp] theorem v_sub : subV (.int x) (.int y) = .ok (.int (x - y)) := (rfl)
theorem v_mod (h : 0 < y) : modV (.int x) (.int y) = .ok (.int (x % y)) := if_pos (decide_eq_true h)
@[simp] theorem v_lt : ltV (.int x) (.int y) = .ok (.bl (decide (x < y))) := (rfl)
@[simp] theorem v_gt : gtV (.int x) (.int y) = .ok (.bl (decide (y < x))) := (rfl)
@[simp] theorem v_le : leV (.int x) (.int y) = .ok (.bl (decide (x ≤ y))) := (rfl)
@[simp] theorem v_ge : geV (.int x) (.int y) = .ok (.bl (decide (y ≤ x))) := (rfl)
@[simp] theorem v_int : intV (.int x) = .ok (.int x) := (rfl)
@[simp] theorem v_intb : intV (.bl k) = .ok (.int (if k then 1 else 0)) := (rfl)
@[simp] theorem v_lenT : lenV (.tup ps) = .ok (.int ps.length) := (rfl)
@[simp] theorem v_lenL : lenV (.lst ps) = .ok (.int ps.length) := (rfl)
@[simp] theorem v_ixT : ixV (.tup ps) (.int x) = optR (atI ps x) := (rfl)
@[simp] theorem v_ixL : ixV (.lst ps) (.int x) = optR (atI ps x) := (rfl)
@[simp] theorem v_key : keyV (.int x) = some (.inl x) := (rfl)
@[simp] theorem v_tupT : tupleV (.tup ps) = .ok (.tup ps) := (rfl)
@[simp] theorem v_tupL : tupleV (.lst ps) = .ok (.tup ps) := (rfl)
@[simp] theorem v_truB : truthV (.bl k) = some k := (rfl)
@[simp] theorem v_walkT : walkV (.tup ps) = some ps := (rfl)
@[simp] theorem v_walkL : walkV (.lst ps) = some ps := (rfl)
@[simp] theorem v_itT : itemsV (.tup ps) = some ps := (rfl)
@[simp] theorem v_itL : itemsV (.lst ps) = some ps := (rfl)
@[simp] theorem v_owD {s : PSt} : (match (some (some (LV.ow (.dct ks ps))) : Option (Option LV)) with
  | some (some (.ow (.dct ks ps))) => some (ks, ps)
  | _ => none) = some (ks, ps) := (rfl)
end
theorem v_mul {x y : Int} (h0 : -1000000 ≤ x) (h1 : x ≤ 1000000) : mulV (.int x) (.int y) = .ok (.int (x * y)) := by
  have a : -(2 ^ 64) < x := Int.lt_of_lt_of_le (by decide) h0
  have b : x < 2 ^ 64 := Int.lt_of_le_of_lt h1 (by decide)
  refine if_pos ?_
  unfold mulOk
  rw [decide_eq_true a, decide_eq_true b]
  rfl
theorem v_mulr {x y : Int} (h0 : -1000000 ≤ y) (h1 : y ≤ 1000000) : mulV (.int x) (.int y) = .ok (.int (x * y)) := by
  have a : -(2 ^ 64) < y := Int.lt_of_lt_of_le (by decide) h0
  have b : y < 2 ^ 64 := Int.lt_of_le_of_lt h1 (by decide)
  refine if_pos ?_
  unfold mulOk
  rw [decide_eq_true a, decide_eq_true b, Bool.and_self, Bool.or_true]
theorem s_run {n : Nat} {l : Option LV} {s : PSt} : (l :: s).length = s.length + 1 := (rfl)
end
end VL
/-! VL28: what all laws have alike: the pot, its draws. -/
namespace VL
set_option autoImplicit false
open PySem PySem.Spec PyProof.Rows L2
def Wp {α : Type} (r : Res α) (Q : α → Prop) : Prop := ∃ a, r = .ok a ∧ Q a
theorem Wp.ok {α : Type} {a : α} {Q : α → Prop} (h : Q a) : Wp (.ok a) Q := ⟨a, rfl, h⟩
theorem Wp.of {α : Type} {r : Res α} {a : α} {Q : α → Prop} (e : r = .ok a) (h : Q a) : Wp r Q := ⟨a, e, h⟩
theorem Wp.bind {α β : Type} {r : Res α} {f : α → Res β} {P : α → Prop} {Q : β → Prop} (h : Wp r P) (k : ∀ a, P a → Wp (f a) Q) : Wp (r.bind f) Q := by
  obtain ⟨a, rfl, h⟩ := h
  exact k a h
theorem Wp.mono {α : Type} {r : Res α} {P Q : α → Prop} (h : Wp r P) (k : ∀ a, P a → Q a) : Wp r Q := by
  obtain ⟨a, e, h⟩ := h
  exact ⟨a, e, k a h⟩
theorem fn_run {io : Bool} {N : Nat} {db : M Fl} {q ps : List PV} {r : Res (LV × List PV)} (h : fnRes io (db (startP io N q ps)) = r) : dFn io N db q ps = r := h
theorem fn_rt {N : Nat} {db : M Fl} {q ps : List PV} {p : PV} {s' : PSt} (h : db (startP false N q ps) = .ok (.rt p, s')) : dFn false N db q ps = .ok (.sh p, []) := by
  unfold dFn
  rw [h]; rfl
theorem fn_nx {N : Nat} {db : M Fl} {q ps : List PV} {s' : PSt} (h : db (startP false N q ps) = .ok (.nx, s')) : dFn false N db q ps = .ok (.sh .non, []) := by
  unfold dFn
  rw [h]; rfl
theorem fn_exc {io : Bool} {N : Nat} {db : M Fl} {q ps : List PV} {c : Str} {p : PV} (h : db (startP io N q ps) = .exc c p) : dFn io N db q ps = .exc c p := by
  unfold dFn
  rw [h]; rfl
theorem fn_io {N : Nat} {db : M Fl} {q ps q' : List PV} {p : PV} {s' : PSt} (h : db (startP true N q ps) = .ok (.rt p, s')) (h0 : s'[0]? = some (some (.po (.lst q')))) : dFn true N db q ps = .ok (.sh p, q') := by
  unfold dFn
  rw [h]
  show potOut true s' (.sh p) = _
  unfold potOut
  rw [if_pos rfl, h0]
/-- a pot of which not more than k were drawn by mixing -/
def Pot (k : Nat) (q : List PV) : Prop := ∃ a b c : Int, q = [.int a, .int b, .int c] ∧ 0 ≤ a ∧ (0 ≤ b ∧ b < 4611686018427387904) ∧ 0 ≤ c ∧ c ≤ k
theorem Pot.mono {k j : Nat} {q : List PV} (h : Pot k q) (hk : k ≤ j) : Pot j q := by
  obtain ⟨a, b, c, e, ha, hb, hc, hk'⟩ := h
  exact ⟨a, b, c, e, ha, hb, hc, by omega⟩
def dTake (c1 c2 c3 c4 m c5 : Int) : M Fl := (dSeq (dIf (dTst (dBin gtV (dGet (dSlot 0) (dC (.int 0))) (dC (.int 0)))) (dSeq (dAsg (gNm 2) (dBin modV (dC1 intV (dVal (dGet (dSlot 0) (dC (.int 0))))) (dVar 1)))
  (dSeq (dPut 0 (dC (.int 0)) (dBin fdivV (dGet (dSlot 0) (dC (.int 0))) (dVar 1)))
  (dRet (dVar 2)))) dNx)
  (dSeq (dPut 0 (dC (.int 2)) (dBin addV (dGet (dSlot 0) (dC (.int 2))) (dC (.int 1))))
  (dSeq (dAsg (gNm 3) (dGet (dVal (dLst (dCons (dC (.int 2147483647)) (dCons (dC (.int 2147483629)) (dCons (dC (.int 2147483587)) (dCons (dC (.int 2147483579)) (dCons (dC (.int 2147483563)) dNil))))))) (dBin modV (dC1 intV (dVal (dGet (dSlot 0) (dC (.int 2))))) (dC (.int 5)))))
  (dSeq (dAsg (gNm 4) (dBin modV (dC1 intV (dVal (dBin powV (dC1 intV (dVal (dBin addV (dBin addV (dGet (dSlot 0) (dC (.int 1))) (dBin mulV (dBin mulV (dC (.int c1)) (dGet (dSlot 0) (dC (.int 2)))) (dGet (dSlot 0) (dC (.int 2))))) (dC (.int c2))))) (dC (.int 3))))) (dVar 3)))
  (dSeq (dAsg (gNm 4) (dBin modV (dC1 intV (dVal (dBin mulV (dVar 4) (dBin addV (dBin modV (dC1 intV (dSlot 4)) (dC (.int c3))) (dBin mulV (dC (.int c4)) (dGet (dSlot 0) (dC (.int 2)))))))) (dC (.int m))))
  (dRet (dBin modV (dC1 intV (dVal (dBin fdivV (dVar 4) (dC (.int c5))))) (dVar 1))))))))
theorem atI3_0 {p q r : PV} : atI [p, q, r] (0 : Int) = some p := atI_nat (j := 0) rfl
theorem atI3_1 {p q r : PV} : atI [p, q, r] (1 : Int) = some q := atI_nat (j := 1) rfl
theorem atI3_2 {p q r : PV} : atI [p, q, r] (2 : Int) = some r := atI_nat (j := 2) rfl
theorem ixN3_0 : ixN 3 (0 : Int) = some 0 := rfl
theorem ixN3_2 : ixN 3 (2 : Int) = some 2 := rfl
theorem v_fdiv {x y : Int} (h : 0 < y) (h1 : y < 1073741824) : fdivV (.int x) (.int y) = .ok (.int (x / y)) := by
  refine if_pos ?_
  rw [decide_eq_true h, decide_eq_true h1]; rfl
theorem v_pow3 {x : Int} (h0 : 0 ≤ x) (h1 : x < 2 ^ 64) : powV (.int x) (.int 3) = .ok (.int (x ^ 3)) := by
  have hb : Builtin.Int.intBits x ≤ 64 := by
    unfold Builtin.Int.intBits
    split
    · omega
    · rename_i hx
      have hx0 : x ≠ 0 := by simpa using hx
      have : x.natAbs < 2 ^ 64 := by omega
      have := (Nat.log2_lt (n := x.natAbs) (k := 64) (by omega)).mpr this
      omega
  refine if_pos ?_
  simp
  omega
theorem v_mulg {x y : Int} (h : (-18446744073709551616 < x ∧ x < 18446744073709551616) ∨ (-18446744073709551616 < y ∧ y < 18446744073709551616)) : mulV (.int x) (.int y) = .ok (.int (x * y)) := by
  refine if_pos ?_
  unfold mulOk
  simp only [Bool.or_eq_true, Bool.and_eq_true, decide_eq_true_eq]
  omega
theorem prime5 (c : Int) : ∃ p : Int, atI [PV.int 2147483647, .int 2147483629, .int 2147483587, .int 2147483579, .int 2147483563] (c % 5) = some (.int p) ∧ 0 < p ∧ p < 2147483648 := by
  have h0 := Int.emod_nonneg c (show (5 : Int) ≠ 0 by decide)
  have h1 := Int.emod_lt_of_pos c (show (0 : Int) < 5 by decide)
  have h : c % 5 = ((0 : Nat) : Int) ∨ c % 5 = ((1 : Nat) : Int) ∨ c % 5 = ((2 : Nat) : Int) ∨ c % 5 = ((3 : Nat) : Int) ∨ c % 5 = ((4 : Nat) : Int) := by omega
  rcases h with h | h | h | h | h <;> rw [h]
  · exact ⟨_, atI_nat rfl, by decide, by decide⟩
  · exact ⟨_, atI_nat rfl, by decide, by decide⟩
  · exact ⟨_, atI_nat rfl, by decide, by decide⟩
  · exact ⟨_, atI_nat rfl, by decide, by decide⟩
  · exact ⟨_, atI_nat rfl, by decide, by decide⟩
structure TakeC (c1 c2 c3 c4 m c5 : Int) : Prop where
  h1 : 0 ≤ c1 ∧ c1 ≤ 1000000
  h2 : 0 ≤ c2 ∧ c2 ≤ 1000000
  h3 : 0 < c3
  h4 : 0 ≤ c4 ∧ c4 ≤ 1000000
  hm : 0 < m
  h5 : 0 < c5 ∧ c5 < 1073741824
theorem take_ok {c1 c2 c3 c4 m c5 : Int} (C : TakeC c1 c2 c3 c4 m c5) {k : Nat} (hk : k ≤ 999999) {q : List PV} (h : Pot k q) {u : Int} (hu : 0 < u) (hu1 : u < 1073741824) :
    ∃ (d : Int) (q' : List PV), dFn true 5 (dTake c1 c2 c3 c4 m c5) q [.int u] = .ok (.sh (.int d), q') ∧ (0 ≤ d ∧ d < u) ∧ Pot (k + 1) q' := by
  obtain ⟨a, b, c, rfl, ha, hb, hc, hck⟩ := h
  have hb0 := hb.1
  have hb1 := hb.2
  by_cases h : 0 < a
  · refine ⟨a % u, [.int (a / u), .int b, .int c], ?_, ⟨Int.emod_nonneg _ (by omega), Int.emod_lt_of_pos _ hu⟩, a / u, b, c, rfl, Int.ediv_nonneg ha (by omega), hb, hc, by omega⟩
    apply fn_run
    simp [dTake, startP, atI3_0, h, v_mod hu, v_fdiv hu hu1, owA, ixN3_0, fnRes, potOut]
  · obtain ⟨p, hp, hp0, hp1⟩ := prime5 (c + 1)
    have m1 : mulV (.int c1) (.int (c + 1)) = .ok (.int (c1 * (c + 1))) := v_mulg (.inl (by have := C.h1; omega))
    have m2 : mulV (.int (c1 * (c + 1))) (.int (c + 1)) = .ok (.int (c1 * (c + 1) * (c + 1))) := v_mulg (.inr (by omega))
    have b1 : 0 ≤ c1 * (c + 1) := Int.mul_nonneg C.h1.1 (by omega)
    have b2 : c1 * (c + 1) ≤ 1000000 * 1000000 := Int.mul_le_mul C.h1.2 (by omega) (by omega) (by decide)
    have b3 : 0 ≤ c1 * (c + 1) * (c + 1) := Int.mul_nonneg b1 (by omega)
    have b4 : c1 * (c + 1) * (c + 1) ≤ 1000000 * 1000000 * 1000000 := Int.mul_le_mul b2 (by omega) (by omega) (by decide)
    have pw := v_pow3 (x := b + c1 * (c + 1) * (c + 1) + c2) (by have := C.h2; omega) (by have := C.h2; omega)
    have e1 := Int.emod_nonneg ((b + c1 * (c + 1) * (c + 1) + c2) ^ 3) (show p ≠ 0 by omega)
    have e2 := Int.emod_lt_of_pos ((b + c1 * (c + 1) * (c + 1) + c2) ^ 3) hp0
    generalize hbl : (b + c1 * (c + 1) * (c + 1) + c2) ^ 3 = bl at pw e1 e2
    have m3 : mulV (.int c4) (.int (c + 1)) = .ok (.int (c4 * (c + 1))) := v_mulg (.inl (by have := C.h4; omega))
    have m4 : ∀ z, mulV (.int (bl % p)) (.int z) = .ok (.int (bl % p * z)) := fun z => v_mulg (.inl (by omega))
    refine ⟨(bl % p * (bl % p % c3 + c4 * (c + 1)) % m / c5) % u, [.int a, .int b, .int (c + 1)], ?_, ⟨Int.emod_nonneg _ (show u ≠ 0 by omega), Int.emod_lt_of_pos _ hu⟩, a, b, c + 1, rfl, ha, hb, by omega, by omega⟩
    apply fn_run
    have hn : ¬ 0 < a := h
    simp [dTake, startP, atI3_0, atI3_1, atI3_2, hn, owA, ixN3_2, fitN_of, v_mod, hp, m1, m2, pw, hp0, C.h3, m3, m4, C.hm, v_fdiv C.h5.1 C.h5.2, v_mod hu, fnRes, potOut]
def TakeOk (T : Fn) : Prop := ∀ (k : Nat), k ≤ 999999 → ∀ (q : List PV), Pot k q → ∀ u : Int, 0 < u → u < 1073741824 → ∃ (d : Int) (q' : List PV), T q [.int u] = .ok (.sh (.int d), q') ∧ (0 ≤ d ∧ d < u) ∧ Pot (k + 1) q'
theorem takeOk {c1 c2 c3 c4 m c5 : Int} (C : TakeC c1 c2 c3 c4 m c5) : TakeOk (dFn true 5 (dTake c1 c2 c3 c4 m c5)) := fun k hk q h u hu hu1 => take_ok C hk h hu hu1
def dOf (T : Fn) : M Fl := (dRet (dGet (dSlot 1) (asSh (dCallI 0 2 T (dCons (dC1 lenV (dSlot 1)) dNil)))))
theorem atI_mem {ps : List PV} {d : Int} (h0 : 0 ≤ d) (h1 : d < (ps.length : Int)) : ∃ p, p ∈ ps ∧ atI ps d = some p := by
  obtain ⟨n, rfl⟩ := Int.eq_ofNat_of_zero_le h0
  have hn : n < ps.length := by omega
  exact ⟨ps[n], List.getElem_mem hn, atI_nat (List.getElem?_eq_getElem hn)⟩
theorem of_ok {T : Fn} (hT : TakeOk T) {k : Nat} (hk : k ≤ 999999) {q : List PV} (h : Pot k q) {ps : List PV} (h0 : 0 < ps.length) (h1 : ps.length < 1073741824) :
    ∃ (p : PV) (q' : List PV), dFn true 2 (dOf T) q [.lst ps] = .ok (.sh p, q') ∧ p ∈ ps ∧ Pot (k + 1) q' := by
  obtain ⟨d, q', e, ⟨hd, hd1⟩, hp⟩ := hT k hk q h (ps.length : Int) (by omega) (by omega)
  obtain ⟨p, hm, ha⟩ := atI_mem hd hd1
  refine ⟨p, q', ?_, hm, hp⟩
  apply fn_run
  simp [dOf, startP, owA, e, ha, fnRes, potOut]
theorem of_okT {T : Fn} (hT : TakeOk T) {k : Nat} (hk : k ≤ 999999) {q : List PV} (h : Pot k q) {ps : List PV} (h0 : 0 < ps.length) (h1 : ps.length < 1073741824) :
    ∃ (p : PV) (q' : List PV), dFn true 2 (dOf T) q [.tup ps] = .ok (.sh p, q') ∧ p ∈ ps ∧ Pot (k + 1) q' := by
  obtain ⟨d, q', e, ⟨hd, hd1⟩, hp⟩ := hT k hk q h (ps.length : Int) (by omega) (by omega)
  obtain ⟨p, hm, ha⟩ := atI_mem hd hd1
  refine ⟨p, q', ?_, hm, hp⟩
  apply fn_run
  simp [dOf, startP, owA, e, ha, fnRes, potOut]
def dPlaces : M Fl := (dRet (dListRange (d2i max2 (dC (.int 1)) (d2i min2 (dVar 1) (dC1 lenV (dSlot 0))))))
theorem places_ok {ps : List PV} {m : Nat} (h1 : 1 ≤ m) (h2 : m ≤ 1000) : ∃ n : Nat, n ≤ m ∧ dFn false 2 dPlaces [] [.lst ps, .int m] = .ok (.sh (.lst (rangeL 0 n)), []) := by
  have hmx : ∃ n : Nat, n ≤ m ∧ max2 1 (min2 m ps.length) = (n : Int) := by
    unfold max2 min2
    by_cases h : (ps.length : Int) < (m : Int)
    · rw [if_pos h]
      by_cases h3 : (ps.length : Int) > 1
      · rw [if_pos h3]; exact ⟨ps.length, by omega, rfl⟩
      · rw [if_neg h3]; exact ⟨1, h1, rfl⟩
    · rw [if_neg h]
      by_cases h3 : (m : Int) > 1
      · rw [if_pos h3]; exact ⟨m, by omega, rfl⟩
      · rw [if_neg h3]; exact ⟨1, h1, rfl⟩
  obtain ⟨n, hn, e⟩ := hmx
  refine ⟨n, hn, ?_⟩
  apply fn_run
  have hb : Nat.ble n 16777216 = true := Nat.ble_eq_true_of_le (by omega)
  have h0 : (0 : Int) ≤ (n : Int) := by omega
  simp only [dPlaces, startP, e_Ret, e_ListRange, e_2i, e_C, e_Var, e_C1, e_Slot, List.length_cons, List.length_nil]
  simp [e, hb, fnRes, potOut]
def dPot (k1 k2 k3 k4 k5 m1 m2 m3 : Int) : M Fl := (dSeq (dAsg (gNm 2) (dIfE (dTst (dBin ltV (dVar 1) (dC1 lenV (dSlot 0)))) (dGet (dSlot 0) (dVar 1)) (dBin addV (dBin addV (dBin modV (dC1 sumL (dVal (dCut (dSlot 0) dNo (dPart (dC (.int 1)))))) (dC (.int m3))) (dBin mulV (dC (.int k1)) (dVar 1))) (dC (.int k2)))))
  (dSeq (dAsg (gNm 3) (dBin mulV (dBin modV (dC1 intV (dVal (dC1 absV' (dSlot 2)))) (dBin powV (dBin powV (dC (.int 10)) (dC (.int 60))) (dC (.int 5)))) (dC1 intV (dVal (dBin geV (dC1 absV' (dSlot 2)) (dBin powV (dC (.int 10)) (dC (.int 18))))))))
  (dSeq (dAsg (gNm 4) (dBin modV (dC1 intV (dSlot 2)) (dC (.int m1))))
  (dRetF (dLst (dCons (dVar 3) (dCons (dBin modV (dC1 intV (dVal (dBin addV (dBin addV (dBin mulV (dVar 4) (dC (.int k3))) (dBin mulV (dBin mulV (dC (.int k4)) (dVar 1)) (dVar 1))) (dC (.int k5))))) (dC (.int m2))) (dCons (dC (.int 0)) dNil))))))))
structure PotC (k1 k2 k3 k4 k5 m1 m2 m3 : Int) : Prop where
  h1 : 0 ≤ k1 ∧ k1 ≤ 1000000
  h3 : 0 ≤ k3 ∧ k3 ≤ 1000000
  h4 : 0 ≤ k4 ∧ k4 ≤ 1000000
  m1 : 0 < m1
  m2 : 0 < m2 ∧ m2 < 4611686018427387904
  m3 : 0 < m3
theorem intsV_I (ns : List Int) : intsV (ns.map PV.int) = some ns := by
  induction ns with
  | nil => rfl
  | cons n ns ih => simp only [List.map_cons, intsV, ih, Option.map_some]
theorem pow_a : powV (.int 10) (.int 60) = .ok (.int (10 ^ 60)) := by kernel_rfl
theorem pow_b : powV (.int (10 ^ 60)) (.int 5) = .ok (.int ((10 ^ 60) ^ 5)) := by kernel_rfl
theorem pow_c : powV (.int 10) (.int 18) = .ok (.int (10 ^ 18)) := by kernel_rfl
theorem cutP_map {α : Type} (f : α → PV) (ns : List α) (lo hi : Option Int) : cutP (ns.map f) lo hi = ((ns.drop (HT.sIx ns.length 0 lo)).take (HT.sIx ns.length ns.length hi - HT.sIx ns.length 0 lo)).map f := by
  unfold cutP
  rw [List.length_map, ← List.map_drop, ← List.map_take]
theorem pot_ok {k1 k2 k3 k4 k5 m1 m2 m3 : Int} (C : PotC k1 k2 k3 k4 k5 m1 m2 m3) (ns : List Int) {p : Nat} (hp : p ≤ 1000) :
    ∃ q, dFn false 5 (dPot k1 k2 k3 k4 k5 m1 m2 m3) [] [.lst (ns.map PV.int), .int p] = .ok (.ow (.lst q), []) ∧ Pot 0 q := by
  have hcell : ∃ v : Int, dIfE (dTst (dBin ltV (dVar 1) (dC1 lenV (dSlot 0)))) (dGet (dSlot 0) (dVar 1)) (dBin addV (dBin addV (dBin modV (dC1 sumL (dVal (dCut (dSlot 0) dNo (dPart (dC (.int 1)))))) (dC (.int m3))) (dBin mulV (dC (.int k1)) (dVar 1))) (dC (.int k2)))
      [some (.sh (.lst (ns.map PV.int))), some (.sh (.int p)), none, none, none] = .ok (.int v, [some (.sh (.lst (ns.map PV.int))), some (.sh (.int p)), none, none, none]) := by
    by_cases h : p < ns.length
    · refine ⟨ns[p], ?_⟩
      have ha : atI (ns.map PV.int) (p : Int) = some (.int ns[p]) := atI_nat (by simp [h])
      have h' : (p : Int) < (ns.length : Int) := by omega
      simp [h, ha]
    · have hm : mulV (.int k1) (.int p) = .ok (.int (k1 * p)) := v_mulg (.inl (by have := C.h1; omega))
      let xs : List Int := (ns.drop (HT.sIx ns.length 0 none)).take (HT.sIx ns.length ns.length (some 1) - HT.sIx ns.length 0 none)
      refine ⟨xs.sum % m3 + k1 * p + k2, ?_⟩
      have hs : sumL (.lst (cutP (ns.map PV.int) none (some 1))) = .ok (.int xs.sum) := by
        rw [cutP_map]
        have h2 : ∀ ys : List Int, sumL (.lst (ys.map PV.int)) = .ok (.int ys.sum) := fun ys => by simp only [sumL, sumV, itemsV, Option.bind_some, intsV_I, optR_some, Res.bind_ok]
        exact h2 xs
      simp [h, cutR, hs, v_mod C.m3, hm]
  obtain ⟨v, hv⟩ := hcell
  let b : Bool := decide ((10 : Int) ^ 18 ≤ (if v < 0 then -v else v))
  have ha0 : 0 ≤ (if v < 0 then -v else v) := by split <;> omega
  have hM : (0 : Int) < (10 ^ 60) ^ 5 := by decide
  have hmd := v_mod (x := (if v < 0 then -v else v)) hM
  have hml : ∀ z w : Int, w = (if b = true then 1 else 0) → mulV (.int z) (.int w) = .ok (.int (z * w)) := fun z w e => v_mulg (.inr (by rw [e]; split <;> omega))
  have hml' := hml ((if v < 0 then -v else v) % ((10 ^ 60) ^ 5)) _ rfl
  have hm3 : mulV (.int (v % m1)) (.int k3) = .ok (.int (v % m1 * k3)) := v_mulg (.inr (by have := C.h3; omega))
  have hm4 : mulV (.int k4) (.int p) = .ok (.int (k4 * p)) := v_mulg (.inl (by have := C.h4; omega))
  have hm5 : mulV (.int (k4 * p)) (.int p) = .ok (.int (k4 * p * p)) := v_mulg (.inr (by omega))
  have hm2 := v_mod (x := v % m1 * k3 + k4 * p * p + k5) C.m2.1
  have e1 := Int.emod_nonneg (v % m1 * k3 + k4 * p * p + k5) (show m2 ≠ 0 by have := C.m2; omega)
  have e2 := Int.emod_lt_of_pos (v % m1 * k3 + k4 * p * p + k5) C.m2.1
  refine ⟨[.int ((if v < 0 then -v else v) % ((10 ^ 60) ^ 5) * (if b = true then 1 else 0)), .int ((v % m1 * k3 + k4 * p * p + k5) % m2), .int 0], ?_, _, _, _, rfl, ?_, ⟨e1, by have := C.m2; omega⟩, by omega, by omega⟩
  · apply fn_run
    generalize hDc : dIfE (dTst (dBin ltV (dVar 1) (dC1 lenV (dSlot 0)))) (dGet (dSlot 0) (dVar 1)) (dBin addV (dBin addV (dBin modV (dC1 sumL (dVal (dCut (dSlot 0) dNo (dPart (dC (.int 1)))))) (dC (.int m3))) (dBin mulV (dC (.int k1)) (dVar 1))) (dC (.int k2))) = Dc at hv
    have hge : ∀ y : Int, geV (.int y) (.int (10 ^ 18)) = .ok (.bl (decide ((10 : Int) ^ 18 ≤ y))) := fun _ => rfl
    generalize hM3 : ((10 : Int) ^ 60) ^ 5 = M3 at hmd hml' hM
    have pb : powV (.int (10 ^ 60)) (.int 5) = .ok (.int M3) := by rw [← hM3]; exact pow_b
    generalize hM1 : (10 : Int) ^ 60 = M1 at pb
    have pa : powV (.int 10) (.int 60) = .ok (.int M1) := by rw [← hM1]; exact pow_a
    generalize hM2 : (10 : Int) ^ 18 = M2 at hge
    have pc : powV (.int 10) (.int 18) = .ok (.int M2) := by rw [← hM2]; exact pow_c
    unfold dPot
    rw [hDc]
    have hb : decide (M2 ≤ (if v < 0 then -v else v)) = b := by rw [← hM2]
    generalize b = b' at *
    have hab : absV' (.int v) = .ok (.int (if v < 0 then -v else v)) := rfl
    generalize (if v < 0 then -v else v) = av at *
    simp [startP, hv, hab, pa, pb, pc, hge, hb, hmd, hml', v_mod C.m1, hm3, hm4, hm5, hm2, fitN_of, fnRes, potOut]
  · have := Int.emod_nonneg (if v < 0 then -v else v) (show ((10 : Int) ^ 60) ^ 5 ≠ 0 by decide)
    refine Int.mul_nonneg this ?_
    split <;> decide
/-- a comprehension whose turns may change the state -/
theorem lc_invA {vs : List Nat} {g : PV → PSt → Res PSt} {t : M Bool} {e : M PV} (P : PV → Prop) : ∀ (ps acc : List PV) (I : Nat → PSt → Prop) (s : PSt), I 0 s → acc.length + ps.length ≤ 16777216 →
    (∀ (j : Nat) (hj : j < ps.length) (s : PSt), I j s → ∃ s1 s2 s3 r, g ps[j] s = .ok s1 ∧ t s1 = .ok (true, s2) ∧ e s2 = .ok (r, s3) ∧ P r ∧ I (j + 1) (wipeP s3 vs)) →
    ∃ rs s', dLcL vs g t e ps acc s = .ok (acc ++ rs, s') ∧ rs.length = ps.length ∧ (∀ r ∈ rs, P r) ∧ I ps.length s'
  | [], acc, I, s, h, _, _ => ⟨[], s, by simp [dLcL], rfl, (by simp), h⟩
  | p :: ps, acc, I, s, h, hl, ht => by
    obtain ⟨s1, s2, s3, r, h1, h2, h3, hP, hI⟩ := ht 0 (by simp) s h
    simp only [List.getElem_cons_zero] at h1
    have hf : fitsL (acc.length + 1) = true := Nat.ble_eq_true_of_le (by simp at hl; omega)
    obtain ⟨rs, s', e1, e2, e3, e4⟩ := lc_invA P ps (acc ++ [r]) (fun j => I (j + 1)) (wipeP s3 vs) hI (by simp at hl ⊢; omega) fun j hj s hs => by
      have := ht (j + 1) (by simp; omega) s hs
      simpa only [List.getElem_cons_succ] using this
    refine ⟨r :: rs, s', ?_, by simp [e2], ?_, by simpa using e4⟩
    · unfold dLcL
      simp only [h1, h2, h3, nox, Res.bind_ok, if_true, hf]
      rw [e1]; simp
    · intro x hx
      rcases List.mem_cons.mp hx with rfl | hx
      · exact hP
      · exact e3 x hx
theorem lc_inv {vs : List Nat} {g : PV → PSt → Res PSt} {t : M Bool} {e : M PV} (I : Nat → PSt → Prop) (P : PV → Prop) (ps : List PV) (s : PSt) (h : I 0 s) (hl : ps.length ≤ 16777216)
    (ht : ∀ (j : Nat) (hj : j < ps.length) (s : PSt), I j s → ∃ s1 s2 s3 r, g ps[j] s = .ok s1 ∧ t s1 = .ok (true, s2) ∧ e s2 = .ok (r, s3) ∧ P r ∧ I (j + 1) (wipeP s3 vs)) :
    ∃ rs s', dLcL vs g t e ps [] s = .ok (rs, s') ∧ rs.length = ps.length ∧ (∀ r ∈ rs, P r) ∧ I ps.length s' := by
  have := lc_invA P ps [] I s h (by simpa using hl) ht
  simpa using this
/-- a loop by an invariant -/
theorem forL_inv {g : PV → PSt → Res PSt} {body : M Fl} : ∀ (ps : List PV) (I : Nat → PSt → Prop) (s : PSt), I 0 s →
    (∀ (j : Nat) (hj : j < ps.length) (s : PSt), I j s → ∃ s1 s2, g ps[j] s = .ok s1 ∧ body s1 = .ok (.nx, s2) ∧ I (j + 1) s2) → ∃ s', dForL g body ps s = .ok (.nx, s') ∧ I ps.length s'
  | [], I, s, h, _ => ⟨s, rfl, h⟩
  | p :: ps, I, s, h, ht => by
    obtain ⟨s1, s2, h1, h2, h3⟩ := ht 0 (by simp) s h
    simp only [List.getElem_cons_zero] at h1
    obtain ⟨s', e1, e2⟩ := forL_inv ps (fun j => I (j + 1)) s2 h3 fun j hj s hs => by
      have := ht (j + 1) (by simp; omega) s hs
      simpa only [List.getElem_cons_succ] using this
    refine ⟨s', ?_, by simpa using e2⟩
    unfold dForL
    simp only [h1, h2, Res.bind_ok]
    exact e1
theorem rangeL_len (lo : Int) (n : Nat) : (rangeL lo n).length = n := by simp [rangeL]
theorem rangeL_get (lo : Int) (n j : Nat) (h : j < (rangeL lo n).length) : (rangeL lo n)[j] = .int (lo + (j : Nat)) := by simp [rangeL]
theorem seq_nx {a b : M Fl} {s s' : PSt} {r : Res (Fl × PSt)} (h : a s = .ok (.nx, s')) (k : b s' = r) : dSeq a b s = r := by
  rw [e_Seq, h]; exact k
end VL
/-! VL29: small data: its repr, its comparisons. -/
namespace VL
set_option autoImplicit false
open PySem PySem.Spec PyProof.Rows L2
/-- data of so many levels whose text has so many signs at most -/
structure Small (d n : Nat) (p : PV) : Prop where
  data : p.isData = true
  dep : p.toD.depth ≤ d
  sh : p.toD.showable = true
  len : p.toD.shown.length ≤ n
theorem Small.mono {d d' n n' : Nat} {p : PV} (h : Small d n p) (hd : d ≤ d') (hn : n ≤ n') : Small d' n' p := ⟨h.data, by have := h.dep; omega, h.sh, by have := h.len; omega⟩
theorem small_int {i : Int} (h : i.natAbs < 2 ^ 200) : Small 0 1921 (.int i) := by
  have h1 : i.natAbs.log2 < 1920 := by
    by_cases h0 : i.natAbs = 0
    · rw [h0]; decide
    · have := (Nat.log2_lt (n := i.natAbs) (k := 200) h0).mpr h
      omega
  refine ⟨by simp [PV.isData], by simp [PV.toD, PyData.depth], ?_, ?_⟩
  · simp only [PV.toD, PyData.showable, decide_eq_true_eq]; exact h1
  · simp only [PV.toD, PyData.shown]
    exact int_text_len_1921 h1
theorem small_i {i : Int} (h0 : -1000000000000 ≤ i) (h1 : i ≤ 1000000000000) : Small 0 1921 (.int i) := small_int (Nat.lt_of_le_of_lt (show i.natAbs ≤ 1000000000000 by omega) (by decide))
theorem small_non : Small 0 4 .non := ⟨by simp [PV.isData], by simp [PV.toD, PyData.depth], by simp [PV.toD, PyData.showable], by simp only [PV.toD, PyData.shown]; decide +kernel⟩
theorem small_bl (b : Bool) : Small 0 5 (.bl b) := ⟨by simp [PV.isData], by simp [PV.toD, PyData.depth], by simp [PV.toD, PyData.showable], by simp only [PV.toD, PyData.shown]; cases b <;> decide +kernel⟩
theorem small_str {x : Str} {n : Nat} (h : (reprText x).length ≤ n) : Small 0 n (.str x) := ⟨by simp [PV.isData], by simp [PV.toD, PyData.depth], by simp [PV.toD, PyData.showable], by simp only [PV.toD, PyData.shown]; exact h⟩
theorem dataL_all {ps : List PV} (h : ∀ p ∈ ps, p.isData = true) : isDataL ps = true := by
  rw [isDataL_eq, List.all_eq_true]
  exact h
theorem depthAll_le {ps : List PV} {d : Nat} (h : ∀ p ∈ ps, p.toD.depth ≤ d) : PyData.depthAll (toDL ps) ≤ d := by
  induction ps with
  | nil => simp [toDL, PyData.depthAll]
  | cons p ps ih =>
    simp only [toDL, PyData.depthAll]
    have h1 := h p List.mem_cons_self
    have h2 := ih fun q hq => h q (List.mem_cons_of_mem _ hq)
    omega
theorem showAll_of {ps : List PV} (h : ∀ p ∈ ps, p.toD.showable = true) : PyData.showableAll (toDL ps) = true := by
  induction ps with
  | nil => simp [toDL, PyData.showableAll]
  | cons p ps ih =>
    simp only [toDL, PyData.showableAll, h p List.mem_cons_self, ih fun q hq => h q (List.mem_cons_of_mem _ hq), Bool.and_self]
theorem shownAll_len (ps : List PV) : (PyData.shownAll (toDL ps)).length = ps.length := by
  induction ps with
  | nil => simp [toDL, PyData.shownAll]
  | cons p ps ih => simp only [toDL, PyData.shownAll, List.length_cons, ih]
theorem shownAll_sum {ps : List PV} {n : Nat} (h : ∀ p ∈ ps, p.toD.shown.length ≤ n) : ((PyData.shownAll (toDL ps)).map (·.length)).sum ≤ ps.length * n := by
  induction ps with
  | nil => simp [toDL, PyData.shownAll]
  | cons p ps ih =>
    have h1 := h p List.mem_cons_self
    have h2 := ih fun q hq => h q (List.mem_cons_of_mem _ hq)
    simp only [toDL, PyData.shownAll, List.map_cons, List.sum_cons, List.length_cons, Nat.add_mul]
    omega
theorem small_tup {ps : List PV} {d n L : Nat} (h : ∀ p ∈ ps, Small d n p) (hl : ps.length ≤ L) : Small (d + 1) (L * (n + 2) + 3) (.tup ps) := by
  refine ⟨by simp only [PV.isData]; exact dataL_all fun p hp => (h p hp).data, ?_, ?_, ?_⟩
  · simp only [PV.toD, PyData.depth]
    have := depthAll_le fun p hp => (h p hp).dep
    omega
  · simp only [PV.toD, PyData.showable]; exact showAll_of fun p hp => (h p hp).sh
  · simp only [PV.toD, PyData.shown]
    have h1 := tupleText_len_le (PyData.shownAll (toDL ps))
    have h2 := shownAll_sum fun p hp => (h p hp).len
    rw [shownAll_len] at h1
    have h3 : ps.length * n ≤ L * n := Nat.mul_le_mul_right n hl
    rw [Nat.mul_add]
    omega
theorem small_lst {ps : List PV} {d n L : Nat} (h : ∀ p ∈ ps, Small d n p) (hl : ps.length ≤ L) : Small (d + 1) (L * (n + 2) + 3) (.lst ps) := by
  refine ⟨by simp only [PV.isData]; exact dataL_all fun p hp => (h p hp).data, ?_, ?_, ?_⟩
  · simp only [PV.toD, PyData.depth]
    have := depthAll_le fun p hp => (h p hp).dep
    omega
  · simp only [PV.toD, PyData.showable]; exact showAll_of fun p hp => (h p hp).sh
  · simp only [PV.toD, PyData.shown]
    have h1 := listText_len_le (PyData.shownAll (toDL ps))
    have h2 := shownAll_sum fun p hp => (h p hp).len
    rw [shownAll_len] at h1
    have h3 : ps.length * n ≤ L * n := Nat.mul_le_mul_right n hl
    rw [Nat.mul_add]
    omega
theorem Small.okD {d n : Nat} {p : PV} (h : Small d n p) (hd : d ≤ 60) : okD p = true := by
  unfold VL.okD
  rw [h.data, decide_eq_true (by have := h.dep; omega), Bool.and_self]
theorem Small.repr {d n : Nat} {p : PV} (h : Small d n p) (hd : d ≤ 60) (hn : n ≤ 16777216) : reprV p = .ok (.str p.toD.shown) := by
  refine if_pos ?_
  rw [h.okD hd, h.sh]
  simp only [Bool.true_and]
  exact Nat.ble_eq_true_of_le (by have := h.len; omega)
theorem eqB_refl {p : PV} (h : p.isData = true) : eqB p p = true := SeqAt.eqv_refl_plain _ (p.toD_plain h)
theorem okD_str (x : Str) : okD (.str x) = true := by simp [okD, PV.isData, PV.toD, PyData.depth]
theorem ne_str (x : Str) : neV (.str x) (.str x) = .ok (.bl false) := by
  unfold neV
  rw [okD_str, eqB_refl (by simp [PV.isData])]
  rfl
theorem eq_self {d n : Nat} {p : PV} (h : Small d n p) (hd : d ≤ 60) : eqV' p p = .ok (.bl true) := by
  unfold eqV'
  rw [h.okD hd, eqB_refl h.data]; rfl
theorem ne_self {d n : Nat} {p : PV} (h : Small d n p) (hd : d ≤ 60) : neV p p = .ok (.bl false) := by
  unfold neV
  rw [h.okD hd, eqB_refl h.data]; rfl
theorem ne_int (a b : Int) : neV (.int a) (.int b) = .ok (.bl (!decide (a = b))) := by
  have h : ∀ a : Int, okD (.int a) = true := fun a => by simp [okD, PV.isData, PV.toD, PyData.depth]
  unfold neV
  rw [h, h]
  have : eqB (.int a) (.int b) = decide (a = b) := by
    simp only [eqB, PV.toD, PyData.eqv]
    by_cases h : a = b <;> simp [h]
  rw [this]; rfl
theorem eq_int (a b : Int) : eqV' (.int a) (.int b) = .ok (.bl (decide (a = b))) := by
  have h : ∀ a : Int, okD (.int a) = true := fun a => by simp [okD, PV.isData, PV.toD, PyData.depth]
  unfold eqV'
  rw [h, h]
  have : eqB (.int a) (.int b) = decide (a = b) := by
    simp only [eqB, PV.toD, PyData.eqv]
    by_cases h : a = b <;> simp [h]
  rw [this]; rfl
end VL
/-! VL30: more pieces at a state: errors heard. -/
namespace VL
set_option autoImplicit false
open PySem PySem.Spec PyProof.Rows L2
section
variable {s : PSt} {a : M PV} {errs : List Str} {lm : Nat → M PV} {n : Nat} {c : Str} {v : PV}
@[simp] theorem e_Heard : dHeard errs a lm s = (a s).bind fun x => (match x.1 with
  | .clo n => hRes errs x.2 (lm n (VL.shOnly x.2))
  | _ => .bad) := by
  unfold dHeard
  congr 1
@[simp] theorem e_IsE {sb : Str → Bool} : dIsE errs sb a s = (a s).bind fun x => (match x.1 with
  | .non => .ok (.bl false, x.2)
  | .err c _ => if errs.contains c then .ok (.bl (sb c), x.2) else .bad
  | _ => .bad) := by
  unfold dIsE
  congr 1
@[simp] theorem e_Val' : dVal' errs a s = (a s).bind fun x => (match x.1 with
  | .err c v => if errs.contains c then .ok (v, x.2) else .bad
  | _ => .bad) := by
  unfold dVal'
  congr 1
theorem hRes_exc (h : errs.contains c = true) : hRes errs s (.exc c v) = .ok (.tup [.err c v, .non], s) := by
  show (if errs.contains c = true then Res.ok (PV.tup [PV.err c v, PV.non], s) else Res.bad) = _
  rw [if_pos h]
theorem hRes_ok {p : PV} {s' : PSt} : hRes errs s (.ok (p, s')) = .ok (.tup [.non, p], s) := rfl
end
theorem atI2_0 {p q : PV} : atI [p, q] (0 : Int) = some p := atI_nat (j := 0) rfl
theorem atI2_1 {p q : PV} : atI [p, q] (1 : Int) = some q := atI_nat (j := 1) rfl
theorem ne_lstr (x : Str) : neV (.lst [.str x]) (.lst [.str x]) = .ok (.bl false) := by
  have h : okD (.lst [.str x]) = true := by simp [okD, PV.isData, isDataL, PV.toD, toDL, PyData.depth, PyData.depthAll]
  unfold neV
  rw [h, eqB_refl (by simp [PV.isData, isDataL])]
  rfl
theorem v_addT {xs ys : List PV} (h : xs.length + ys.length ≤ 16777216) : addV (.tup xs) (.tup ys) = .ok (.tup (xs ++ ys)) := if_pos (Nat.ble_eq_true_of_le h)
theorem v_addL {xs ys : List PV} (h : xs.length + ys.length ≤ 16777216) : addV (.lst xs) (.lst ys) = .ok (.lst (xs ++ ys)) := if_pos (Nat.ble_eq_true_of_le h)
theorem v_addS {x y : Str} (h : x.length + y.length ≤ 16777216) : addV (.str x) (.str y) = .ok (.str (x ++ y)) := if_pos (Nat.ble_eq_true_of_le h)
end VL
set_option Elab.async false
set_option linter.all false
set_option maxRecDepth 100000
set_option maxHeartbeats 2000000
/-! VL31: more constructs: a list made behind a name, turned about, texts. -/
namespace VL
set_option autoImplicit false
open PySem PySem.Spec PyProof.Rows L2
section
variable {X : Cx} {W : WX} {B : Bs} {D : Ends} {pos : Pos}
/-- y = [e for ..] -/
theorem pxs_setLc {i : Nat} {y : Str} {py spos : Pos} {elt tg iter : Expr} {ifs : List Expr} {scope : Scope} {own : List (Str × Nat)} {it : M (List PV)} {g : PV → PSt → Res PSt} {t : M Bool} {e : M PV} (hc : X.calm = true) (hN : X.N.Nodup) (hy : X.N[i]? = some y) (hyl : X.env.scope.names.lookup y = some .local)
    (hsw : swapsWith (.ListComp elt [⟨tg, iter, ifs, 0⟩] scope pos) (some (.Name y py)) spos.line X.env = pure true) (hi : PXI X W B tg iter it) (ok : BlkOk X.N X.env.scope scope own)
    (hg : ∀ s H C cl fp H0, PXH (Blk X scope s H C cl fp) (B.at H0) (own.map (·.2)) tg g) (ht : ∀ s H C cl fp H0, PXTs (Blk X scope s H C cl fp) (B.at H0) ifs t)
    (he : ∀ s H C cl fp H0, PX (Blk X scope s H C cl fp) WN (B.at H0) elt e) (hs : ∀ x, foldedSetIterable iter X.env x = pure x := by intro _; rfl) :
    PXS X W B (.Assign [.Name y py] (.ListComp elt [⟨tg, iter, ifs, 0⟩] scope pos) spos) (dOwn i (dLc (own.map (·.2)) it g t e)) := by
  refine ⟨fun pins s σ H D I h => ?_⟩
  obtain ⟨sp, R, h⟩ := h
  have key := lc_read (X := X) (X' := X) (W := W) (B := B) (vs := own.map (·.2)) (it := it) (g := g) (t := t) (e := e) (σ := σ) (H := H) rfl (Q := fun v H1 => gName i v σ H1 D.nx) ⟨sp, R, endR.bind (rep' := rF X B) h fun p s1 v H1 R1 x1 ⟨a, ea, o, n, l⟩ q => by
    subst ea
    exact q _ H1 (R1.setOw o n l) (Ext.refl _)⟩
  exact (ps_setLc (X := X) hc hN hy hyl hsw hi ok (fun s H C cl fp => ⟨fun pins s' σ H' v u Q I r ⟨H0, q⟩ => (hg s H C cl fp H0).run pins s' σ H' v u Q I r q⟩)
    (fun s H C cl fp => ⟨fun pins s' σ H' Q I ⟨H0, q⟩ => (ht s H C cl fp H0).run pins s' σ H' Q I q⟩)
    (fun s H C cl fp => ⟨fun pins s' σ H' Q I ⟨H0, q⟩ => (he s H C cl fp H0).run pins s' σ H' Q I q⟩) hs).run pins s σ H D I key
/-! ### turned about -/
theorem adjust_back (n : Nat) : Builtin.Slice.sliceAdjust none none (-1) (n : Int) = ((n : Int) - 1, -1) := by
  unfold Builtin.Slice.sliceAdjust
  have h : (-1 : Int) < 0 := by decide
  simp only [h, if_true]
theorem places_back (n : Nat) : Builtin.Slice.slicePlaces ((n : Int) - 1) (-1) (-1) = n := by
  unfold Builtin.Slice.slicePlaces
  have h1 : ¬ ((-1 : Int) > 0) := by decide
  simp only [h1, if_false]
  split
  · rw [show (-(-1) : Int) = 1 by decide, Int.ediv_one]; omega
  · omega
theorem applied_back {prog : Program} {w : World} {A : Around} {E : Value → Shared → Prop} {s : Shared} {sl : Addr} {vs : Value} {n : Nat} {Q : Int × Int × Nat → Shared → Prop} (hs : s.heap.IsSliceOf sl .none .none vs) (ps : IsPart vs (some (-1)))
    (h : Q ((n : Int) - 1, -1, n) s) : wpAny (model prog w) A (Builtin.Slice.sliceApplied (.ref sl) (pure (n : Int))) Q E s := by
  obtain ⟨ob, h1, h2, h3⟩ := id hs
  unfold Builtin.Slice.sliceApplied Builtin.Slice.sliceFields
  refine wpAny_bind (wpAny_bind (wpAny_field h1 h3 (x := .none) rfl (wpAny_bind (wpAny_field h1 h3 (x := .none) rfl (wpAny_bind (wpAny_field h1 h3 (x := vs) rfl (wpAny_pure ?_)))))))
  refine wpAny_bind (HT.slicePart_ ps ?_)
  show wpAny _ _ (if ((-1 : Int) == 0) = true then _ else _) _ _ s
  rw [if_neg (by decide)]
  refine wpAny_bind (HT.slicePart_ .none (wpAny_bind (HT.slicePart_ .none (wpAny_bind (wpAny_pure ?_)))))
  show wpAny _ _ (match Builtin.Slice.sliceAdjust none none (-1) (n : Int) with | (lo, hi) => pure (lo, (-1 : Int), Builtin.Slice.slicePlaces lo hi (-1))) _ _ s
  rw [adjust_back n]
  show wpAny _ _ (pure ((n : Int) - 1, (-1 : Int), Builtin.Slice.slicePlaces ((n : Int) - 1) (-1) (-1))) _ _ s
  rw [places_back]
  exact wpAny_pure h
theorem pick_back (xs : Array Value) : ((List.range xs.size).filterMap fun (k : Nat) => xs[(((xs.size : Nat) : Int) - 1 + (k : Int) * (-1)).toNat]?).toArray = xs.toList.reverse.toArray := by
  have e : (fun (k : Nat) => xs[(((xs.size : Nat) : Int) - 1 + (k : Int) * (-1)).toNat]?) = (xs[·]?) ∘ (fun k => xs.size - 1 - k) := by
    funext k
    have : (((xs.size : Nat) : Int) - 1 + (k : Int) * (-1)).toNat = xs.size - 1 - k := by omega
    simp only [this, Function.comp]
  rw [e, ← List.filterMap_map, PySem.W.krv_range, List.filterMap_reverse, PySem.W.krv_all]
theorem getItem_back {prog : Program} {w : World} {A : Around} {E : Value → Shared → Prop} {s : Shared} {t sl : Addr} {its : Array Value} {vs : Value} {Q : Value → Shared → Prop} (ht : IsTup s.heap t its) (hs : s.heap.IsSliceOf sl .none .none vs) (ps : IsPart vs (some (-1)))
    (h : Q (.ref s.heap.objs.size) { s with heap := s.heap.push { cls := .type "tuple", data := .seq its.toList.reverse.toArray } }) (hz : its.size ≤ sizeLine) : wpAny (model prog w) A (getItem (.ref t) (.ref sl)) Q E s := by
  have hk : sizeOk (.seq its.toList.reverse.toArray) := by
    show its.toList.reverse.toArray.size ≤ sizeLine
    rw [List.size_toArray, List.length_reverse, Array.length_toList]; exact hz
  obtain ⟨ob, h1, h2, h3⟩ := id hs
  have hty : s.TypeIs (.ref sl) "slice" := ⟨ob, h1, h2⟩
  unfold getItem
  try with_reducible refine wpAny_holding ?_
  first | refine wpAny_bind (wpAny_pure ?_) | skip
  refine wpAny_bind (wpAny_sequenceKey ht.typeIs (by decide) ?_)
  refine wpAny_bind (wpAny_callSpecial?_slot (name := Str.ofString "__getitem__") ht.typeIs PyProof.Rows.slot_tuple_getitem
    (wpAny_call_entry PyProof.Rows.slot_tuple_getitem ht.typeIs entry_tuple_getitem ?_ (args_tuple_getitem _ _)))
  show wpAny _ _ (Builtin.Tuple.tupleItemsOf (.ref t) >>= _) _ _ s
  refine wpAny_bind (tupleItemsOf_ ht ?_)
  refine wpAny_bind (wpAny_typeOf hty ?_)
  rw [if_pos (by decide)]
  refine wpAny_bind (applied_back hs ps ?_)
  have hno : ¬ ((((its.size : Nat) : Int) - 1 == 0 && (-1 : Int) == 1 && its.size == its.size) = true) := by simp
  show wpAny _ _ (if (((its.size : Nat) : Int) - 1 == 0 && (-1 : Int) == 1 && its.size == its.size) = true then _ else _) _ _ s
  rw [if_neg hno, pick_back]
  first
    | exact wpAny_bind (m := Builtin.Tuple.tupleExact _) (wpAny_newObj_type (wpAny_pure ⟨_, rfl, wpAny_pure h⟩) hk)
    | exact wpAny_bind (m := Builtin.Tuple.tupleExact _) (wpAny_newObj_type (wpAny_bind (wpAny_pure (wpAny_pure ⟨_, rfl, wpAny_pure h⟩))) hk)
    | exact wpAny_bind (wpAny_bind (m := Builtin.Tuple.tupleExact _) (wpAny_newObj_type (wpAny_pure (wpAny_pure ⟨_, rfl, wpAny_pure h⟩)) hk))
    | exact wpAny_bind (wpAny_bind (m := Builtin.Tuple.tupleExact _) (wpAny_newObj_type (wpAny_pure ⟨_, rfl, wpAny_pure h⟩) hk))
/-- x[::-1], of a tuple or a list -/
def tBack (K : PySem.W.Frag) (te : TE) : TE := fun σ H Q => te σ H fun x H1 => (∃ a xs, x = .ref a ∧ SqT K H1 a xs ∧ ∀ p, H1 p = none → Q (.ref p) (upd H1 p (.tup xs.reverse))) ∨ (∃ a xs, x = .ref a ∧ SqL K H1 a xs ∧ ∀ p, H1 p = none → Q (.ref p) (upd H1 p (.lst xs.reverse)))
theorem pe_back {e : Expr} {te : TE} {k : Nat} {p1 p2 p3 : Pos} (he : PE X e te) : PE X (.Subscript e (.Slice none none (some (.UnaryOp .USub (.Constant (.int 1) k p1) p2)) p3) pos) (tBack X.K te) := by
  refine ⟨fun pins s σ H Q I h => Subscript_ (thn (he.run pins s σ H _ I h) fun v s1 ⟨x, H1, I1, r1, q1⟩ => ?_)⟩
  have hst : PO X (some (.UnaryOp .USub (.Constant (.int 1) k p1) p2)) (tPart (tUn (rU fun i => .int (-i)) (tC (.int 1)))) := po_some (pe_un un_neg pe_int)
  refine wpAny_Slice (thn (po_none.run pins s1 σ H1 (fun o H2 => o = none ∧ H2 = H1) I1 ⟨rfl, rfl⟩) fun vl s2 ⟨l, H2, I2, pl, el, e2⟩ => ?_)
  subst el e2
  refine thn (po_none.run pins s2 σ H2 (fun o H3 => o = none ∧ H3 = H2) I2 ⟨rfl, rfl⟩) fun vu s3 ⟨u, H3, I3, pu, eu, e3⟩ => ?_
  subst eu e3
  refine thn (hst.run pins s3 σ H3 (fun o H4 => o = some (-1) ∧ H4 = H3) I3 ⟨1, rfl, -1, rfl, rfl, rfl⟩) fun vs s4 ⟨o, H4, I4, ps, eo, e4⟩ => ?_
  subst eo e4
  cases pl
  cases pu
  have J : Inv X pins σ H4 { s4 with heap := s4.heap.push { cls := .type "slice", data := .fields #[.none, .none, vs] } } := I4.kept (t' := s4.toks) fun b ob q => Heap.get?_push_of_some _ q
  rcases q1 with ⟨a, xs, ex, hx, q⟩ | ⟨a, xs, ex, hx, q⟩
  · subst ex
    cases r1
    obtain ⟨its, r, ht, hz⟩ := J.tuple hx
    have hl := r.length
    show wpAny (model X.prog X.w) X.A (subscriptTail e (.Slice none none (some (.UnaryOp .USub (.Constant (.int 1) k p1) p2)) p3) (.ref a) (.ref s4.heap.objs.size)) (EP X pins σ Q) X.xe { s4 with heap := s4.heap.push { cls := .type "slice", data := .fields #[.none, .none, vs] } }
    refine tail_any (ops := [.ref a, .ref s4.heap.objs.size]) ht.typeIs PyProof.Rows.slot_tuple_getitem.lookup ?_ (by with_unfolding_all rfl)
    refine getItem_back ht (Heap.IsSliceOf.new _ .none .none vs) ps ?_ (by rw [List.size_toArray]; omega)
    refine ⟨.ref _, _, J.laid (t' := s4.toks) (o := .tup xs.reverse) (fun b ob q => Heap.get?_push_of_some _ q) (Nat.le_refl _) ?_, rfl, q _ (J.hok.fresh (Nat.le_refl _))⟩
    exact ⟨by rw [List.length_reverse]; exact hz, _, r.reverse, IsTup.new _ _⟩
  · subst ex
    cases r1
    obtain ⟨its, r, ht, hz⟩ := J.list hx
    have hl := r.length
    show wpAny (model X.prog X.w) X.A (subscriptTail e (.Slice none none (some (.UnaryOp .USub (.Constant (.int 1) k p1) p2)) p3) (.ref a) (.ref s4.heap.objs.size)) (EP X pins σ Q) X.xe { s4 with heap := s4.heap.push { cls := .type "slice", data := .fields #[.none, .none, vs] } }
    refine tail_any (ops := [.ref a, .ref s4.heap.objs.size]) ht.isList.typeIs (PySem.slot_list_getitem.lookup) ?_ (by with_unfolding_all rfl)
    refine wpAny_getItem_list_slice ht.isList (Heap.IsSliceOf.new _ .none .none vs) .none .none ps (by decide) ?_ (by rw [List.size_toArray]; omega)
    rw [PySem.W.krv_pick]
    refine ⟨.ref _, _, J.laid (t' := s4.toks) (o := .lst xs.reverse) (fun b ob q => Heap.get?_push_of_some _ q) (Nat.le_refl _) ?_, rfl, q _ (J.hok.fresh (Nat.le_refl _))⟩
    exact ⟨by rw [List.length_reverse]; exact hz, _, 0, r.reverse, Heap.get?_push_size _ rfl⟩
def backV : PV → Res PV
  | .tup ps => .ok (.tup ps.reverse)
  | .lst ps => .ok (.lst ps.reverse)
  | _ => .bad
def dBack (d : M PV) : M PV := fun s => (d s).bind fun (p, s) => (backV p).bind fun r => .ok (r, s)
theorem RepL.rev {K : PySem.W.Frag} {C : CloT} {H : Hp} : ∀ {ps : List PV} {xs : List V}, RepL K C H ps xs → RepL K C H ps.reverse xs.reverse
  | [], xs, h => by simp only [RepL] at h; subst h; exact RepL.nil
  | p :: ps, xs, h => by
    obtain ⟨x, r, rfl, h1, h2⟩ := h.head
    rw [List.reverse_cons, List.reverse_cons]
    exact (RepL.rev h2).append (.cons h1 .nil)
theorem px_back {e : Expr} {d : M PV} {k : Nat} {p1 p2 p3 : Pos} (he : PX X W B e d) : PX X W B (.Subscript e (.Slice none none (some (.UnaryOp .USub (.Constant (.int 1) k p1) p2)) p3) pos) (dBack d) := by
  refine ⟨fun pins s σ H Q I h => ?_⟩
  refine thn ((pe_back (pos := pos) (k := k) (p1 := p1) (p2 := p2) (p3 := p3) he).run pins s σ H (fun v H' => Q v H' ∨ ∃ b xs ps s2 H2, v = .ref b ∧ H2 b = none ∧ H' = upd H2 b (.lst xs) ∧ RepL X.K B.C H2 ps xs ∧ RelSt X.K B s2 σ H2 ∧ tRa X W B (rV X B) (.ok (.lst ps, s2)) σ H2 Q) I ?_) fun u s1 ⟨v, H1, I1, r1, q1⟩ => ?_
  · obtain ⟨s, R, q⟩ := h
    refine ⟨s, R, tRa.bind (rep' := rV X B) q fun p s1 v H1 R1 x1 r1 q => ?_⟩
    cases p with
    | tup ps =>
      obtain ⟨b, xs, rfl, sq, rl⟩ := rep_tupS r1
      exact .inl ⟨b, xs, rfl, sq, fun p hp => .inl (q _ _ (R1.new hp) (Ext.new hp) (rep_newT hp rl.rev))⟩
    | lst ps =>
      obtain ⟨b, xs, rfl, sq, rl⟩ := rep_lst.mp r1
      exact .inr ⟨b, xs, rfl, sq.sql, fun p hp => .inr ⟨p, _, _, s1, H1, rfl, hp, rfl, rl.rev, R1, q⟩⟩
    | _ => exact (show False from q).elim
  · rcases q1 with q1 | ⟨b, xs, ps, s2, H2, rfl, hb, rfl, rl, R2, q2⟩
    · exact ⟨v, H1, I1, r1, q1⟩
    · obtain ⟨o, J⟩ := frz_new I1
      exact ⟨_, _, J, r1, q2 _ _ (R2.new hb) (Ext.new hb) (rep_newL hb rl)⟩
/-! ### texts -/
def upV : PV → Res PV
  | .str a => if Nat.ble a.length 5592405 then .ok (.str (Txt.upper a)) else .bad
  | _ => .bad
def dUp (d : M PV) : M PV := fun s => (d s).bind fun (p, s) => (upV p).bind fun r => .ok (r, s)
theorem px_up {e : Expr} {d : M PV} {apos : Pos} (he : PX X W B e d) (hb : attributeBase e "upper" X.env (eval e X.env) = eval e X.env := by rfl) (hl : (apos.endLine == pos.line) = true := by rfl) : PX X W B (.Call (.Attribute e "upper" apos) [] [] pos) (dUp d) :=
  PE.weak (pe_upper he hb hl) fun σ H Q ⟨s, R, q⟩ => ⟨s, R, tRa.bind (rep' := rV X B) q fun p s1 v H1 R1 x1 r1 q => by
    cases p with
    | str a =>
      have e := rep_str.mp r1
      subst e
      unfold upV at q
      dsimp only at q
      by_cases ha : Nat.ble a.length 5592405 = true
      · rw [if_pos ha] at q
        exact ⟨⟨a, rfl⟩, a, rfl, rfl, Nat.le_of_ble_eq_true ha, q _ H1 R1 (Ext.refl _) (rep_str.mpr rfl)⟩
      · rw [if_neg ha] at q
        exact (show False from q).elim
    | _ => exact (show False from q).elim⟩
def strV : PV → Res PV
  | .int i => if Nat.blt i.natAbs.log2 1920 then .ok (.str (toString i)) else .bad
  | .str a => .ok (.str a)
  | _ => .bad
theorem c1_str {C : CloT} : Call1 X C (.type "str") strV := by
  intro p r e pins s σ H xs us Q I rv ⟨x, ex, n, k⟩
  cases p with
  | int i =>
    unfold strV at e
    dsimp only at e
    by_cases hi : Nat.blt i.natAbs.log2 1920 = true
    · rw [if_pos hi] at e
      cases e
      have ei := now_int n
      subst ei
      exact call_str_int pins s σ H _ us Q I rv ⟨i, ex, Nat.le_of_ble_eq_true hi, k _ H (Grow.refl H) (rep_str.mpr rfl)⟩
    · rw [if_neg hi] at e
      cases e
  | str a => cases e; have ei := now_str n; subst ei; exact SkE.call_str_str pins s σ H _ us Q I rv ⟨a, ex, k _ H (Grow.refl H) (rep_str.mpr rfl)⟩
  | _ => cases e
theorem n1_str : NoEx1 strV := by
  intro p c v
  cases p with
  | int i => unfold strV; dsimp only; split <;> simp only [ne_eq, reduceCtorEq, not_false_eq_true]
  | _ => simp only [strV, ne_eq, reduceCtorEq, not_false_eq_true]
end
end VL
/-! VL32: lists taken apart; a def that calls itself; the new pieces at a state. -/
namespace VL
set_option autoImplicit false
open PySem PySem.Spec PyProof.Rows L2
section
variable {X : Cx} {W : WX} {B : Bs} {D : Ends} {pos : Pos}
def gLi (n : Nat) (gs : List PV → PSt → Res PSt) : PV → PSt → Res PSt := fun p s => match p with
  | .lst ps => if ps.length == n then gs ps s else .bad
  | _ => .bad
theorem pxg_li {es : List Expr} {k n : Nat} {gs : List PV → PSt → Res PSt} (hc : X.calm = true) (h : PXGs X B es gs)
    (hn : (assignEach es X.env).length = n := by rfl) (hst : (assignEach es X.env).findIdx? (·.1) = none := by rfl) : PXG X B (.Tuple es k pos) (gLi n gs) :=
  PG.weak (pg_lst hc h hn hst) fun v σ H Q ⟨s, p, R, r, q⟩ => by
    cases p with
    | lst ps =>
      obtain ⟨a, xs, rfl, st, rl⟩ := rep_lst.mp r
      unfold gLi at q
      dsimp only at q
      by_cases hl : (ps.length == n) = true
      · rw [if_pos hl] at q
        exact ⟨a, xs, rfl, st.sql, by rw [rl.length]; exact eq_of_beq hl, s, ps, R, rl, q⟩
      · rw [if_neg hl] at q
        exact q.elim
    | _ => exact q.elim
theorem nog_li {n : Nat} {gs : List PV → PSt → Res PSt} (h' : NoGs gs) : NoG (gLi n gs) := fun p s c v z => by
  unfold gLi at z
  cases p with
  | lst ps =>
    dsimp only at z
    split at z
    · exact h' _ _ _ _ z
    · cases z
  | _ => cases z
theorem okBad {P : Program} {w : World} {K : PySem.W.Frag} {mg : Str → Option Value} {base : Heap} {x qual : Str} {params : Arguments} {body : List Stmt} {scope : Scope} {f : Addr} {fd : FuncData} {ps : List Str} {C : CloT} {T : List (Addr × Str)} {io : Bool} {k n : Nat} (F : FunD K x qual params body scope [] [] f fd) (hm : mg x = some (.ref f)) (hn : ps.length = n)
    (hb : ∀ (kV doc pm : Value) (an : Option Addr) (cdv ct : Value) (us : List Value), us.length = ps.length → bindArgs (PySem.W.fnOf x qual params body scope .none kV doc pm an cdv ct) ⟨us, []⟩ = pure (ps.zip us)) : OkD P w K mg base k x io n C T (fun _ _ => .bad) :=
  ⟨f, fd, ps, hm, F.kp, FunD.bindsN F hb, hn, ⟨fun vs H Q E h => h.1, fun A outer s H args us vs Q E hr hg e0 b r h => by
    obtain ⟨_, _, q, ars, pt, ha, he⟩ := h
    exact (show False from he).elim⟩⟩
end
section
variable {s : PSt} {a : M PV}
@[simp] theorem e_Back : dBack a s = (a s).bind fun x => (backV x.1).bind fun r => .ok (r, x.2) := (rfl)
@[simp] theorem e_Up : dUp a s = (a s).bind fun x => (upV x.1).bind fun r => .ok (r, x.2) := (rfl)
@[simp] theorem e_gLi {n : Nat} {gs : List PV → PSt → Res PSt} {ps : List PV} : gLi n gs (.lst ps) s = if ps.length == n then gs ps s else .bad := (rfl)
@[simp] theorem e_Star {c : M Src} {r : M (List PV)} : dStar c r s = (c s).bind fun x => (optR ((x.1.get x.2).bind itemsV)).bind fun ps => (r x.2).bind fun y => .ok (ps ++ y.1, y.2) := (rfl)
@[simp] theorem v_backT {ps : List PV} : backV (.tup ps) = .ok (.tup ps.reverse) := (rfl)
@[simp] theorem v_backL {ps : List PV} : backV (.lst ps) = .ok (.lst ps.reverse) := (rfl)
end
end VL
set_option Elab.async false
set_option linter.all false
set_option maxRecDepth 100000
set_option maxHeartbeats 1000000
/-! VL33: values of any kind: what the laws draw of them. -/
namespace VL
set_option autoImplicit false
open PySem PySem.Spec PyProof.Rows L2
/-- data of at most d levels, texts and rows of at most m items -/
inductive Vok (m : Nat) : Nat → PV → Prop where
  | non {d : Nat} : Vok m d .non
  | bl {d : Nat} (b : Bool) : Vok m d (.bl b)
  | int {d : Nat} {i : Int} (h0 : -100000000000000000000 - (m : Int) ≤ i) (h1 : i ≤ 100000000000000000000 + (m : Int)) : Vok m d (.int i)
  | str {d : Nat} {x : Str} (h : x.length ≤ m) : Vok m d (.str x)
  | tup {d : Nat} {ps : List PV} (h : ps.length ≤ m) (k : ∀ p ∈ ps, Vok m d p) : Vok m (d + 1) (.tup ps)
  | lst {d : Nat} {ps : List PV} (h : ps.length ≤ m) (k : ∀ p ∈ ps, Vok m d p) : Vok m (d + 1) (.lst ps)
theorem Vok.mono {m m' : Nat} (hm : m ≤ m') : ∀ {d d' : Nat} {p : PV}, Vok m d p → d ≤ d' → Vok m' d' p := by
  intro d d' p h
  induction h generalizing d' with
  | non => intro _; exact .non
  | bl b => intro _; exact .bl b
  | int h0 h1 => intro _; exact .int (by omega) (by omega)
  | str h => intro _; exact .str (by omega)
  | tup h k ih =>
    intro hd
    obtain ⟨e, rfl⟩ : ∃ e, d' = e + 1 := ⟨d' - 1, by omega⟩
    exact .tup (by omega) fun p hp => ih p hp (by omega)
  | lst h k ih =>
    intro hd
    obtain ⟨e, rfl⟩ : ∃ e, d' = e + 1 := ⟨d' - 1, by omega⟩
    exact .lst (by omega) fun p hp => ih p hp (by omega)
theorem Vok.data {m d : Nat} {p : PV} (h : Vok m d p) : p.isData = true ∧ p.toD.depth ≤ d := by
  induction h with
  | non => simp [PV.isData, PV.toD, PyData.depth]
  | bl b => simp [PV.isData, PV.toD, PyData.depth]
  | int h0 h1 => simp [PV.isData, PV.toD, PyData.depth]
  | str h => simp [PV.isData, PV.toD, PyData.depth]
  | tup h k ih =>
    refine ⟨by simp only [PV.isData]; exact dataL_all fun p hp => (ih p hp).1, ?_⟩
    simp only [PV.toD, PyData.depth]
    have := depthAll_le fun p hp => (ih p hp).2
    omega
  | lst h k ih =>
    refine ⟨by simp only [PV.isData]; exact dataL_all fun p hp => (ih p hp).1, ?_⟩
    simp only [PV.toD, PyData.depth]
    have := depthAll_le fun p hp => (ih p hp).2
    omega
theorem Vok.okD {m d : Nat} {p : PV} (h : Vok m d p) (hd : d ≤ 60) : okD p = true := by
  unfold VL.okD
  rw [h.data.1, decide_eq_true (by have := h.data.2; omega), Bool.and_self]
/-! slices -/
theorem cutP_to {ps : List PV} {n : Nat} : cutP ps none (some (n : Int)) = ps.take n := by
  unfold cutP
  rw [HT.sIx_nat, HT.sIx_none, List.drop_zero, Nat.sub_zero]
  by_cases h : n ≤ ps.length
  · rw [Nat.min_eq_left h]
  · rw [Nat.min_eq_right (by omega), List.take_of_length_le (by omega), List.take_of_length_le (by omega)]
theorem cutP_from {ps : List PV} {n : Nat} : cutP ps (some (n : Int)) none = ps.drop n := by
  unfold cutP
  rw [HT.sIx_nat, HT.sIx_none]
  by_cases h : n ≤ ps.length
  · rw [Nat.min_eq_left h, List.take_of_length_le (by simp)]
  · rw [Nat.min_eq_right (by omega), List.drop_of_length_le (by omega), List.drop_of_length_le (by omega)]; simp
theorem cutP_mem {ps : List PV} {lo hi : Option Int} {p : PV} (h : p ∈ cutP ps lo hi) : p ∈ ps := List.mem_of_mem_drop (List.mem_of_mem_take h)
theorem cutP_len {ps : List PV} {lo hi : Option Int} : (cutP ps lo hi).length ≤ ps.length := by
  unfold cutP
  rw [List.length_take, List.length_drop]; omega
/-! any value -/
def isI (p : PV) (a b : Int) : Bool := match p with
  | .int i => decide (a ≤ i) && decide (i ≤ b)
  | _ => false
def dWhole : M Fl := (dRet (dAndV (dIsT .int (dVar 0)) (dBl (dNot (dTru (dVal (dIsT .bool (dVar 0))))))))
def whB : PV → Bool
  | .int _ => true
  | _ => false
theorem whole_ok {m d : Nat} {p : PV} (h : Vok m d p) : dFn false 1 dWhole [] [p] = .ok (.sh (.bl (whB p)), []) := by
  cases h <;> exact fn_rt (by simp [dWhole, startP, isTy, whB]; rfl)
def dInteger (Fw : Fn) : M Fl := (dRet (dAndV (asSh (dCall 1 Fw (dCons (dVar 0) dNil))) (dChain leV leV (dVar 1) (dVar 0) (dVar 2))))
theorem integer_ok {Fw : Fn} (hw : Fw = dFn false 1 dWhole) {m d : Nat} {p : PV} (h : Vok m d p) (a b : Int) : dFn false 3 (dInteger Fw) [] [p, .int a, .int b] = .ok (.sh (.bl (isI p a b)), []) := by
  have e := whole_ok h
  rw [← hw] at e
  cases h with
  | int h0 h1 =>
    rename_i i
    refine fn_rt (s' := [some (.sh (.int i)), some (.sh (.int a)), some (.sh (.int b))]) ?_
    by_cases ha : a ≤ i <;> simp [dInteger, startP, e, whB, isI, ha]
  | _ => exact fn_rt (by simp [dInteger, startP, e, whB, isI]; rfl)
def dLawInt : M Fl := (dRet (dAndV (dIsT .int (dVar 0)) (dAndV (dBl (dNot (dTru (dVal (dIsT .bool (dVar 0)))))) (dChain leV leV (dVar 1) (dVar 0) (dVar 2)))))
theorem lawInt_ok {m d : Nat} {p : PV} (h : Vok m d p) (a b : Int) : dFn false 3 dLawInt [] [p, .int a, .int b] = .ok (.sh (.bl (isI p a b)), []) := by
  cases h with
  | int h0 h1 =>
    rename_i i
    refine fn_rt (s' := [some (.sh (.int i)), some (.sh (.int a)), some (.sh (.int b))]) ?_
    by_cases ha : a ≤ i <;> simp [dLawInt, startP, isTy, isI, ha]
  | _ => exact fn_rt (by simp [dLawInt, startP, isTy, isI]; rfl)
def isTu (p : PV) (a b : Int) : Bool := match p with
  | .tup ps => decide (a ≤ (ps.length : Int)) && decide ((ps.length : Int) ≤ b)
  | _ => false
def dTuple : M Fl := (dRet (dAndV (dIsT .tuple (dVar 0)) (dChain leV leV (dVar 1) (dC1 lenV (dSlot 0)) (dVar 2))))
theorem tuple_ok {m d : Nat} {p : PV} (h : Vok m d p) (a b : Int) : dFn false 3 dTuple [] [p, .int a, .int b] = .ok (.sh (.bl (isTu p a b)), []) := by
  cases h with
  | tup h k =>
    rename_i d ps
    refine fn_rt (s' := [some (.sh (.tup ps)), some (.sh (.int a)), some (.sh (.int b))]) ?_
    by_cases ha : a ≤ (ps.length : Int) <;> simp [dTuple, startP, isTy, isTu, ha]
  | _ => exact fn_rt (by simp [dTuple, startP, isTy, isTu]; rfl)
/-! drawn of a kind -/
def dOdd (Of : Fn) : M Fl := (dSeq (dAsg (gNm 1) (dLst (dCons (dC .non) (dCons (dC (.bl true)) (dCons (dC (.bl false)) (dCons (dC (.int 0)) (dCons (dC (.int 1)) (dCons (dNeg (dC (.int 1))) (dCons (dC (.int 2)) (dCons (dC (.int 1001)) (dCons (dC (.str "")) (dCons (dC (.str "a")) (dCons (dC (.str "map")) (dCons (dC (.str "to")) (dCons (dTup dNil) (dCons (dLst dNil) (dCons (dTup (dCons (dC (.int 0)) dNil)) (dCons (dTup (dCons (dTup dNil) dNil)) (dCons (dLst (dCons (dC (.int 1)) dNil)) (dCons (dTup (dCons (dC (.bl true)) dNil)) (dCons (dTup (dCons (dC .non) dNil)) dNil)))))))))))))))))))))
  (dSeq (dAsg (gNm 1) (dBin addV (dVar 1) (dLst (dCons (dTup (dCons (dC (.str "a")) dNil)) (dCons (dTup (dCons (dTup (dCons (dC (.int 0)) dNil)) (dCons (dTup dNil) dNil))) (dCons (dTup (dCons (dC (.int 7)) dNil)) (dCons (dTup (dCons (dC (.int 0)) (dCons (dLst (dCons (dC (.int 0)) dNil)) dNil))) (dCons (dTup (dCons (dTup (dCons (dC (.int 0)) dNil)) (dCons (dTup (dCons (dTup (dCons (dC (.int 0)) (dCons (dC (.int 1)) dNil))) dNil)) dNil))) (dCons (dLst (dCons (dTup (dCons (dC (.int 0)) dNil)) (dCons (dTup (dCons (dTup (dCons (dC (.int 0)) (dCons (dC (.int 0)) dNil))) dNil)) dNil))) (dCons (dC (.str "map 0")) (dCons (dBin powV (dC (.int 10)) (dC (.int 20))) dNil)))))))))))
  (dRet (asSh (dCallI 0 2 Of (dCons (dVar 1) dNil))))))
def odds1 : List PV := [.non, .bl true, .bl false, .int 0, .int 1, .int (-1), .int 2, .int 1001, .str "", .str "a", .str "map", .str "to", .tup [], .lst [], .tup [.int 0], .tup [.tup []], .lst [.int 1], .tup [.bl true], .tup [.non]]
def odds2 : List PV := [.tup [.str "a"], .tup [.tup [.int 0], .tup []], .tup [.int 7], .tup [.int 0, .lst [.int 0]], .tup [.tup [.int 0], .tup [.tup [.int 0, .int 1]]], .lst [.tup [.int 0], .tup [.tup [.int 0, .int 0]]], .str "map 0", .int 100000000000000000000]
theorem pow20 : powV (.int 10) (.int 20) = .ok (.int 100000000000000000000) := by kernel_rfl
mutual
def vokB (m : Nat) : Nat → PV → Bool
  | _, .non => true
  | _, .bl _ => true
  | _, .int i => decide (-100000000000000000000 - (m : Int) ≤ i) && decide (i ≤ 100000000000000000000 + (m : Int))
  | _, .str x => Nat.ble x.length m
  | 0, .tup _ => false
  | 0, .lst _ => false
  | d + 1, .tup ps => Nat.ble ps.length m && vokL m d ps
  | d + 1, .lst ps => Nat.ble ps.length m && vokL m d ps
  | _, _ => false
def vokL (m : Nat) : Nat → List PV → Bool
  | _, [] => true
  | d, p :: ps => vokB m d p && vokL m d ps
end
mutual
theorem vokB_ok {m : Nat} : ∀ (d : Nat) (p : PV), vokB m d p = true → Vok m d p
  | d, .non, _ => .non
  | d, .bl _, _ => .bl _
  | d, .int i, h => by
    simp only [vokB, Bool.and_eq_true, decide_eq_true_eq] at h
    exact .int h.1 h.2
  | d, .str x, h => by
    simp only [vokB] at h
    exact .str (Nat.le_of_ble_eq_true h)
  | 0, .tup _, h => by simp [vokB] at h
  | 0, .lst _, h => by simp [vokB] at h
  | d + 1, .tup ps, h => by
    simp only [vokB, Bool.and_eq_true] at h
    exact .tup (Nat.le_of_ble_eq_true h.1) (vokL_ok d ps h.2)
  | d + 1, .lst ps, h => by
    simp only [vokB, Bool.and_eq_true] at h
    exact .lst (Nat.le_of_ble_eq_true h.1) (vokL_ok d ps h.2)
  | d, .dct _ _, h => by cases d <;> simp [vokB] at h
  | d, .clo _, h => by cases d <;> simp [vokB] at h
  | d, .fn _, h => by cases d <;> simp [vokB] at h
  | d, .err _ _, h => by cases d <;> simp [vokB] at h
  | d, .dtt _ _, h => by cases d <;> simp [vokB] at h
  | d, .tix _, h => by cases d <;> simp [vokB] at h
theorem vokL_ok {m : Nat} : ∀ (d : Nat) (ps : List PV), vokL m d ps = true → ∀ p ∈ ps, Vok m d p
  | d, [], _, p, hp => by simp at hp
  | d, q :: ps, h, p, hp => by
    simp only [vokL, Bool.and_eq_true] at h
    rcases List.mem_cons.mp hp with e | hp
    · rw [e]; exact vokB_ok d q h.1
    · exact vokL_ok d ps h.2 p hp
end
theorem odds1_ok : ∀ p ∈ odds1, Vok 2000 3 p := vokL_ok 3 odds1 (by decide +kernel)
theorem odds2_ok : ∀ p ∈ odds2, Vok 2000 3 p := vokL_ok 3 odds2 (by decide +kernel)
theorem asg_nm (i : Nat) {a : M PV} {s s1 : PSt} {v : PV} (h : a s = .ok (v, s1)) : dAsg (gNm i) a s = .ok (.nx, s1.set i (some (.sh v))) := by simp [h]
theorem bin_run {g : PV → PV → Res PV} {a b : M PV} {s s1 s2 : PSt} {p q r : PV} (h1 : a s = .ok (p, s1)) (h2 : b s1 = .ok (q, s2)) (h3 : g p q = .ok r) : dBin g a b s = .ok (r, s2) := by
  rw [e_Bin, h1, Res.bind_ok, h2, Res.bind_ok, h3]; rfl
theorem ret_run {a : M PV} {s s1 : PSt} {v : PV} (h : a s = .ok (v, s1)) : dRet a s = .ok (.rt v, s1) := by
  rw [e_Ret, h]; rfl
def OfOk (Of : Fn) : Prop := ∀ (k : Nat), k ≤ 999999 → ∀ (q : List PV), Pot k q → ∀ ps : List PV, 0 < ps.length → ps.length < 1073741824 → ∃ (p : PV) (q' : List PV), Of q [.lst ps] = .ok (.sh p, q') ∧ p ∈ ps ∧ Pot (k + 1) q'
theorem ofOk {T : Fn} (hT : TakeOk T) : OfOk (dFn true 2 (dOf T)) := fun k hk q h ps h0 h1 => of_ok hT hk h h0 h1
theorem odd_ok {Of : Fn} (hO : OfOk Of) {k : Nat} (hk : k ≤ 999999) {q : List PV} (h : Pot k q) : ∃ (p : PV) (q' : List PV), dFn true 2 (dOdd Of) q [] = .ok (.sh p, q') ∧ Vok 2000 3 p ∧ Pot (k + 1) q' := by
  obtain ⟨p, q', e, hm, hp⟩ := hO k hk q h (odds1 ++ odds2) (by decide) (by decide)
  refine ⟨p, q', ?_, ?_, hp⟩
  · refine fn_io (s' := [some (.po (.lst q')), some (.sh (.lst (odds1 ++ odds2)))]) ?_ rfl
    refine seq_nx (s' := [some (.po (.lst q)), some (.sh (.lst odds1))]) (by simp [startP, fitN_of, odds1]) ?_
    have ha : addV (.lst odds1) (.lst odds2) = .ok (.lst (odds1 ++ odds2)) := v_addL (by decide)
    refine seq_nx (s' := [some (.po (.lst q)), some (.sh (.lst (odds1 ++ odds2)))]) (asg_nm 1 (s1 := [some (.po (.lst q)), some (.sh (.lst odds1))]) (bin_run (s1 := [some (.po (.lst q)), some (.sh (.lst odds1))]) (p := .lst odds1) (q := .lst odds2) (by simp) (by simp [fitN_of, pow20, odds2]) ha)) ?_
    generalize odds1 ++ odds2 = o12 at e ⊢
    simp [owA, e]
  · rcases List.mem_append.mp hm with hm | hm
    · exact odds1_ok p hm
    · exact odds2_ok p hm
end VL
/-! VL34: a value bent. -/
namespace VL
set_option autoImplicit false
open PySem PySem.Spec PyProof.Rows L2
def dBent (T Of Odd Fr : Fn) : M Fl := (dSeq (dIf (dAnd (dTru (dVal (dIsT .tuple (dVar 1)))) (dAnd (dTst (dBin neV (dVar 1) (dTup dNil))) (dTst (dBin gtV (asSh (dCallI 0 2 T (dCons (dC (.int 5)) dNil))) (dC (.int 0)))))) (dSeq (dAsg (gNm 2) (asSh (dCallI 0 2 T (dCons (dC1 lenV (dSlot 1)) dNil))))
  (dRet (dBin addV (dBin addV (dCut (dSlot 1) dNo (dPart (dVar 2))) (dTup (dCons (asSh (dCallI 0 2 Fr (dCons (dGet (dSlot 1) (dVar 2)) dNil))) dNil))) (dCut (dSlot 1) (dPart (dBin addV (dVar 2) (dC (.int 1)))) dNo)))) dNx)
  (dSeq (dIf (dTru (dVal (dIsT .tuple (dVar 1)))) (dRet (asSh (dCallI 0 2 Of (dCons (dLst (dCons (dC1F listV (dSlot 1)) (dCons (dCut (dSlot 1) (dPart (dC (.int 1))) dNo) (dCons (dCut (dSlot 1) dNo (dPart (dNeg (dC (.int 1))))) (dCons (dBin addV (dVar 1) (dCut (dSlot 1) (dPart (dNeg (dC (.int 1)))) dNo)) (dCons (dBack (dVar 1)) (dCons (dTup dNil) (dCons (dC .non) dNil)))))))) dNil)))) dNx)
  (dSeq (dIf (dTru (dVal (dIsT .bool (dVar 1)))) (dRet (asSh (dCallI 0 2 Of (dCons (dLst (dCons (dBl (dNot (dTru (dSlot 1)))) (dCons (dC1 intV (dSlot 1)) (dCons (dC .non) dNil)))) dNil)))) dNx)
  (dSeq (dIf (dTru (dVal (dIsT .int (dVar 1)))) (dRet (asSh (dCallI 0 2 Of (dCons (dLst (dCons (dBin addV (dVar 1) (dC (.int 1))) (dCons (dBin subV (dVar 1) (dC (.int 1))) (dCons (dNeg (dVar 1)) (dCons (dC1 strV (dSlot 1)) (dCons (dC .non) (dCons (dBin eqV' (dVar 1) (dC (.int 1))) (dCons (dTup (dCons (dVar 1) dNil)) dNil)))))))) dNil)))) dNx)
  (dSeq (dIf (dTru (dVal (dIsT .str (dVar 1)))) (dSeq (dAsg (gNm 3) (dLst (dCons (dBin addV (dVar 1) (dC (.str "a"))) (dCons (dCut (dSlot 1) dNo (dPart (dNeg (dC (.int 1))))) (dCons (dUp (dVar 1)) (dCons (dLst (dCons (dVar 1) dNil)) (dCons (dC (.str "a")) (dCons (dC .non) (dCons (dC (.int 0)) (dCons (dC (.str "")) (dCons (dBin addV (dC (.str "b")) (dVar 1)) (dCons (dBin addV (dVar 1) (dC (.str "/"))) dNil))))))))))))
  (dRet (asSh (dCallI 0 2 Of (dCons (dVar 3) dNil))))) dNx)
  (dRet (asSh (dCallI 0 1 Odd dNil))))))))
def rBent (T Of Odd : Fn) : Nat → Fn
  | 0 => fun _ _ => .bad
  | n + 1 => dFn true 4 (dBent T Of Odd (rBent T Of Odd n))
def OddOk (Odd : Fn) : Prop := ∀ (k : Nat), k ≤ 999999 → ∀ (q : List PV), Pot k q → ∃ (p : PV) (q' : List PV), Odd q [] = .ok (.sh p, q') ∧ Vok 2000 3 p ∧ Pot (k + 1) q'
section
variable {T Of Odd Fr : Fn} {m d k : Nat} {q : List PV} {p : PV}
abbrev bS (q : List PV) (p : PV) : PSt := [some (.po (.lst q)), some (.sh p), none, none]
/-- the first statement lets pass what is no tuple -/
theorem bent_skip (h : isTy .tuple p = some false) : dBent T Of Odd Fr (bS q p) = dSeq (dIf (dTru (dVal (dIsT .bool (dVar 1)))) (dRet (asSh (dCallI 0 2 Of (dCons (dLst (dCons (dBl (dNot (dTru (dSlot 1)))) (dCons (dC1 intV (dSlot 1)) (dCons (dC .non) dNil)))) dNil)))) dNx)
  (dSeq (dIf (dTru (dVal (dIsT .int (dVar 1)))) (dRet (asSh (dCallI 0 2 Of (dCons (dLst (dCons (dBin addV (dVar 1) (dC (.int 1))) (dCons (dBin subV (dVar 1) (dC (.int 1))) (dCons (dNeg (dVar 1)) (dCons (dC1 strV (dSlot 1)) (dCons (dC .non) (dCons (dBin eqV' (dVar 1) (dC (.int 1))) (dCons (dTup (dCons (dVar 1) dNil)) dNil)))))))) dNil)))) dNx)
  (dSeq (dIf (dTru (dVal (dIsT .str (dVar 1)))) (dSeq (dAsg (gNm 3) (dLst (dCons (dBin addV (dVar 1) (dC (.str "a"))) (dCons (dCut (dSlot 1) dNo (dPart (dNeg (dC (.int 1))))) (dCons (dUp (dVar 1)) (dCons (dLst (dCons (dVar 1) dNil)) (dCons (dC (.str "a")) (dCons (dC .non) (dCons (dC (.int 0)) (dCons (dC (.str "")) (dCons (dBin addV (dC (.str "b")) (dVar 1)) (dCons (dBin addV (dVar 1) (dC (.str "/"))) dNil))))))))))))
  (dRet (asSh (dCallI 0 2 Of (dCons (dVar 3) dNil))))) dNx)
  (dRet (asSh (dCallI 0 1 Odd dNil))))) (bS q p) := by
  unfold dBent
  refine seq_nx (s' := bS q p) (by simp [bS, h]) ?_
  exact seq_nx (s' := bS q p) (by simp [bS, h]) rfl
theorem str1_len (c : Str) (h : c.length = 1) (x : Str) : (x ++ c).length = x.length + 1 := by rw [strLen_append, h]
theorem v_listT {ps : List PV} : listV (.tup ps) = .ok ps := (rfl)
theorem v_listL {ps : List PV} : listV (.lst ps) = .ok ps := (rfl)
/-- what a tuple is bent to -/
def bTup (ps : List PV) : List PV := [.lst ps, .tup (cutP ps (some 1) none), .tup (cutP ps none (some (-1))), .tup (ps ++ cutP ps (some (-1)) none), .tup ps.reverse, .tup [], .non]
theorem bTup_ok {ps : List PV} (h : ps.length ≤ m) (k : ∀ p ∈ ps, Vok m d p) : ∀ p ∈ bTup ps, Vok (3 * m + 10) (d + 1) p := by
  have k' : ∀ p ∈ ps, Vok (3 * m + 10) d p := fun p hp => (k p hp).mono (by omega) (Nat.le_refl _)
  have hl : ∀ lo hi, (cutP ps lo hi).length ≤ ps.length := fun lo hi => cutP_len
  intro p hp
  simp only [bTup, List.mem_cons, List.not_mem_nil, or_false] at hp
  rcases hp with rfl | rfl | rfl | rfl | rfl | rfl | rfl
  · exact .lst (by omega) k'
  · exact .tup (by have := hl (some 1) none; omega) fun p hp => k' p (cutP_mem hp)
  · exact .tup (by have := hl none (some (-1)); omega) fun p hp => k' p (cutP_mem hp)
  · refine .tup (by have := hl (some (-1)) none; rw [List.length_append]; omega) fun p hp => ?_
    rcases List.mem_append.mp hp with hp | hp
    · exact k' p hp
    · exact k' p (cutP_mem hp)
  · exact .tup (by rw [List.length_reverse]; omega) fun p hp => k' p (List.mem_reverse.mp hp)
  · exact .tup (by simp) (by simp)
  · exact .non
theorem bTup_run {ps : List PV} (h : ps.length ≤ 1000000) (q : List PV) : dLst (dCons (dC1F listV (dSlot 1)) (dCons (dCut (dSlot 1) (dPart (dC (.int 1))) dNo) (dCons (dCut (dSlot 1) dNo (dPart (dNeg (dC (.int 1))))) (dCons (dBin addV (dVar 1) (dCut (dSlot 1) (dPart (dNeg (dC (.int 1)))) dNo)) (dCons (dBack (dVar 1)) (dCons (dTup dNil) (dCons (dC .non) dNil))))))) (bS q (.tup ps)) = .ok (.lst (bTup ps), bS q (.tup ps)) := by
  have hl : (cutP ps (some (-1)) none).length ≤ ps.length := cutP_len
  have ha : addV (.tup ps) (.tup (cutP ps (some (-1)) none)) = .ok (.tup (ps ++ cutP ps (some (-1)) none)) := v_addT (by omega)
  simp [bS, v_listT, cutR, ha, fitN_of, bTup]
theorem bent_tup (hO : OfOk Of) (hk : k ≤ 999000) (hp : Pot k q) {ps : List PV} (h : ps.length ≤ m) (hm : m ≤ 1000000) (kk : ∀ p ∈ ps, Vok m d p) (rest : M Fl) :
    ∃ (r : PV) (q' : List PV), dSeq (dIf (dTru (dVal (dIsT .tuple (dVar 1)))) (dRet (asSh (dCallI 0 2 Of (dCons (dLst (dCons (dC1F listV (dSlot 1)) (dCons (dCut (dSlot 1) (dPart (dC (.int 1))) dNo) (dCons (dCut (dSlot 1) dNo (dPart (dNeg (dC (.int 1))))) (dCons (dBin addV (dVar 1) (dCut (dSlot 1) (dPart (dNeg (dC (.int 1)))) dNo)) (dCons (dBack (dVar 1)) (dCons (dTup dNil) (dCons (dC .non) dNil)))))))) dNil)))) dNx) rest (bS q (.tup ps)) = .ok (.rt r, bS q' (.tup ps)) ∧ Vok (3 * m + 10) (d + 1) r ∧ Pot (k + 1) q' := by
  obtain ⟨r, q', e, hr, hq⟩ := hO k (by omega) q hp (bTup ps) (by simp [bTup]) (by simp [bTup])
  refine ⟨r, q', ?_, bTup_ok h kk r hr, hq⟩
  have hrun := bTup_run (ps := ps) (by omega) q
  generalize (dLst (dCons (dC1F listV (dSlot 1)) (dCons (dCut (dSlot 1) (dPart (dC (.int 1))) dNo) (dCons (dCut (dSlot 1) dNo (dPart (dNeg (dC (.int 1))))) (dCons (dBin addV (dVar 1) (dCut (dSlot 1) (dPart (dNeg (dC (.int 1)))) dNo)) (dCons (dBack (dVar 1)) (dCons (dTup dNil) (dCons (dC .non) dNil)))))))) = de at hrun ⊢
  generalize bTup ps = bt at e hrun
  simp only [bS] at hrun ⊢
  simp [isTy, owA, hrun, e]
/-- a place of a tuple bent -/
theorem bent_at (hT : TakeOk T) (hk : k ≤ 999000) (hp : Pot k q) {ps : List PV} (h : ps.length ≤ m) (hm : m ≤ 1000000) (h0 : ps ≠ []) {M D j : Nat} (hF : ∀ (p : PV) (q : List PV), p ∈ ps → Pot (k + 1) q → ∃ (r : PV) (q' : List PV), Fr q [p] = .ok (.sh r, q') ∧ Vok M D r ∧ Pot (k + 1 + j) q') (kk : ∀ p ∈ ps, Vok M D p) (hM : m ≤ M) :
    ∃ (r : PV) (q' : List PV) (a2 : Option LV), dSeq (dAsg (gNm 2) (asSh (dCallI 0 2 T (dCons (dC1 lenV (dSlot 1)) dNil))))
  (dRet (dBin addV (dBin addV (dCut (dSlot 1) dNo (dPart (dVar 2))) (dTup (dCons (asSh (dCallI 0 2 Fr (dCons (dGet (dSlot 1) (dVar 2)) dNil))) dNil))) (dCut (dSlot 1) (dPart (dBin addV (dVar 2) (dC (.int 1)))) dNo))) (bS q (.tup ps)) = .ok (.rt r, [some (.po (.lst q')), some (.sh (.tup ps)), a2, none]) ∧ Vok M (D + 1) r ∧ Pot (k + 1 + j) q' := by
  have hl : 0 < ps.length := List.length_pos_iff.mpr h0
  obtain ⟨z, q1, e1, ⟨z0, z1⟩, p1⟩ := hT k (by omega) q hp (ps.length : Int) (by omega) (by omega)
  obtain ⟨n, rfl⟩ := Int.eq_ofNat_of_zero_le z0
  have hn : n < ps.length := by omega
  have hat : atI ps (n : Int) = some ps[n] := atI_nat (List.getElem?_eq_getElem hn)
  obtain ⟨r, q2, e2, hr, p2⟩ := hF ps[n] q1 (List.getElem_mem hn) p1
  have c1 : cutP ps none (some (n : Int)) = ps.take n := cutP_to
  have c2 : cutP ps (some ((n : Int) + 1)) none = ps.drop (n + 1) := cutP_from (n := n + 1)
  have a1 : addV (.tup (ps.take n)) (.tup [r]) = .ok (.tup (ps.take n ++ [r])) := v_addT (by simp; omega)
  have a2 : addV (.tup (ps.take n ++ [r])) (.tup (ps.drop (n + 1))) = .ok (.tup (ps.take n ++ [r] ++ ps.drop (n + 1))) := v_addT (by simp; omega)
  refine ⟨.tup (ps.take n ++ [r] ++ ps.drop (n + 1)), q2, some (.sh (.int (n : Int))), ?_, .tup (by simp; omega) (fun p hp => ?_), p2⟩
  · generalize ps.take n ++ [r] ++ ps.drop (n + 1) = w3 at a2 ⊢
    generalize ps.take n ++ [r] = w2 at a1 a2
    refine seq_nx (s' := [some (.po (.lst q1)), some (.sh (.tup ps)), some (.sh (.int (n : Int))), none]) (by simp [bS, owA, e1]) ?_
    refine ret_run (bin_run (s1 := [some (.po (.lst q2)), some (.sh (.tup ps)), some (.sh (.int (n : Int))), none]) (bin_run (s1 := [some (.po (.lst q1)), some (.sh (.tup ps)), some (.sh (.int (n : Int))), none]) (p := .tup (ps.take n)) (q := .tup [r]) ?_ ?_ a1) (q := .tup (ps.drop (n + 1))) ?_ a2)
    · simp [cutR, c1]
    · simp [owA, hat, e2, fitN_of]
    · simp [cutR, c2]
  · rcases List.mem_append.mp hp with hp | hp
    · rcases List.mem_append.mp hp with hp | hp
      · exact kk p (List.mem_of_mem_take hp)
      · rw [List.mem_singleton.mp hp]; exact hr
    · exact kk p (List.mem_of_mem_drop hp)
theorem bent_bl (hO : OfOk Of) (hk : k ≤ 999000) (hp : Pot k q) (b : Bool) : ∃ (r : PV) (q' : List PV), dBent T Of Odd Fr (bS q (.bl b)) = .ok (.rt r, bS q' (.bl b)) ∧ Vok 2000 1 r ∧ Pot (k + 1) q' := by
  obtain ⟨r, q', e, hr, hq⟩ := hO k (by omega) q hp [.bl (!b), .int (if b then 1 else 0), .non] (by simp) (by simp)
  refine ⟨r, q', ?_, ?_, hq⟩
  · rw [bent_skip rfl]
    simp [bS, isTy, owA, fitN_of, e]
  · simp only [List.mem_cons, List.not_mem_nil, or_false] at hr
    rcases hr with rfl | rfl | rfl
    · exact .bl _
    · exact .int (by split <;> omega) (by split <;> omega)
    · exact .non
theorem bent_int (hO : OfOk Of) (hk : k ≤ 999000) (hp : Pot k q) (i : Int) (h0 : -100000000000000000000 - (m : Int) ≤ i) (h1 : i ≤ 100000000000000000000 + (m : Int)) (hm : m ≤ 1000000) (hm2 : 2000 ≤ m) : ∃ (r : PV) (q' : List PV), dBent T Of Odd Fr (bS q (.int i)) = .ok (.rt r, bS q' (.int i)) ∧ Vok (3 * m + 10) 1 r ∧ Pot (k + 1) q' := by
  have hb : i.natAbs < 2 ^ 200 := Nat.lt_of_le_of_lt (show i.natAbs ≤ 200000000000000000000 by omega) (by decide)
  have hlg : i.natAbs.log2 < 1920 := by
    by_cases h0 : i.natAbs = 0
    · rw [h0]; decide
    · have := (Nat.log2_lt (n := i.natAbs) (k := 200) h0).mpr hb
      omega
  have hst : strV (.int i) = .ok (.str (toString i)) := if_pos (Nat.ble_eq_true_of_le hlg)
  have hsl : ((toString i : String) : Str).length ≤ 1921 := int_text_len_1921 hlg
  obtain ⟨r, q', e, hr, hq⟩ := hO k (by omega) q hp [.int (i + 1), .int (i - 1), .int (-i), .str (toString i), .non, .bl (decide (i = 1)), .tup [.int i]] (by simp) (by simp)
  refine ⟨r, q', ?_, ?_, hq⟩
  · rw [bent_skip rfl]
    generalize (((toString i : String) : Str)) = si at e hst
    simp [bS, isTy, owA, fitN_of, hst, VL.eq_int, e]
  · simp only [List.mem_cons, List.not_mem_nil, or_false] at hr
    rcases hr with rfl | rfl | rfl | rfl | rfl | rfl | rfl
    · exact .int (by omega) (by omega)
    · exact .int (by omega) (by omega)
    · exact .int (by omega) (by omega)
    · exact .str (by omega)
    · exact .non
    · exact .bl _
    · exact .tup (by simp) (by intro p hp; rw [List.mem_singleton.mp hp]; exact .int (by omega) (by omega))
theorem bent_str (hO : OfOk Of) (hk : k ≤ 999000) (hp : Pot k q) (x : Str) (h : x.length ≤ m) (hm : m ≤ 1000000) (hm2 : 2000 ≤ m) : ∃ (r : PV) (q' : List PV) (a3 : Option LV), dBent T Of Odd Fr (bS q (.str x)) = .ok (.rt r, [some (.po (.lst q')), some (.sh (.str x)), none, a3]) ∧ Vok (3 * m + 10) 1 r ∧ Pot (k + 1) q' := by
  have f1 : fitsL x.length = true := Nat.ble_eq_true_of_le (by omega)
  have u1 : upV (.str x) = .ok (.str (Txt.upper x)) := if_pos (Nat.ble_eq_true_of_le (by omega))
  have ul := PyProof.Rows.len_upper x
  have la : ("a" : Str).length = 1 := by decide
  have lb : ("b" : Str).length = 1 := by decide
  have ls : ("/" : Str).length = 1 := by decide
  have a1 : addV (.str x) (.str "a") = .ok (.str (x ++ "a")) := v_addS (by rw [la]; omega)
  have a2 : addV (.str "b") (.str x) = .ok (.str ("b" ++ x)) := v_addS (by rw [lb]; omega)
  have a3 : addV (.str x) (.str "/") = .ok (.str (x ++ "/")) := v_addS (by rw [ls]; omega)
  have c1 : cutR (.str x) none (some (-1)) = .ok (.str (cutS x none (some (-1)))) := if_pos f1
  have cl := cutS_length x none (some (-1))
  let L : List PV := [.str (x ++ "a"), .str (cutS x none (some (-1))), .str (Txt.upper x), .lst [.str x], .str "a", .non, .int 0, .str "", .str ("b" ++ x), .str (x ++ "/")]
  obtain ⟨r, q', e, hr, hq⟩ := hO k (by omega) q hp L (by simp [L]) (by simp [L])
  refine ⟨r, q', some (.sh (.lst L)), ?_, ?_, hq⟩
  · rw [bent_skip rfl]
    refine seq_nx (s' := bS q (.str x)) (by simp [bS, isTy]) ?_
    refine seq_nx (s' := bS q (.str x)) (by simp [bS, isTy]) ?_
    have hL : dLst (dCons (dBin addV (dVar 1) (dC (.str "a"))) (dCons (dCut (dSlot 1) dNo (dPart (dNeg (dC (.int 1))))) (dCons (dUp (dVar 1)) (dCons (dLst (dCons (dVar 1) dNil)) (dCons (dC (.str "a")) (dCons (dC .non) (dCons (dC (.int 0)) (dCons (dC (.str "")) (dCons (dBin addV (dC (.str "b")) (dVar 1)) (dCons (dBin addV (dVar 1) (dC (.str "/"))) dNil)))))))))) (bS q (.str x)) = .ok (.lst L, bS q (.str x)) := by
      simp [bS, a1, a2, a3, c1, u1, fitN_of, L]
    have hif : ∀ (A : M Fl) (R : Res (Fl × PSt)) (p : PV) (s : PSt), A (bS q (.str x)) = .ok (.rt p, s) → dSeq (dIf (dTru (dVal (dIsT .str (dVar 1)))) A dNx) (dRet (asSh (dCallI 0 1 Odd dNil))) (bS q (.str x)) = .ok (.rt p, s) := fun A R p s h => by
      simp [bS] at h ⊢
      simp [isTy, h]
    refine hif _ .bad _ _ (seq_nx (asg_nm 3 hL) ?_)
    generalize L = LL at e
    simp [bS, owA, e]
  · simp only [L, List.mem_cons, List.not_mem_nil, or_false] at hr
    rcases hr with rfl | rfl | rfl | rfl | rfl | rfl | rfl | rfl | rfl | rfl
    · exact .str (by rw [strLen_append, la]; omega)
    · exact .str (by omega)
    · exact .str (by omega)
    · exact .lst (by simp) (by intro p hp; rw [List.mem_singleton.mp hp]; exact .str (by omega))
    · exact .str (by rw [la]; omega)
    · exact .non
    · exact .int (by omega) (by omega)
    · exact .str (by have : ("" : Str).length = 0 := by decide
                     omega)
    · exact .str (by rw [strLen_append, lb]; omega)
    · exact .str (by rw [strLen_append, ls]; omega)
theorem bent_else (hO : OddOk Odd) (hk : k ≤ 999000) (hp : Pot k q) (h1 : isTy .tuple p = some false) (h2 : isTy .bool p = some false) (h3 : isTy .int p = some false) (h4 : isTy .str p = some false) : ∃ (r : PV) (q' : List PV), dBent T Of Odd Fr (bS q p) = .ok (.rt r, bS q' p) ∧ Vok 2000 3 r ∧ Pot (k + 1) q' := by
  obtain ⟨r, q', e, hr, hq⟩ := hO k (by omega) q hp
  refine ⟨r, q', ?_, hr, hq⟩
  rw [bent_skip h1]
  simp [bS, h2, h3, h4, owA, e]
theorem bent_ok (hT : TakeOk T) (hO : OfOk Of) (hD : OddOk Odd) {Z : Nat} (hM : 2000 ≤ Z) (hM2 : Z ≤ 1000000) : ∀ (n d : Nat) (p : PV), n ≤ 50 → d < n → Vok Z d p → ∀ (k : Nat) (q : List PV), k + 3 * n ≤ 998000 → Pot k q → ∃ (r : PV) (q' : List PV), rBent T Of Odd n q [p] = .ok (.sh r, q') ∧ Vok (3 * Z + 10) (d + 3) r ∧ Pot (k + 3 * n) q'
  | 0, d, p, _, h, _ => by omega
  | n + 1, d, p, hn, hd, hv => fun k q hk hp => by
    show ∃ (r : PV) (q' : List PV), dFn true 4 (dBent T Of Odd (rBent T Of Odd n)) q [p] = .ok (.sh r, q') ∧ _
    have fin : ∀ {r : PV} {q' : List PV} {a2 a3 : Option LV} {D m j : Nat}, dBent T Of Odd (rBent T Of Odd n) (bS q p) = .ok (.rt r, [some (.po (.lst q')), some (.sh p), a2, a3]) → Vok m D r → m ≤ 3 * Z + 10 → D ≤ d + 3 → Pot (k + j) q' → j ≤ 3 * (n + 1) →
        ∃ (r : PV) (q' : List PV), dFn true 4 (dBent T Of Odd (rBent T Of Odd n)) q [p] = .ok (.sh r, q') ∧ Vok (3 * Z + 10) (d + 3) r ∧ Pot (k + 3 * (n + 1)) q' := fun e hr hm hD' hq hj => ⟨_, _, fn_io e rfl, hr.mono hm hD', hq.mono (by omega)⟩
    cases hv with
    | non =>
      obtain ⟨r, q', e, hr, hq⟩ := bent_else (T := T) (Of := Of) (Fr := rBent T Of Odd n) hD (by omega) hp (p := .non) rfl rfl rfl rfl
      exact fin e hr (by omega) (by omega) hq (by omega)
    | bl b =>
      obtain ⟨r, q', e, hr, hq⟩ := bent_bl (T := T) (Odd := Odd) (Fr := rBent T Of Odd n) hO (by omega) hp b
      exact fin e hr (by omega) (by omega) hq (by omega)
    | int h0 h1 =>
      obtain ⟨r, q', e, hr, hq⟩ := bent_int (T := T) (Odd := Odd) (Fr := rBent T Of Odd n) hO (by omega) hp _ h0 h1 hM2 hM
      exact fin e hr (by omega) (by omega) hq (by omega)
    | str h =>
      obtain ⟨r, q', a3, e, hr, hq⟩ := bent_str (T := T) (Odd := Odd) (Fr := rBent T Of Odd n) hO (by omega) hp _ h hM2 hM
      exact fin e hr (by omega) (by omega) hq (by omega)
    | lst h kk =>
      obtain ⟨r, q', e, hr, hq⟩ := bent_else (T := T) (Of := Of) (Fr := rBent T Of Odd n) hD (by omega) hp (p := .lst _) rfl rfl rfl rfl
      exact fin e hr (by omega) (by omega) hq (by omega)
    | tup h kk =>
      rename_i d ps
      by_cases h0 : ps = []
      · -- no item: straight to the second statement
        obtain ⟨r, q', e, hr, hq⟩ := bent_tup hO (by omega) hp h hM2 kk _
        refine fin (r := r) (q' := q') (a2 := none) (a3 := none) ?_ hr (by omega) (by omega) hq (by omega)
        refine seq_nx (s' := bS q (.tup ps)) ?_ e
        subst h0
        have hne : neV (.tup []) (.tup []) = .ok (.bl false) := ne_self (d := 1) (n := 3) ((small_tup (d := 0) (n := 0) (L := 0) (by simp) (by simp)).mono (by omega) (by omega)) (by omega)
        simp [bS, isTy, fitN_of, hne]
      · obtain ⟨z, q1, e1, ⟨z0, z1⟩, p1⟩ := hT k (by omega) q hp 5 (by decide) (by decide)
        have hne : neV (.tup ps) (.tup []) = .ok (.bl true) := by
          have o1 : okD (.tup ps) = true := (Vok.tup h kk).okD (by omega)
          have o2 : okD (.tup []) = true := (Vok.tup (m := 0) (d := 0) (ps := []) (by simp) (by simp)).okD (by omega)
          have e2 : eqB (.tup ps) (.tup []) = false := by
            cases ps with
            | nil => exact absurd rfl h0
            | cons a b => rfl
          unfold neV
          rw [o1, o2, e2]; rfl
        by_cases hz : 0 < z
        · obtain ⟨r, q', a2, e, hr, hq⟩ := bent_at (T := T) (Fr := rBent T Of Odd n) (M := 3 * Z + 10) (D := d + 3) (j := 3 * n) hT (show k + 1 ≤ 999000 by omega) p1 h hM2 h0 (fun p q hp hq => by
            obtain ⟨r, q', a, b, c⟩ := bent_ok hT hO hD hM hM2 n d p (by omega) (by omega) (kk p hp) (k + 1 + 1) q (by omega) hq
            exact ⟨r, q', a, b, c⟩) (fun p hp => (kk p hp).mono (by omega) (by omega)) (by omega)
          refine fin (r := r) (q' := q') (a2 := a2) (a3 := none) (j := 1 + 1 + 3 * n) ?_ hr (by omega) (by omega) (by rw [show k + (1 + 1 + 3 * n) = k + 1 + 1 + 3 * n by omega]; exact hq) (by omega)
          have hif : ∀ (A R : M Fl) (p : PV) (s : PSt), A (bS q1 (.tup ps)) = .ok (.rt p, s) → dSeq (dIf (dAnd (dTru (dVal (dIsT .tuple (dVar 1)))) (dAnd (dTst (dBin neV (dVar 1) (dTup dNil))) (dTst (dBin gtV (asSh (dCallI 0 2 T (dCons (dC (.int 5)) dNil))) (dC (.int 0)))))) A dNx) R (bS q (.tup ps)) = .ok (.rt p, s) := fun A R p s h => by
            simp only [bS] at h ⊢
            simp [isTy, fitN_of, hne, owA, e1, hz, h]
          exact hif _ _ _ _ e
        · obtain ⟨r, q', e, hr, hq⟩ := bent_tup hO (show k + 1 ≤ 999000 by omega) p1 h hM2 kk _
          refine fin (r := r) (q' := q') (a2 := none) (a3 := none) (j := 1 + 1) ?_ hr (by omega) (by omega) hq (by omega)
          refine seq_nx (s' := bS q1 (.tup ps)) ?_ e
          simp [bS, isTy, fitN_of, hne, owA, e1, hz]
end
end VL
/-! VL35: rows of whole numbers; loops by what each turn does. -/
namespace VL
set_option autoImplicit false
open PySem PySem.Spec PyProof.Rows L2
def I (rs : List Int) : List PV := rs.map PV.int
theorem ltB_int (a b : Int) : ltB (.int a) (.int b) = decide (a < b) := by
  simp only [ltB, PV.toD, PySem.W.dataLt_int]
theorem leB_int (a b : Int) : leB (.int a) (.int b) = decide (a ≤ b) := by
  rw [leB, ltB_int]
  by_cases h : b < a
  · simp [h]
  · simp [h]; omega
theorem okD_int (a : Int) : okD (.int a) = true := by simp [okD, PV.isData, PV.toD, PySem.PyData.depth]
theorem alike_int (a b : Int) : PySem.W.alike (PV.toD (.int a)) (PV.toD (.int b)) = true := by simp [PV.toD, PySem.W.alike]
theorem sortOk_I (rs : List Int) (h : rs.length ≤ 16777216) : sortOk (I rs) = true := by
  have hf : fitsL (I rs).length = true := Nat.ble_eq_true_of_le (by simpa [I] using h)
  have h1 : (I rs).all okD = true := by simp [I, okD_int]
  have h2 : (I rs).all isOther = true := by simp [I, isOther]
  have h3 : ((I rs).all fun p => (I rs).all fun q => PySem.W.alike p.toD q.toD) = true := by
    simp only [I, List.all_map, List.all_eq_true, Function.comp]
    intro x _ y _
    exact alike_int x y
  unfold sortOk
  rw [hf, h1, h2, h3]
  simp
theorem allInt_I (rs : List Int) : allInt (I rs) = true := by simp [allInt, I]
theorem sort_I (rs : List Int) : (I rs).mergeSort leB = I (rs.mergeSort fun a b => decide (a ≤ b)) := by
  unfold I
  exact (List.map_mergeSort fun a _ b _ => (leB_int a b).symm).symm
theorem lc_all {vs : List Nat} {g : PV → PSt → Res PSt} {t : M Bool} {e : M PV} (f : PV → PV) (s0 : PSt) : ∀ (ps acc : List PV), acc.length + ps.length ≤ 16777216 →
    (∀ p ∈ ps, ∃ s1 s2 s3, g p s0 = .ok s1 ∧ t s1 = .ok (true, s2) ∧ e s2 = .ok (f p, s3) ∧ wipeP s3 vs = s0) → dLcL vs g t e ps acc s0 = .ok (acc ++ ps.map f, s0)
  | [], acc, _, _ => by simp [dLcL]
  | p :: ps, acc, hl, h => by
    obtain ⟨s1, s2, s3, h1, h2, h3, h4⟩ := h p List.mem_cons_self
    have hf : fitsL (acc.length + 1) = true := Nat.ble_eq_true_of_le (by simp at hl; omega)
    unfold dLcL
    simp only [h1, h2, h3, h4, nox, Res.bind_ok, if_true, hf]
    rw [lc_all f s0 ps _ (by simp at hl ⊢; omega) fun q hq => h q (List.mem_cons_of_mem _ hq)]
    simp
theorem forL_list {g : PV → PSt → Res PSt} {body : M Fl} : ∀ (ps : List PV) (S : Nat → PSt), (∀ (i : Nat) (h : i < ps.length), ∃ s', g ps[i] (S i) = .ok s' ∧ body s' = .ok (.nx, S (i + 1))) → dForL g body ps (S 0) = .ok (.nx, S ps.length)
  | [], S, _ => rfl
  | p :: ps, S, h => by
    obtain ⟨s', h1, h2⟩ := h 0 (by simp)
    simp only [List.getElem_cons_zero] at h1
    unfold dForL
    simp only [h1, h2, Res.bind_ok]
    exact forL_list ps (fun i => S (i + 1)) fun i hi => by
      have := h (i + 1) (by simp; omega)
      simpa only [List.getElem_cons_succ] using this
theorem forL_range {g : PV → PSt → Res PSt} {body : M Fl} (lo : Int) (n : Nat) (S : Nat → PSt) (h : ∀ i : Nat, i < n → ∃ s', g (.int (lo + (i : Nat))) (S i) = .ok s' ∧ body s' = .ok (.nx, S (i + 1))) : dForL g body (rangeL lo n) (S 0) = .ok (.nx, S n) := by
  have := forL_list (g := g) (body := body) (rangeL lo n) S fun i hi => by
    have hi' : i < n := by simpa [rangeL] using hi
    have := h i hi'
    simpa [rangeL] using this
  simpa [rangeL] using this
def firstS (f : Nat → Option PV) (n : Nat) : Option PV := (List.range n).findSome? f
theorem forL_find {g : PV → PSt → Res PSt} {body : M Fl} : ∀ (ps : List PV) (S : Nat → PSt) (f : Nat → Option PV), (∀ (i : Nat) (h : i < ps.length), ∃ s', g ps[i] (S i) = .ok s' ∧ (match f i with
    | none => body s' = .ok (.nx, S (i + 1))
    | some r => ∃ s'', body s' = .ok (.rt r, s''))) → (match firstS f ps.length with
    | none => dForL g body ps (S 0) = .ok (.nx, S ps.length)
    | some r => ∃ s'', dForL g body ps (S 0) = .ok (.rt r, s''))
  | [], S, f, _ => rfl
  | p :: ps, S, f, h => by
    obtain ⟨s', h1, h2⟩ := h 0 (by simp)
    simp only [List.getElem_cons_zero] at h1
    have hs : firstS f (p :: ps).length = (match f 0 with
      | some r => some r
      | none => firstS (fun i => f (i + 1)) ps.length) := by
      unfold firstS
      rw [List.length_cons, List.range_succ_eq_map, List.findSome?_cons]
      cases f 0 with
      | some r => rfl
      | none => simp only [List.findSome?_map]; rfl
    rw [hs]
    cases e : f 0 with
    | some r =>
      rw [e] at h2
      obtain ⟨s'', h2⟩ := h2
      refine ⟨s'', ?_⟩
      unfold dForL
      simp only [h1, h2, Res.bind_ok]
    | none =>
      rw [e] at h2
      have ih := forL_find ps (fun i => S (i + 1)) (fun i => f (i + 1)) fun i hi => by
        have := h (i + 1) (by simp; omega)
        simpa only [List.getElem_cons_succ] using this
      have hd : dForL g body (p :: ps) (S 0) = dForL g body ps (S 1) := by
        conv => lhs; unfold dForL
        simp only [h1, h2, Res.bind_ok]
      show (match firstS (fun i => f (i + 1)) ps.length with
        | none => dForL g body (p :: ps) (S 0) = .ok (.nx, S (ps.length + 1))
        | some r => ∃ s'', dForL g body (p :: ps) (S 0) = .ok (.rt r, s''))
      rw [hd]
      exact ih
theorem forL_findR {g : PV → PSt → Res PSt} {body : M Fl} (lo : Int) (n : Nat) (S : Nat → PSt) (f : Nat → Option PV) (h : ∀ i : Nat, i < n → ∃ s', g (.int (lo + (i : Nat))) (S i) = .ok s' ∧ (match f i with
    | none => body s' = .ok (.nx, S (i + 1))
    | some r => ∃ s'', body s' = .ok (.rt r, s''))) : (match firstS f n with
    | none => dForL g body (rangeL lo n) (S 0) = .ok (.nx, S n)
    | some r => ∃ s'', dForL g body (rangeL lo n) (S 0) = .ok (.rt r, s'')) := by
  have hl : (rangeL lo n).length = n := by simp [rangeL]
  have := forL_find (g := g) (body := body) (rangeL lo n) S f fun i hi => by
    have := h i (by rwa [hl] at hi)
    simpa [rangeL] using this
  rw [hl] at this
  exact this
theorem atI_I (rs : List Int) (j : Int) (h0 : 0 ≤ j) (h1 : j < (rs.length : Int)) : atI (I rs) j = some (.int (rs.getD j.toNat 0)) := by
  obtain ⟨n, rfl⟩ := Int.eq_ofNat_of_zero_le h0
  apply atI_nat
  have : n < rs.length := by omega
  simp [I, List.getElem?_map, this, List.getD]
theorem sortL_I (rs : List Int) (h : rs.length ≤ 16777216) : sortL (.lst (I rs)) = .ok (I (rs.mergeSort fun a b => decide (a ≤ b))) := by
  simp [sortL, sortedV, sortOk_I rs h, sort_I]
theorem enumL_len : ∀ (ps : List PV) (k : Nat), (enumL k ps).length = ps.length
  | [], _ => rfl
  | p :: ps, k => by simp only [enumL, List.length_cons, enumL_len ps]
theorem any_I (as : List Int) (g : Int → Bool) : anyV (.lst (as.map fun a => .bl (g a))) = .ok (.bl (as.any g)) := by
  have h1 : isDataL (as.map fun a => PV.bl (g a)) = true := by simp [isDataL_eq, PV.isData]
  have h2 : (as.map fun a => PV.bl (g a)).all okT = true := by simp [okT]
  have h3 : (as.map fun a => PV.bl (g a)).any truB = as.any g := by
    simp [List.any_map, Function.comp_def, truB, PV.toD, PySem.PyData.truthy]
  simp only [anyV, v_itL, optR_some, Res.bind_ok, h1, h2, h3, Bool.and_self, if_true]
theorem allT {ps : List PV} (h : ∀ p ∈ ps, p = .bl true) : allV (.lst ps) = .ok (.bl true) := by
  have h1 : isDataL ps = true := by rw [isDataL_eq, List.all_eq_true]; intro p hp; rw [h p hp]; simp [PV.isData]
  have h2 : ps.all okT = true := by rw [List.all_eq_true]; intro p hp; rw [h p hp]; rfl
  have h3 : ps.all truB = true := by rw [List.all_eq_true]; intro p hp; rw [h p hp]; simp [truB, PV.toD, PySem.PyData.truthy]
  simp only [allV, v_itL, optR_some, Res.bind_ok, h1, h2, h3, Bool.and_self, if_true]
def minI (x : Int) (xs : List Int) : Int := xs.foldl (fun m y => if y < m then y else m) x
theorem minI_mem : ∀ (xs : List Int) (x : Int), minI x xs ∈ x :: xs
  | [], x => by simp [minI]
  | y :: ys, x => by
    have := minI_mem ys (if y < x then y else x)
    show minI (if y < x then y else x) ys ∈ _
    split at this
    · rename_i h; rw [if_pos h]; exact List.mem_cons_of_mem _ this
    · rename_i h; rw [if_neg h]
      rcases List.mem_cons.mp this with e | e
      · rw [e]; exact List.mem_cons_self
      · exact List.mem_cons_of_mem _ (List.mem_cons_of_mem _ e)
theorem minI_le : ∀ (xs : List Int) (x z : Int), z ∈ x :: xs → minI x xs ≤ z
  | [], x, z, h => by simp at h; simp [minI, h]
  | y :: ys, x, z, h => by
    show minI (if y < x then y else x) ys ≤ z
    have h1 := minI_le ys (if y < x then y else x)
    rcases List.mem_cons.mp h with rfl | h
    · have := h1 _ List.mem_cons_self
      split at this <;> rename_i hc
      · rw [if_pos hc]; omega
      · rw [if_neg hc]; exact this
    · rcases List.mem_cons.mp h with rfl | h
      · have := h1 _ List.mem_cons_self
        split at this <;> rename_i hc
        · rw [if_pos hc]; exact this
        · rw [if_neg hc]; omega
      · exact h1 z (List.mem_cons_of_mem _ h)
def minL : List Int → Int
  | [] => 0
  | x :: xs => minI x xs
theorem minL_same {a b : List Int} (ha : a ≠ []) (h : ∀ x, x ∈ a ↔ x ∈ b) : minL a = minL b := by
  cases a with
  | nil => exact absurd rfl ha
  | cons x xs =>
    cases b with
    | nil => exact absurd ((h x).mp List.mem_cons_self) (by simp)
    | cons y ys =>
      have h1 := minI_le xs x _ ((h _).mpr (minI_mem ys y))
      have h2 := minI_le ys y _ ((h _).mp (minI_mem xs x))
      show minI x xs = minI y ys
      omega
theorem minB_I : ∀ (xs : List Int) (x : Int), minB (.int x) (I xs) = .int (minI x xs)
  | [], x => rfl
  | y :: ys, x => by
    show minB (if ltB (.int y) (.int x) then .int y else .int x) (I ys) = _
    rw [ltB_int]
    show _ = PV.int (minI (if y < x then y else x) ys)
    rw [← minB_I ys]
    by_cases h : y < x <;> simp [h]
theorem minV_I (xs : List Int) (h : xs ≠ []) : minV (.lst (I xs)) = .ok (.int (minL xs)) := by
  cases xs with
  | nil => exact absurd rfl h
  | cons x xs =>
    have h1 : cmpOkL (I (x :: xs)) = true := by
      unfold cmpOkL
      have a1 : (I (x :: xs)).all okD = true := by rw [List.all_eq_true]; intro p hp; obtain ⟨i, _, rfl⟩ := List.mem_map.mp hp; exact okD_int i
      have a2 : (I (x :: xs)).all (fun p => !isNon p) = true := by rw [List.all_eq_true]; intro p hp; obtain ⟨i, _, rfl⟩ := List.mem_map.mp hp; rfl
      have a3 : ((I (x :: xs)).all fun p => (I (x :: xs)).all fun q => PySem.W.alike p.toD q.toD) = true := by
        simp only [List.all_eq_true]
        intro p hp q hq
        obtain ⟨i, _, rfl⟩ := List.mem_map.mp hp
        obtain ⟨j, _, rfl⟩ := List.mem_map.mp hq
        exact alike_int i j
      rw [a1, a2, a3]; rfl
    show (optR (itemsV (.lst (I (x :: xs))))).bind _ = _
    simp only [itemsV, optR_some, Res.bind_ok]
    show (if cmpOkL (I (x :: xs)) then Res.ok (minB (.int x) (I xs)) else .bad) = _
    rw [h1, minB_I]; rfl
theorem firstS_none {f : Nat → Option PV} {n : Nat} : firstS f n = none ↔ ∀ i, i < n → f i = none := by
  unfold firstS
  rw [List.findSome?_eq_none_iff]
  simp
theorem small_I (as : List Int) (L : Nat) (hl : as.length ≤ L) (h : ∀ a ∈ as, -1000000000000 ≤ a ∧ a ≤ 1000000000000) : Small 1 (L * 1923 + 3) (.tup (I as)) := by
  refine small_tup (d := 0) (n := 1921) (fun p hp => ?_) (by simpa [I] using hl)
  obtain ⟨i, hi, rfl⟩ := List.mem_map.mp hp
  exact small_i (h i hi).1 (h i hi).2
theorem listI {Q : Int → Prop} : ∀ {rs : List PV}, (∀ r ∈ rs, ∃ i, r = .int i ∧ Q i) → ∃ is : List Int, rs = I is ∧ ∀ i ∈ is, Q i
  | [], _ => ⟨[], rfl, by simp⟩
  | r :: rs, h => by
    obtain ⟨i, e, q⟩ := h r List.mem_cons_self
    obtain ⟨is, e2, q2⟩ := listI (rs := rs) fun x hx => h x (List.mem_cons_of_mem _ hx)
    refine ⟨i :: is, by rw [e, e2]; rfl, fun x hx => ?_⟩
    rcases List.mem_cons.mp hx with rfl | hx
    · exact q
    · exact q2 x hx
theorem I_len (is : List Int) : (I is).length = is.length := by simp [I]
theorem enumL_at : ∀ (ps : List PV) (k i : Nat) (h : i < (enumL k ps).length) (h' : i < ps.length), (enumL k ps)[i] = .tup [.int ((k + i : Nat) : Int), ps[i]]
  | [], _, _, _, h' => by simp at h'
  | p :: ps, k, 0, _, _ => rfl
  | p :: ps, k, i + 1, h, h' => by
    simp only [enumL, List.getElem_cons_succ]
    rw [enumL_at ps (k + 1) i (by rw [enumL_len]; simpa using h') (by simpa using h')]
    rw [show k + 1 + i = k + (i + 1) from by omega]
theorem sumL_I (ns : List Int) : sumL (.lst (I ns)) = .ok (.int ns.sum) := by
  simp only [sumL, sumV, itemsV, Option.bind_some, I, intsV_I, optR_some, Res.bind_ok]
theorem data_bl (bs : List Bool) : isDataL (bs.map PV.bl) = true := by
  rw [isDataL_eq, List.all_eq_true]; intro p hp; obtain ⟨b, _, rfl⟩ := List.mem_map.mp hp; simp [PV.isData]
theorem okT_bl (bs : List Bool) : (bs.map PV.bl).all okT = true := by
  rw [List.all_eq_true]; intro p hp; obtain ⟨b, _, rfl⟩ := List.mem_map.mp hp; rfl
theorem allB (bs : List Bool) : allV (.lst (bs.map PV.bl)) = .ok (.bl (bs.all id)) := by
  have h3 : (bs.map PV.bl).all truB = bs.all id := by
    rw [List.all_map]
    first
      | rfl
      | (congr 1; funext b; simp [truB, PV.toD, PySem.PyData.truthy])
  simp only [allV, v_itL, optR_some, Res.bind_ok, data_bl, okT_bl, h3, Bool.and_self, if_true]
theorem anyB (bs : List Bool) : anyV (.lst (bs.map PV.bl)) = .ok (.bl (bs.any id)) := by
  have h3 : (bs.map PV.bl).any truB = bs.any id := by
    rw [List.any_map]
    first
      | rfl
      | (congr 1; funext b; simp [truB, PV.toD, PySem.PyData.truthy])
  simp only [anyV, v_itL, optR_some, Res.bind_ok, data_bl, okT_bl, h3, Bool.and_self, if_true]
/-- a comprehension with a test, the state as it was behind each turn -/
theorem lc_filter {vs : List Nat} {g : PV → PSt → Res PSt} {t : M Bool} {e : M PV} (c : PV → Bool) (f : PV → PV) (s0 : PSt) : ∀ (ps acc : List PV), acc.length + ps.length ≤ 16777216 →
    (∀ p ∈ ps, ∃ s1 s2, g p s0 = .ok s1 ∧ t s1 = .ok (c p, s2) ∧ (c p = true → ∃ s3, e s2 = .ok (f p, s3) ∧ wipeP s3 vs = s0) ∧ (c p = false → wipeP s2 vs = s0)) → dLcL vs g t e ps acc s0 = .ok (acc ++ (ps.filter c).map f, s0)
  | [], acc, _, _ => by simp [dLcL]
  | p :: ps, acc, hl, h => by
    obtain ⟨s1, s2, h1, h2, h3, h4⟩ := h p List.mem_cons_self
    have hr := fun q hq => h q (List.mem_cons_of_mem _ hq)
    unfold dLcL
    cases hc : c p with
    | true =>
      obtain ⟨s3, h5, h6⟩ := h3 hc
      have hf : fitsL (acc.length + 1) = true := Nat.ble_eq_true_of_le (by simp at hl; omega)
      simp only [h1, h2, hc, h5, h6, nox, Res.bind_ok, if_true, hf]
      rw [lc_filter c f s0 ps _ (by simp at hl ⊢; omega) hr]
      simp [hc]
    | false =>
      simp only [h1, h2, hc, h4 hc, nox, Res.bind_ok, Bool.false_eq_true, if_false]
      rw [lc_filter c f s0 ps _ (by simp at hl ⊢; omega) hr]
      simp [hc]
/-! while -/
theorem whl_t {c : M Bool} {b : M Fl} {n : Nat} {s s1 s2 : PSt} (h1 : c s = .ok (true, s1)) (h2 : b s1 = .ok (.nx, s2)) : dWhl c b (n + 1) s = dWhl c b n s2 := by
  conv => lhs; unfold dWhl
  simp only [h1, Res.bind_ok, if_true, h2]
theorem whl_f {c : M Bool} {b : M Fl} {n : Nat} {s s1 : PSt} (h1 : c s = .ok (false, s1)) : dWhl c b (n + 1) s = .ok (.nx, s1) := by
  conv => lhs; unfold dWhl
  simp only [h1, Res.bind_ok, Bool.false_eq_true, if_false]
/-- alike ends a comparison of two tellings -/
theorem same_run {a b : M PV} {s : PSt} {p : PV} {d n : Nat} (hs : Small d n p) (hd : d ≤ 60) (hn : n ≤ 16777216) (ha : a s = .ok (p, s)) (hb : b s = .ok (p, s)) :
    (dIf (dTst (dBin neV (dC1 reprV (dVal a)) (dC1 reprV (dVal b)))) (dRet (dC (.bl false))) dNx) s = .ok (.nx, s) := by
  have hr := hs.repr hd hn
  simp [ha, hb, hr, VL.ne_str]
/-- found (and so ended), or gone through -/
abbrev Fnd (r : Res (Fl × PSt)) (P : PSt → Prop) (o : Option PV) : Prop := match o with
  | none => ∃ s', r = .ok (.nx, s') ∧ P s'
  | some v => ∃ s', r = .ok (.rt v, s')
theorem Fnd.mono {r : Res (Fl × PSt)} {P P' : PSt → Prop} {o : Option PV} (h : Fnd r P o) (k : ∀ s, P s → P' s) : Fnd r P' o := by
  cases o with
  | none => obtain ⟨s, e, p⟩ := h; exact ⟨s, e, k s p⟩
  | some v => exact h
/-- a loop that may end, by an invariant -/
theorem forL_findI {g : PV → PSt → Res PSt} {body : M Fl} : ∀ (ps : List PV) (I : Nat → PSt → Prop) (f : Nat → Option PV) (s : PSt), I 0 s → (∀ (i : Nat) (h : i < ps.length) (s : PSt), I i s → ∃ s', g ps[i] s = .ok s' ∧ Fnd (body s') (I (i + 1)) (f i)) → Fnd (dForL g body ps s) (I ps.length) (firstS f ps.length)
  | [], I, f, s, h0, _ => ⟨s, rfl, h0⟩
  | p :: ps, I, f, s, h0, h => by
    obtain ⟨s', h1, h2⟩ := h 0 (by simp) s h0
    simp only [List.getElem_cons_zero] at h1
    have hs : firstS f (p :: ps).length = (match f 0 with
      | some r => some r
      | none => firstS (fun i => f (i + 1)) ps.length) := by
      unfold firstS
      rw [List.length_cons, List.range_succ_eq_map, List.findSome?_cons]
      cases f 0 with
      | some r => rfl
      | none => simp only [List.findSome?_map]; rfl
    rw [hs]
    cases e : f 0 with
    | some r =>
      rw [e] at h2
      obtain ⟨s2, h2⟩ := h2
      refine ⟨s2, ?_⟩
      unfold dForL
      simp only [h1, h2, Res.bind_ok]
    | none =>
      rw [e] at h2
      obtain ⟨s2, h2, hI⟩ := h2
      have ih := forL_findI ps (fun i => I (i + 1)) (fun i => f (i + 1)) s2 hI fun i hi s hs => by
        have := h (i + 1) (by simp; omega) s hs
        simpa only [List.getElem_cons_succ] using this
      have hd : dForL g body (p :: ps) s = dForL g body ps s2 := by
        conv => lhs; unfold dForL
        simp only [h1, h2, Res.bind_ok]
      rw [hd]
      exact ih
theorem for_find {g : PV → PSt → Res PSt} {bd : M Fl} {it : M (List PV)} {s s1 : PSt} {ps : List PV} {o : Option PV} {P : PSt → Prop} (hit : it s = .ok (ps, s1)) (h : Fnd (dForL g bd ps s1) P o) : Fnd (dFor it g bd s) P o := by
  rw [e_For, hit]
  exact h
theorem seq_rt {a b : M Fl} {s s' : PSt} {p : PV} (h : a s = .ok (.rt p, s')) : dSeq a b s = .ok (.rt p, s') := by
  rw [e_Seq, h]; rfl
/-- a loop that finds, and what is told behind it -/
theorem find_end (N : Nat) (d1 d2 : M Fl) (q ps : List PV) (s : PSt) (o : Option PV) (v : PV) (pre : M Fl → M Fl)
    (hp : ∀ (rest : M Fl) (R : Res (Fl × PSt)), rest s = R → pre rest (startP false N q ps) = R)
    (h : Fnd (d1 s) (fun s' => ∃ s2, d2 s' = .ok (.rt v, s2)) o) : dFn false N (pre (dSeq d1 d2)) q ps = .ok (.sh (o.getD v), []) := by
  cases o with
  | none =>
    obtain ⟨s', h1, s2, h2⟩ := h
    exact fn_rt (s' := s2) (hp _ _ (seq_nx h1 h2))
  | some r =>
    obtain ⟨s2, h1⟩ := h
    exact fn_rt (s' := s2) (hp _ _ (seq_rt h1))
theorem small_lI (as : List Int) (L : Nat) (hl : as.length ≤ L) (h : ∀ a ∈ as, -1000000000000 ≤ a ∧ a ≤ 1000000000000) : Small 1 (L * 1923 + 3) (.lst (I as)) := by
  refine small_lst (d := 0) (n := 1921) (fun p hp => ?_) (by simpa [I] using hl)
  obtain ⟨i, hi, rfl⟩ := List.mem_map.mp hp
  exact small_i (h i hi).1 (h i hi).2
/-- a list is none -/
theorem ne_nilI (as : List Int) (hl : as.length ≤ 1000) (h : ∀ a ∈ as, -1000000000000 ≤ a ∧ a ≤ 1000000000000) : neV (.lst (I as)) (.lst []) = .ok (.bl (!as.isEmpty)) := by
  have o1 := (small_lI as 1000 hl h).okD (by omega)
  have o2 : okD (.lst []) = true := (small_lst (d := 0) (n := 0) (L := 0) (ps := []) (by simp) (by simp)).okD (by omega)
  unfold neV
  rw [o1, o2]
  cases as with
  | nil => rfl
  | cons a as => rfl
end VL
/-! VL36: in; functions as values, called by a name; max of two of any kind; l.index of ints. -/
namespace VL
set_option autoImplicit false
open PySem PySem.Spec PyProof.Rows L2
/-! in -/
def inB (p : PV) (ps : List PV) : Bool := ps.any fun y => eqB y p
def inV (p q : PV) : Res PV := if okD p && okD q then (match q with
  | .tup ps => .ok (.bl (inB p ps))
  | .lst ps => .ok (.bl (inB p ps))
  | _ => .bad) else .bad
def notInV (p q : PV) : Res PV := if okD p && okD q then (match q with
  | .tup ps => .ok (.bl (!inB p ps))
  | .lst ps => .ok (.bl (!inB p ps))
  | _ => .bad) else .bad
theorem inB_toD (p : PV) : ∀ ps : List PV, ((toDL ps).any fun y => PyData.eqv y p.toD) = inB p ps
  | [] => rfl
  | q :: ps => by
    have := inB_toD p ps
    simp only [toDL, List.any_cons, this]
    rfl
section
variable {X : Cx} {C : CloT} {W : WX} {B : Bs} {j : Nat} {pos : Pos}
theorem opv_in (hu : X.A.units + 64 < cLine) : OpV X C (compareOp .In) inV := by
  intro p q r h pins s σ H x y v u Q I rx ry ⟨r1, r2, k⟩
  unfold inV at h
  split at h
  case isFalse => cases h
  rename_i hf
  rw [Bool.and_eq_true] at hf
  obtain ⟨d1, e1⟩ := okD_d hf.1
  obtain ⟨d2, e2⟩ := okD_d hf.2
  obtain ⟨as, ra⟩ := Rep.reads I p x v r1 rx d1
  obtain ⟨bs, rb⟩ := Rep.reads I q y u r2 ry d2
  have pl := q.toD_plain d2
  cases q with
  | tup ps =>
    cases h
    simp only [PV.toD] at rb pl
    refine SeqAt.in_tuple_data rb ra (by simpa only [PyData.plain] using pl) (p.toD_plain d1) ?_ (fin_b I k (inB_toD p ps))
    have := Nat.min_le_right (PyData.depthAll (toDL ps)) p.toD.depth
    omega
  | lst ps =>
    cases h
    simp only [PV.toD] at rb pl
    refine SeqAt.in_list_data rb ra (by simpa only [PyData.plain] using pl) (p.toD_plain d1) ?_ (fin_b I k (inB_toD p ps))
    have := Nat.min_le_right (PyData.depthAll (toDL ps)) p.toD.depth
    omega
  | _ => cases h
theorem opv_notIn (hu : X.A.units + 64 < cLine) : OpV X C (compareOp .NotIn) notInV := by
  intro p q r h pins s σ H x y v u Q I rx ry ⟨r1, r2, k⟩
  unfold notInV at h
  split at h
  case isFalse => cases h
  rename_i hf
  rw [Bool.and_eq_true] at hf
  obtain ⟨d1, e1⟩ := okD_d hf.1
  obtain ⟨d2, e2⟩ := okD_d hf.2
  obtain ⟨as, ra⟩ := Rep.reads I p x v r1 rx d1
  obtain ⟨bs, rb⟩ := Rep.reads I q y u r2 ry d2
  have pl := q.toD_plain d2
  cases q with
  | tup ps =>
    cases h
    simp only [PV.toD] at rb pl
    refine SeqAt.notIn_tuple_data rb ra (by simpa only [PyData.plain] using pl) (p.toD_plain d1) ?_ (fin_b I k (by rw [inB_toD p ps]))
    have := Nat.min_le_right (PyData.depthAll (toDL ps)) p.toD.depth
    omega
  | lst ps =>
    cases h
    simp only [PV.toD] at rb pl
    refine SeqAt.notIn_list_data rb ra (by simpa only [PyData.plain] using pl) (p.toD_plain d1) ?_ (fin_b I k (by rw [inB_toD p ps]))
    have := Nat.min_le_right (PyData.depthAll (toDL ps)) p.toD.depth
    omega
  | _ => cases h
theorem ne_in : NoExc inV := by
  intro p q c v
  unfold inV
  cases q <;> simp only [ne_eq] <;> split <;> simp only [reduceCtorEq, not_false_eq_true]
theorem ne_notIn : NoExc notInV := by
  intro p q c v
  unfold notInV
  cases q <;> simp only [ne_eq] <;> split <;> simp only [reduceCtorEq, not_false_eq_true]
/-! functions as values -/
theorem px_fn {x : Str} {a : Addr} (hg : Gl X x) (hm : X.mg x = some (.ref a)) (hc : B.C.mg = X.mg) (hd : (x == ("__debug__" : Str)) = false := by decide) : PX X W B (.Name x pos) (dC (.fn x)) :=
  px_const (pe_glob (v := .ref a) hg hm rfl hd) fun H => by
    simp only [Rep]
    exact ⟨a, rfl, by rw [hc]; exact hm⟩
def lookF (y : Str) : List (Str × Fn) → Option Fn
  | [] => none
  | p :: ps => if p.1 = y then some p.2 else lookF y ps
theorem lookF_mem {y : Str} {F : Fn} : ∀ {fs : List (Str × Fn)}, lookF y fs = some F → (y, F) ∈ fs
  | p :: ps, h => by
    unfold lookF at h
    split at h
    · rename_i e
      cases h
      subst e
      exact List.mem_cons_self
    · exact List.mem_cons_of_mem _ (lookF_mem h)
def dCallN (i n : Nat) (fs : List (Str × Fn)) (da : M (List PV)) : M LV := fun s => match s[i]? with
  | some (some (.sh (.fn y))) => (match lookF y fs with
    | some F => dCall n F da s
    | none => .bad)
  | _ => .bad
/-- a def that may be called by a name -/
def FnAt (X : Cx) (j n : Nat) (C : CloT) (T : List (Addr × Str)) (p : Str × Fn) : Prop := ∃ k, k ≤ j ∧ OkD X.prog X.w X.K X.mg X.base k p.1 false n C T p.2
theorem fnAt {k n : Nat} {x : Str} {T : List (Addr × Str)} {F : Fn} (h : OkD X.prog X.w X.K X.mg X.base k x false n C T F) (hj : k ≤ j) : FnAt X j n C T (x, F) := ⟨k, hj, h⟩
theorem pxl_callN {i n : Nat} {fs : List (Str × Fn)} {x : Str} {e : Expr} {es : List Expr} {da : M (List PV)} {p : Pos} (hN : X.N[i]? = some x) (hv : Vis X.env.scope x) (hmc : B.C.mg = X.mg) (v : VX X j W) (hfs : ∀ q ∈ fs, FnAt X j n B.C B.T q) (ha : PXA X W B (e :: es) da)
    (he : starEach (e :: es) X.env = (false, eval e X.env) :: starEach es X.env := by rfl) (hpl : (backTo pos (starEach es X.env)).any (·.1) = false := by rfl)
    (hd : (x == ("__debug__" : Str)) = false := by decide) (hcd : (x == ("__classdict__" : Str)) = false := by decide) : PXL X W B (.Call (.Name x p) (e :: es) [] pos) (dCallN i n fs da) := by
  refine ⟨fun pins s σ H Q I h => ?_⟩
  obtain ⟨sp, R, h⟩ := h
  unfold dCallN at h
  split at h
  case h_2 => exact (show False from h).elim
  rename_i y ey
  cases el : lookF y fs with
  | none => rw [el] at h; exact (show False from h).elim
  | some F =>
    rw [el] at h
    dsimp only at h
    obtain ⟨k, hj, f, fd, pn, hm, hk, hb, hn, Fn⟩ := hfs _ (lookF_mem el)
    dsimp only at hm Fn
    obtain ⟨v', ev, rv⟩ := R.at_ i _ ey
    have rv' : Rep X.K B.C H (.fn y) v' := rv
    simp only [Rep] at rv'
    obtain ⟨a, rfl, hma⟩ := rv'
    rw [hmc, hm] at hma
    cases hma
    refine wpAny_Call_Name_kw (thn ((pe_var (pos := p) hN hv hd hcd).run pins s σ H (fun v' H' => v' = .ref f ∧ H' = H) I ⟨.ref f, ev, rfl, rfl⟩) fun u s1 ⟨v', H', I1, r0, e1, e2⟩ => ?_)
    subst e1 e2
    obtain rfl : u = Value.ref f := r0
    refine PySem.W.callWith_K (h₀ := X.base) I1.ok.mod.kin hk (thn (ha.run pos pins s1 σ H' (fun vs H' => spV X.mg X.K B.C B.T false pn.length F vs H' Q fun cls d H' => ∀ σ, W cls d σ H') I1 ⟨sp, R, tRa.bind (rep' := fun s σ H => rL1 X B s σ H) h fun ps s1 vs H1 R1 x1 r1 q => ?_⟩)
      fun us s1 ⟨vs, H1, I1, r, q⟩ => ⟨I1.kIn, run_fnV Fn v hj hb I1 r q⟩) he hpl
    dsimp only at q
    by_cases hl : (ps.length == n) = true
    · rw [if_pos hl] at q
      refine ⟨by rw [r1.length, hn]; exact eq_of_beq hl, R1.tb, [], ps, none, ⟨rfl, rfl, r1⟩, ?_⟩
      cases ef : F [] ps with
      | bad => rw [ef] at q; exact (show False from q).elim
      | exc c p =>
        rw [ef] at q
        exact exc_up R1 (fun a o z => nomatch z) q
      | ok y =>
        obtain ⟨l, q'⟩ := y
        rw [ef] at q
        intro w H' kb kt _ g
        exact q w H' (R1.growN kb kt) kb.ext0 (give_l1 R1 g fun i p e => ⟨p, e⟩)
    · rw [if_neg hl] at q
      exact (show False from q).elim
end
end VL
/-! VL37: max and min of two of any kind; l.index of ints. -/
namespace VL
set_option autoImplicit false
open PySem PySem.Spec PyProof.Rows L2
section
variable {prog : Program} {w : World} {A : Around} {E : Value → Shared → Prop} {s : Shared}
theorem max_two_data {va vb : Value} {x y : PyData} {as bs : List Addr} {Q : Value → Shared → Prop} (hh : A.handled = none) (ra : Reads s.heap va x as) (rb : Reads s.heap vb y bs) (ha : PySem.W.AlikeAll [x, y]) (hu : A.units + 1 + PyData.depthAll [x, y] < cLine)
    (h : ∀ h' tk, (∀ b o, s.heap.get? b = some o → h'.get? b = some o) → Q (if PySem.W.dataLt x y then vb else va) { s with heap := h', toks := tk }) : wpAny (model prog w) A (call (.builtin "max") [va, vb]) Q E s := by
  have hname : (toString "max" ++ toString ".loop" : String) = "max.loop" := by decide
  refine call_function_tree F.kind_max F.plain_max F.entry_max (F.args_max2 _ _) ?_
  show wpAny _ A.in1 (Builtin.Builtins.bindParams "max" ["key", "default"] 0 ⟨[], []⟩ >>= _) _ _ s
  refine wpAny_bind (wpAny_of_eq (show Builtin.Builtins.bindParams "max" ["key", "default"] 0 ⟨[], []⟩ = pure [none, none] from rfl) ?_)
  show wpAny _ A.in1 (newTuple [va, vb] >>= _) _ _ s
  refine wpAny_bind (wpAny_newObj_type ?_)
  have hT : (s.heap.push { cls := .type "tuple", data := .seq #[va, vb] }).IsTuple s.heap.objs.size #[va, vb] := ⟨_, Heap.get?_push_size _ rfl, rfl, 0, rfl⟩
  have hold : ∀ b o, s.heap.get? b = some o → (s.heap.push { cls := .type "tuple", data := .seq #[va, vb] }).get? b = some o := fun b o e => Heap.get?_push_of_some _ e
  have hr : ReadsAll (s.heap.push { cls := .type "tuple", data := .seq #[va, vb] }) (#[va, vb] : Array Value).toList [x, y] (as ++ (bs ++ [])) := .cons (Reads.keeps hold ra) (.cons (Reads.keeps hold rb) .nil)
  refine wpAny_bind (PySem.W.iter_tupleW (A := A.in1) hh hT fun s₂ e W st hfp hw hkeep => ?_)
  refine wpAny_bind (wpAny_newObj_type ?_)
  have hSf : s₂.heap.objs.size ∉ [(s.heap.push { cls := .type "tuple", data := .seq #[va, vb] }).objs.size, s.heap.objs.size] := fun hm => Nat.lt_irrefl _ (hfp _ hm)
  rw [hname]
  refine wpAny_pure ⟨plainId_quiet F.plain_max_loop _, PySem.codeAny_max_loop_firstH W (s.heap.push { cls := .type "tuple", data := .seq #[va, vb] }) hw _ (PySem.W.cmpIn_gt (A := A.in1) (s := { s with heap := s.heap.push { cls := .type "tuple", data := .seq #[va, vb] } }) hr ha (by show A.units + 1 + _ < _; exact hu)) s₂.heap.objs.size hSf (PySem.fresh_in hkeep) _ (by show 0 < 2; decide) (fun b o e => Heap.get?_push_of_some _ (hkeep b o e)) (W.frame 0 s₂ _ s₂.toks st (Nat.le_refl _) fun b _ o e => Heap.get?_push_of_some _ e) (Heap.get?_push_size _ rfl) fun v s' hP hm => ?_⟩
  have hm' := PySem.Moved.drop_new (tk := s₂.toks) hm (Nat.le_refl _)
  obtain ⟨h', tk, rfl, hk'⟩ := PySem.W.moved_old (s := { s with heap := s.heap.push { cls := .type "tuple", data := .seq #[va, vb] } }) e rfl hm'
  have hv : v = if PySem.W.dataLt x y then vb else va := by
    have hP' : (#[va, vb] : Array Value)[argBest (fun i j => PySem.W.dataLt ([x, y].getD j .none) ([x, y].getD i .none)) 1]? = some v := hP
    have eb : argBest (fun i j => PySem.W.dataLt ([x, y].getD j .none) ([x, y].getD i .none)) 1 = if PySem.W.dataLt x y then 1 else 0 := rfl
    rw [eb] at hP'
    cases hc : PySem.W.dataLt x y with
    | true => rw [hc] at hP'; exact (Option.some.inj hP').symm
    | false => rw [hc] at hP'; exact (Option.some.inj hP').symm
  rw [hv]
  exact h h' tk fun b o e => hk' b o (hold b o e)
theorem min_two_data {va vb : Value} {x y : PyData} {as bs : List Addr} {Q : Value → Shared → Prop} (hh : A.handled = none) (ra : Reads s.heap va x as) (rb : Reads s.heap vb y bs) (ha : PySem.W.AlikeAll [x, y]) (hu : A.units + 1 + PyData.depthAll [x, y] < cLine)
    (h : ∀ h' tk, (∀ b o, s.heap.get? b = some o → h'.get? b = some o) → Q (if PySem.W.dataLt y x then vb else va) { s with heap := h', toks := tk }) : wpAny (model prog w) A (call (.builtin "min") [va, vb]) Q E s := by
  have hname : (toString "min" ++ toString ".loop" : String) = "min.loop" := by decide
  refine call_function_tree F.kind_min F.plain_min F.entry_min (F.args_min2 _ _) ?_
  show wpAny _ A.in1 (Builtin.Builtins.bindParams "min" ["key", "default"] 0 ⟨[], []⟩ >>= _) _ _ s
  refine wpAny_bind (wpAny_of_eq (show Builtin.Builtins.bindParams "min" ["key", "default"] 0 ⟨[], []⟩ = pure [none, none] from rfl) ?_)
  show wpAny _ A.in1 (newTuple [va, vb] >>= _) _ _ s
  refine wpAny_bind (wpAny_newObj_type ?_)
  have hT : (s.heap.push { cls := .type "tuple", data := .seq #[va, vb] }).IsTuple s.heap.objs.size #[va, vb] := ⟨_, Heap.get?_push_size _ rfl, rfl, 0, rfl⟩
  have hold : ∀ b o, s.heap.get? b = some o → (s.heap.push { cls := .type "tuple", data := .seq #[va, vb] }).get? b = some o := fun b o e => Heap.get?_push_of_some _ e
  have hr : ReadsAll (s.heap.push { cls := .type "tuple", data := .seq #[va, vb] }) (#[va, vb] : Array Value).toList [x, y] (as ++ (bs ++ [])) := .cons (Reads.keeps hold ra) (.cons (Reads.keeps hold rb) .nil)
  refine wpAny_bind (PySem.W.iter_tupleW (A := A.in1) hh hT fun s₂ e W st hfp hw hkeep => ?_)
  refine wpAny_bind (wpAny_newObj_type ?_)
  have hSf : s₂.heap.objs.size ∉ [(s.heap.push { cls := .type "tuple", data := .seq #[va, vb] }).objs.size, s.heap.objs.size] := fun hm => Nat.lt_irrefl _ (hfp _ hm)
  rw [hname]
  refine wpAny_pure ⟨plainId_quiet F.plain_min_loop _, PySem.codeAny_min_loop_firstH W (s.heap.push { cls := .type "tuple", data := .seq #[va, vb] }) hw _ (PySem.W.cmpIn_lt (A := A.in1) (s := { s with heap := s.heap.push { cls := .type "tuple", data := .seq #[va, vb] } }) hr ha (by show A.units + 1 + _ < _; exact hu)) s₂.heap.objs.size hSf (PySem.fresh_in hkeep) _ (by show 0 < 2; decide) (fun b o e => Heap.get?_push_of_some _ (hkeep b o e)) (W.frame 0 s₂ _ s₂.toks st (Nat.le_refl _) fun b _ o e => Heap.get?_push_of_some _ e) (Heap.get?_push_size _ rfl) fun v s' hP hm => ?_⟩
  have hm' := PySem.Moved.drop_new (tk := s₂.toks) hm (Nat.le_refl _)
  obtain ⟨h', tk, rfl, hk'⟩ := PySem.W.moved_old (s := { s with heap := s.heap.push { cls := .type "tuple", data := .seq #[va, vb] } }) e rfl hm'
  have hv : v = if PySem.W.dataLt y x then vb else va := by
    have hP' : (#[va, vb] : Array Value)[argBest (fun i j => PySem.W.dataLt ([x, y].getD i .none) ([x, y].getD j .none)) 1]? = some v := hP
    have eb : argBest (fun i j => PySem.W.dataLt ([x, y].getD i .none) ([x, y].getD j .none)) 1 = if PySem.W.dataLt y x then 1 else 0 := rfl
    rw [eb] at hP'
    cases hc : PySem.W.dataLt y x with
    | true => rw [hc] at hP'; exact (Option.some.inj hP').symm
    | false => rw [hc] at hP'; exact (Option.some.inj hP').symm
  rw [hv]
  exact h h' tk fun b o e => hk' b o (hold b o e)
end
/-! two of any kind -/
def max2V (p q : PV) : Res PV := if cmpOkL [p, q] then .ok (if ltB p q then q else p) else .bad
def min2V (p q : PV) : Res PV := if cmpOkL [p, q] then .ok (if ltB q p then q else p) else .bad
section
variable {X : Cx} {C : CloT} {W : WX} {B : Bs} {j : Nat} {pos : Pos} {a b : Expr} {da db : M PV}
theorem call_max2D (hc : X.calm = true) (hu : X.A.units + 64 < cLine) : CallR X (.builtin "max") (fun xs H Q => ∃ p q x y, xs = [x, y] ∧ Rep X.K C H p x ∧ Rep X.K C H q y ∧ cmpOkL [p, q] = true ∧ Q (if ltB p q then y else x) H) := by
  intro pins s σ H xs us Q I r h
  obtain ⟨p, q, x, y, rfl, r1, r2, hf, k⟩ := h
  obtain ⟨u, v, rfl, rx, ry⟩ := vals2 r
  obtain ⟨h1, h2, h3⟩ := cmpOkL_d hf
  have d1 : p.isData = true := by simp only [isDataL, Bool.and_eq_true] at h2; exact h2.1
  have d2 : q.isData = true := by simp only [isDataL, Bool.and_eq_true] at h2; exact h2.2.1
  obtain ⟨as, ra⟩ := Rep.reads I p x u r1 rx d1
  obtain ⟨bs, rb⟩ := Rep.reads I q y v r2 ry d2
  have hu' := units_depth hu h1
  simp only [toDL] at h3 hu'
  refine max_two_data (I.ok.hd hc) ra rb h3 hu' fun h' tk kp => ⟨_, H, I.kept kp, ?_, k⟩
  show RelV (if PySem.W.dataLt p.toD q.toD = true then y else x) _
  cases PySem.W.dataLt p.toD q.toD with
  | true => exact ry
  | false => exact rx
theorem call_min2D (hc : X.calm = true) (hu : X.A.units + 64 < cLine) : CallR X (.builtin "min") (fun xs H Q => ∃ p q x y, xs = [x, y] ∧ Rep X.K C H p x ∧ Rep X.K C H q y ∧ cmpOkL [p, q] = true ∧ Q (if ltB q p then y else x) H) := by
  intro pins s σ H xs us Q I r h
  obtain ⟨p, q, x, y, rfl, r1, r2, hf, k⟩ := h
  obtain ⟨u, v, rfl, rx, ry⟩ := vals2 r
  obtain ⟨h1, h2, h3⟩ := cmpOkL_d hf
  have d1 : p.isData = true := by simp only [isDataL, Bool.and_eq_true] at h2; exact h2.1
  have d2 : q.isData = true := by simp only [isDataL, Bool.and_eq_true] at h2; exact h2.2.1
  obtain ⟨as, ra⟩ := Rep.reads I p x u r1 rx d1
  obtain ⟨bs, rb⟩ := Rep.reads I q y v r2 ry d2
  have hu' := units_depth hu h1
  simp only [toDL] at h3 hu'
  refine min_two_data (I.ok.hd hc) ra rb h3 hu' fun h' tk kp => ⟨_, H, I.kept kp, ?_, k⟩
  show RelV (if PySem.W.dataLt q.toD p.toD = true then y else x) _
  cases PySem.W.dataLt q.toD p.toD with
  | true => exact ry
  | false => exact rx
theorem two_readD {g : PV → PV → Bool} {r : List V → Hp → VK → Prop} (hr : ∀ p q x y H Q, Rep X.K B.C H p x → Rep X.K B.C H q y → cmpOkL [p, q] = true → Q (if g p q then y else x) H → r [x, y] H Q) {σ : St} {H : Hp} {Q : VK}
    (q : tR X W B (rV X B) (dBin (fun p q => if cmpOkL [p, q] then .ok (if g p q then q else p) else .bad) da db) σ H Q) : tCB r (tCons (tR X W B (rV X B) da) (tCons (tR X W B (rV X B) db) tNil)) σ H Q := by
  obtain ⟨s, R, q⟩ := q
  refine ⟨s, R, tRa.bind (rep' := rV X B) q fun p s1 v H1 R1 x1 r1 q => ⟨s1, R1, tRa.bind (rep' := rV X B) q fun p2 s2 v2 H2 R2 x2 r2 q => ?_⟩⟩
  dsimp only at q
  by_cases hf : cmpOkL [p, p2] = true
  · rw [if_pos hf] at q
    refine hr p p2 v v2 H2 Q (Rep.ext x2 _ _ r1) r2 hf ?_
    have q' := q (if g p p2 = true then v2 else v) H2 R2 (Ext.refl _)
    apply q'
    cases g p p2 with
    | true => exact r2
    | false => exact Rep.ext x2 _ _ r1
  · rw [if_neg hf] at q
    exact (show False from q).elim
theorem px_max2D {p : Pos} (hc : X.calm = true) (hu : X.A.units + 64 < cLine) (hg : Gl X "max") (hm : X.mg "max" = none) (ha : PX X W B a da) (hb : PX X W B b db) (hs : starEach [a, b] X.env = (false, eval a X.env) :: starEach [b] X.env := by rfl) (hs2 : starEach [b] X.env = (false, eval b X.env) :: starEach [] X.env := by rfl)
    (hpl : (backTo pos (starEach [b] X.env)).any (·.1) = false := by rfl) : PX X W B (.Call (.Name "max" p) [a, b] [] pos) (dBin max2V da db) :=
  PE.weak (pe_callB (p := p) (pos := pos) (call_max2D (C := B.C) hc hu) hg hm (by decide +kernel) (pa_cons ha (pa_cons hb pa_nil hs2) hs) (he := hs) (hpl := hpl)) fun σ H Q q => two_readD (g := fun p q => ltB p q) (fun p q x y H Q r1 r2 hf k => ⟨p, q, x, y, rfl, r1, r2, hf, k⟩) q
theorem px_min2D {p : Pos} (hc : X.calm = true) (hu : X.A.units + 64 < cLine) (hg : Gl X "min") (hm : X.mg "min" = none) (ha : PX X W B a da) (hb : PX X W B b db) (hs : starEach [a, b] X.env = (false, eval a X.env) :: starEach [b] X.env := by rfl) (hs2 : starEach [b] X.env = (false, eval b X.env) :: starEach [] X.env := by rfl)
    (hpl : (backTo pos (starEach [b] X.env)).any (·.1) = false := by rfl) : PX X W B (.Call (.Name "min" p) [a, b] [] pos) (dBin min2V da db) :=
  PE.weak (pe_callB (p := p) (pos := pos) (call_min2D (C := B.C) hc hu) hg hm (by decide +kernel) (pa_cons ha (pa_cons hb pa_nil hs2) hs) (he := hs) (hpl := hpl)) fun σ H Q q => two_readD (g := fun p q => ltB q p) (fun p q x y H Q r1 r2 hf k => ⟨p, q, x, y, rfl, r1, r2, hf, k⟩) q
/-! l.index of ints -/
def idxI (n : Int) : List PV → Option Nat
  | [] => none
  | .int a :: ps => if a = n then some 0 else (idxI n ps).map (· + 1)
  | _ :: _ => none
def idxV (ps : List PV) (p : PV) : Res PV := match p with
  | .int n => if allInt ps then (optR (idxI n ps)).bind fun j => .ok (.int (j : Nat)) else .bad
  | _ => .bad
def shL (s : PSt) (i : Nat) : Option (List PV) := match s[i]? with
  | some (some (.sh (.lst ps))) => some ps
  | _ => none
def dIdx (i : Nat) (d : M PV) : M PV := fun s => (optR (shL s i)).bind fun ps => (d s).bind fun (p, s') => (idxV ps p).bind fun r => .ok (r, s')
theorem ints_rep {H : Hp} : ∀ {ps : List PV} {xs : List V}, RepL X.K C H ps xs → allInt ps = true → ∃ ns : List Int, ps = I ns ∧ xs = ns.map V.int
  | [], xs, r, _ => ⟨[], rfl, by simp only [RepL] at r; rw [r]; rfl⟩
  | p :: ps, xs, r, h => by
    simp only [RepL] at r
    obtain ⟨x, r', rfl, rp, rl⟩ := r
    simp only [allInt, List.all_cons, Bool.and_eq_true] at h
    obtain ⟨ns, e1, e2⟩ := ints_rep rl (by simp only [allInt]; exact h.2)
    cases p with
    | int n =>
      rw [rep_int] at rp
      subst e1 e2 rp
      exact ⟨n :: ns, rfl, rfl⟩
    | _ => exact absurd h.1 (by simp)
theorem idxI_at {n : Int} : ∀ {ns : List Int} {j : Nat}, idxI n (I ns) = some j → ns[j]? = some n ∧ ∀ m a, m < j → ns[m]? = some a → a ≠ n
  | [], j, h => by simp [I, idxI] at h
  | a :: ns, j, h => by
    simp only [I, List.map_cons, idxI] at h
    by_cases e : a = n
    · rw [if_pos e] at h
      cases h
      exact ⟨by simp [e], fun m a hm => by omega⟩
    · rw [if_neg e] at h
      obtain ⟨k, hk, rfl⟩ := Option.map_eq_some_iff.mp h
      obtain ⟨h1, h2⟩ := idxI_at (ns := ns) hk
      refine ⟨by simpa using h1, fun m b hm hb => ?_⟩
      cases m with
      | zero => simp at hb; rw [← hb]; exact e
      | succ m => exact h2 m b (by omega) (by simpa using hb)
theorem px_idx {i : Nat} {x : Str} {e : Expr} {d : M PV} {npos apos : Pos} (hN : X.N[i]? = some x) (hv : Vis X.env.scope x) (he : PX X W B e d) (hd : (x == ("__debug__" : Str)) = false := by decide) (hcd : (x == ("__classdict__" : Str)) = false := by decide)
    (hbase : attributeBase (.Name x npos) "index" X.env (eval (.Name x npos) X.env) = eval (.Name x npos) X.env := by rfl)
    (hfew : ((backTo pos (starEach [e] X.env)).all (fun x => !x.1) && (backToKw pos (keywordEach [] X.env)).all (fun x => x.1.isSome)
      && decide ([e].length + ([] : List Keyword).length + (if ([] : List Keyword).isEmpty then 0 else 1) < 30)) = true := by rfl)
    (hline : (apos.endLine == pos.line) = true := by rfl) (hs : starEach [e] X.env = (false, eval e X.env) :: starEach [] X.env := by rfl) (hplain : (backTo pos (starEach [] X.env)).any (·.1) = false := by rfl) :
    PX X W B (.Call (.Attribute (.Name x npos) "index" apos) [e] [] pos) (dIdx i d) := by
  refine PE.weak (pe_bm PySem.F.plainAttrs_list PySem.F.slot_list_index PySem.F.type_list_index mt_index (pe_var hN hv hd hcd) (pa_cons he pa_nil hs) hbase hfew hline hs hplain) fun σ H Q ⟨s, R, q⟩ => ?_
  unfold dIdx at q
  obtain ⟨ps, e0, q⟩ := optR_ok q
  have ey : s[i]? = some (some (.sh (.lst ps))) := by
    unfold shL at e0
    split at e0
    · rename_i e1; cases e0; exact e1
    · cases e0
  obtain ⟨v', ev, rv⟩ := R.at_ i _ ey
  have rv' : Rep X.K B.C H (.lst ps) v' := rv
  obtain ⟨a, xs, rfl, fz, rl⟩ := rep_lst.mp rv'
  refine ⟨_, ev, .inl ⟨rfl, xs, fz.sql⟩, s, R, tRa.bind (rep' := rV X B) q fun p s1 v H1 R1 x1 r1 q2 => ?_⟩
  cases p with
  | int n =>
    unfold idxV at q2
    dsimp only at q2
    by_cases hall : allInt ps = true
    · rw [if_pos hall] at q2
      cases hj : idxI n ps with
      | none => rw [hj] at q2; exact (show False from q2).elim
      | some j =>
        rw [hj] at q2
        obtain ⟨ns, rfl, rfl⟩ := ints_rep rl hall
        obtain ⟨h1, h2⟩ := idxI_at hj
        have r1' := rep_int.mp r1
        subst r1'
        refine ⟨a, ns.map V.int, .int n, j, .int n, rfl, rfl, (x1.fzl fz).sql, rfl, ?_, by simp [h1], by simp [eqV], fun m z' hm hz => ?_, ?_⟩
        · simp [List.all_map, Function.comp_def, flatV]
        · rw [List.getElem?_map] at hz
          obtain ⟨b, hb, rfl⟩ := Option.map_eq_some_iff.mp hz
          have := h2 m b hm hb
          simp [eqV, this]
        · exact q2 _ H1 R1 (Ext.refl _) (rep_int.mpr rfl)
    · rw [if_neg hall] at q2
      exact (show False from q2).elim
  | _ => exact (show False from q2).elim
@[simp] theorem e_Idx (i : Nat) (d : M PV) (s : PSt) : dIdx i d s = (optR (shL s i)).bind fun ps => (d s).bind fun (x : PV × PSt) => (idxV ps x.1).bind fun r => .ok (r, x.2) := rfl
/-- a, b, c = x, y, z; the last may be fresh -/
def dPar3 (i j l : Nat) (a b : M PV) (c : M LV) : M Fl := fun s => (a s).bind fun (p, s) => (b s).bind fun (q, s) => (c s).bind fun (r, s) => .ok (.nx, ((s.set i (some (.sh p))).set j (some (.sh q))).set l (some r))
@[simp] theorem e_Par3 (i j l : Nat) (a b : M PV) (c : M LV) (s : PSt) : dPar3 i j l a b c s = (a s).bind fun (x : PV × PSt) => (b x.2).bind fun (y : PV × PSt) => (c y.2).bind fun (z : LV × PSt) => .ok (.nx, ((z.2.set i (some (.sh x.1))).set j (some (.sh y.1))).set l (some z.1)) := rfl
theorem pxs_par3 {i j l : Nat} {x y z : Str} {a b c : Expr} {da db : M PV} {dc : M LV} {px py pz pt : Pos} {kt k2 : Nat} {pt2 : Pos} (hc : X.calm = true) (hN : X.N.Nodup) (hi : X.N[i]? = some x) (hj : X.N[j]? = some y) (hl : X.N[l]? = some z) (hij : i ≠ j) (hil : i ≠ l) (hjl : j ≠ l)
    (hx : X.env.scope.names.lookup x = some .local) (hy : X.env.scope.names.lookup y = some .local) (hz : X.env.scope.names.lookup z = some .local) (ha : PX X W B a da) (hb : PX X W B b db) (hcc : PXL X W B c dc)
    (hw : swappedStores [.Tuple [.Name x px, .Name y py, .Name z pz] kt pt] (.Tuple [a, b, c] k2 pt2) X.env = pure (some [x, y, z]))
    (hs : swapsWithSole [.Tuple [.Name x px, .Name y py, .Name z pz] kt pt] (.Tuple [a, b, c] k2 pt2) pos.line X.env = pure false := by rfl)
    (hs1 : starEach [a, b, c] X.env = (false, eval a X.env) :: starEach [b, c] X.env := by rfl) (hs2 : starEach [b, c] X.env = (false, eval b X.env) :: starEach [c] X.env := by rfl) (hs3 : starEach [c] X.env = (false, eval c X.env) :: starEach [] X.env := by rfl) :
    PXS X W B (.Assign [.Tuple [.Name x px, .Name y py, .Name z pz] kt pt] (.Tuple [a, b, c] k2 pt2) pos) (dPar3 i j l da db dc) := by
  refine PS.weak (ps_par3 hc hN hi hj hl hij hil hjl hx hy hz (pa_cons ha (pa_cons hb (pa_cons hcc pa_nil hs3) hs2) hs1) hw hs) fun D σ H ⟨s, R, h⟩ => ?_
  refine ⟨s, R, endR.bind (rep' := rV X B) h fun p s1 v1 H1 R1 x1 r1 q => ⟨s1, R1, endR.bind (rep' := rV X B) q fun p2 s2 v2 H2 R2 x2 r2 q => ⟨s2, R2, endR.bind (rep' := fun s σ H => rL1 X B s σ H) q fun l3 s3 v3 H3 R3 x3 r3 q => ⟨v1, v2, v3, rfl, ?_⟩⟩⟩⟩
  have a1 : RelSt X.K B (s3.set i (some (.sh p))) (σ.set i (some v1)) H3 := set_l1 (l := .sh p) R3 (Rep.ext x3 _ _ (Rep.ext x2 _ _ r1))
  have b1 : rL1 X B (s3.set i (some (.sh p))) (σ.set i (some v1)) H3 l3 v3 := l1_set R3 r3 fun _ _ z => nomatch z
  have a2 : RelSt X.K B ((s3.set i (some (.sh p))).set j (some (.sh p2))) ((σ.set i (some v1)).set j (some v2)) H3 := set_l1 (l := .sh p2) a1 (Rep.ext x3 _ _ r2)
  have b2 : rL1 X B ((s3.set i (some (.sh p))).set j (some (.sh p2))) ((σ.set i (some v1)).set j (some v2)) H3 l3 v3 := l1_set a1 b1 fun _ _ z => nomatch z
  exact q _ H3 (set_l1 a2 b2) (Ext.refl _)
end
end VL
/-! VL38: min and max of three whole numbers. -/
namespace VL
set_option autoImplicit false
open PySem PySem.Spec PyProof.Rows L2
section
variable {X : Cx} {C : CloT} {W : WX} {B : Bs} {j : Nat} {pos : Pos} {a b c : Expr} {da db dc : M PV}
def d3i (f : Int → Int → Int → Int) (a b c : M PV) : M PV := fun s => (a s).bind fun (p, s) => (b s).bind fun (q, s) => (c s).bind fun (r, s) => match p, q, r with
  | .int i, .int j, .int k => .ok (.int (f i j k), s)
  | _, _, _ => .bad
def min3 (i j k : Int) : Int := min2 (min2 i j) k
theorem min3_nu (i j k : Int) : nuMin3 (.int i) (.int j) (.int k) = some (.int (min3 i j k)) := by
  have h2 : ∀ i j : Int, nuMin2 (.int i) (.int j) = some (.int (min2 i j)) := fun i j => by
    unfold nuMin2 min2
    by_cases h : j < i
    · simp [nuLt, nuCB, h]
    · simp [nuLt, nuCB, h]
  unfold nuMin3 min3
  rw [h2]
  exact h2 _ _
theorem three_read {f : Int → Int → Int → Int} {r : List V → Hp → VK → Prop} (hr : ∀ i j k H Q, Q (.int (f i j k)) H → r [.int i, .int j, .int k] H Q) {σ : St} {H : Hp} {Q : VK} (q : tR X W B (rV X B) (d3i f da db dc) σ H Q) :
    tCB r (tCons (tR X W B (rV X B) da) (tCons (tR X W B (rV X B) db) (tCons (tR X W B (rV X B) dc) tNil))) σ H Q := by
  obtain ⟨s, R, q⟩ := q
  refine ⟨s, R, tRa.bind (rep' := rV X B) q fun p s1 v H1 R1 x1 r1 q => ⟨s1, R1, tRa.bind (rep' := rV X B) q fun p2 s2 v2 H2 R2 x2 r2 q => ⟨s2, R2, tRa.bind (rep' := rV X B) q fun p3 s3 v3 H3 R3 x3 r3 q => ?_⟩⟩⟩
  cases p with
  | int i =>
    cases p2 with
    | int j =>
      cases p3 with
      | int k =>
        cases rep_int.mp r1
        cases rep_int.mp r2
        cases rep_int.mp r3
        exact hr i j k H3 Q (q _ H3 R3 (Ext.refl _) (rep_int.mpr rfl))
      | _ => exact (show False from q).elim
    | _ => exact (show False from q).elim
  | _ => exact (show False from q).elim
theorem px_min3 {p : Pos} (hc : X.calm = true) (hg : Gl X "min") (hm : X.mg "min" = none) (ha : PX X W B a da) (hb : PX X W B b db) (hcc : PX X W B c dc) (hs : starEach [a, b, c] X.env = (false, eval a X.env) :: starEach [b, c] X.env := by rfl) (hs2 : starEach [b, c] X.env = (false, eval b X.env) :: starEach [c] X.env := by rfl)
    (hs3 : starEach [c] X.env = (false, eval c X.env) :: starEach [] X.env := by rfl) (hpl : (backTo pos (starEach [b, c] X.env)).any (·.1) = false := by rfl) : PX X W B (.Call (.Name "min" p) [a, b, c] [] pos) (d3i min3 da db dc) :=
  PE.weak (pe_callB (p := p) (pos := pos) (call_min3Nu hc) hg hm (by decide +kernel) (pa_cons ha (pa_cons hb (pa_cons hcc pa_nil hs3) hs2) hs) (he := hs) (hpl := hpl)) fun σ H Q q => three_read (f := min3) (fun i j k H Q q => ⟨_, _, _, _, rfl, min3_nu i j k, q⟩) q
@[simp] theorem e_3i (f : Int → Int → Int → Int) (a b c : M PV) (s : PSt) : d3i f a b c s = (a s).bind fun (x : PV × PSt) => (b x.2).bind fun (y : PV × PSt) => (c y.2).bind fun (z : PV × PSt) => (match x.1, y.1, z.1 with
  | .int i, .int j, .int k => .ok (.int (f i j k), z.2)
  | _, _, _ => .bad) := by
  unfold d3i
  congr 1
end
end VL
set_option Elab.async false
set_option linter.all false
set_option maxRecDepth 100000
set_option maxHeartbeats 3200000
/-! VL39: sorted(set(l)) of a list of whole numbers. -/
namespace VL
set_option autoImplicit false
open PySem PySem.Spec PyProof.Rows L2
section
variable {P : Program} {w : World} {A : Around} {E : Value → Shared → Prop} {s : Shared}
def emptySet (w : World) : Obj := { cls := .type "set", dict := none, data := .set #[] 0 (.fresh 0 0 (!w.params.followText "set-order")) }
theorem nat_a {l n m : Nat} (h : l < n) (e : m = n + 1) : l ≠ m := by omega
theorem nat_b {l n m : Nat} (h : l < n) (e : m = n + 1) : n ∉ [m, l] := by simp; omega
theorem nat_c {b n m : Nat} (h : b < n) (e : m = n + 1) : b ∉ [n, m] := by simp; omega
theorem set_of_list {l : Addr} {vs : Array Value} (ns : List Int) {Q : Value → Shared → Prop} (free : A.handled = none) (lst : s.heap.IsList l vs) (whl : IntsAre vs.toList ns) (few : ns.length + 1 < scanBound)
    (k : ∀ (h' : Heap) (tk c : Nat), SetR w h' s.heap.objs.size (fun j => decide (j ∈ ns)) c → c ≤ ns.length → (∀ b o, s.heap.get? b = some o → h'.get? b = some o) → Q (.ref s.heap.objs.size) { s with heap := h', toks := tk }) :
    wpAny (model P w) A (call (.type "set") [.ref l]) Q E s := by
  have size : vs.size = ns.length := by
    have := IntsAre.length whl
    simpa using this
  obtain ⟨c, tl, mro⟩ := F.called_set.mro
  have made := F.called_set.made; have subs := F.called_set.sub
  refine wpAny_call (codeAny_of_tree (wpAny_pure (Q := _) ?_))
  refine ⟨Code.quiet_builtin _ (by decide +kernel), codeAny_builtin F.entry_type_call ?_⟩
  rw [Around.under_plain (weight_type_call_type "set" [.ref l] []) rfl]
  have no := F.called_set.notType; have can := F.called_set.canCreate; have once := F.typeCall_set_1 (.ref l)
  repeat (any_goals (first | assumption | wp_step))
  refine codeAny_mono (code_set_led1 (.ref l) (E := E) (Q₁ := fun x s1 => x = .ref s.heap.objs.size ∧ s1 = { s with heap := s.heap.push (emptySet w) }) ⟨rfl, rfl⟩) fun r s1 hr => ?_
  cases r with
  | error e => exact hr
  | ok fl =>
    cases fl with
    | ret x =>
      obtain ⟨rfl, rfl⟩ := hr
      have made1 : (s.heap.push (emptySet w)).get? s.heap.objs.size = some (emptySet w) := Heap.get?_push_size _ rfl
      have kind1 : Shared.TypeIs { s with heap := s.heap.push (emptySet w) } (.ref s.heap.objs.size) "set" := ⟨_, made1, rfl⟩
      have look := F.called_set.init.lookup; have bnd := F.called_set.init.bind (.ref s.heap.objs.size)
      repeat (any_goals (first | assumption | wp_step))
      refine codeAny_mono (codeAny_call_builtin (R := wants (fun r s2 => r = .none ∧ ∃ h' tk c, s2 = { s with heap := h', toks := tk } ∧ SetR w h' s.heap.objs.size (fun j => decide (j ∈ ns)) c ∧ c ≤ ns.length ∧ (∀ b o, s.heap.get? b = some o → h'.get? b = some o)) E) F.called_set.init.plain F.entry_set_init (check_set_init_1 kind1 ?_)) fun r2 s2 hr2 => ?_
      · obtain ⟨⟨ocls, odict, odata, oslots⟩, at_, e1, n, e2⟩ := lst
        simp only at e1 e2
        subst e1; subst e2
        have at1 : (s.heap.push (emptySet w)).get? l = some { cls := .type "list", dict := odict, data := .seq vs n, slots := oslots } := Heap.get?_push_of_some _ at_
        have s1 := F.sub_list_set; have s2 := F.sub_list_frozenset
        have nd : (Value.type "list" == Value.type "dict") = false := by decide
        have lst1 : (s.heap.push (emptySet w)).IsList l vs := ⟨_, at1, rfl, n, rfl⟩
        unfold Builtin.«set.__init__» noKeywords Builtin.Frozenset.updateFrom
        generalize hPI : pyIter = PI
        wp_walk
        subst hPI
        refine wpAny_pyIter_list lst1 (wpAny_bind (wpAny_runValue ?_))
        have below : l < s.heap.objs.size := Heap.lt_size at_
        have free3 : A.in1.in1.in1.handled = none := by simp [free]
        have grown : (s.heap.push (emptySet w)).objs.size = s.heap.objs.size + 1 := Heap.size_push ..
        refine set_update_ints ((Walks.list free3 _ l (nat_a below grown) vs).toS) s.heap.objs.size (nat_b below grown) ns size few (fun i v hv => ?_) (vs.size - 0) 0 _ (by omega) (Nat.zero_le _) ⟨⟨_, Heap.get?_push_size _ rfl, rfl, rfl⟩, lst1.push _⟩ ⟨0, Nat.le_refl 0, setR_new_at (Heap.get?_push_of_some _ made1)⟩ ?_
        · obtain ⟨n, t, rfl, hn⟩ := PyProof.Rows.IntsAre.at whl i v (by simpa using hv)
          exact ⟨n, t, hn, rfl⟩
        · intro s' c' mv le R
          obtain ⟨h', g, d, tk, os⟩ := s'
          have eg : g = s.gens := mv.gens
          have ed : d = s.drawn := mv.drawn
          have eo : os = s.os := mv.os
          subst eg ed eo
          refine wpAny_pure ?_
          show wpAny _ _ (ret Value.none) _ _ _
          rw [size] at le
          refine wpAny_pure ⟨rfl, h', tk, c', rfl, R, le, fun b o e => ?_⟩
          have lt := Heap.lt_size e
          exact mv.heap b o (nat_c lt grown) (Heap.get?_push_of_some _ (Heap.get?_push_of_some _ e))
      · cases r2 with
        | error e => exact hr2
        | ok fl2 =>
          cases fl2 with
          | ret r =>
            obtain ⟨rfl, h', tk, c', rfl, R, le, kp⟩ := hr2
            repeat (any_goals (first | assumption | wp_step))
            exact k _ _ _ R le kp
          | _ => exact hr2.elim
    | _ => exact hr.elim
end
end VL
set_option Elab.async false
set_option linter.all false
set_option maxRecDepth 100000
set_option maxHeartbeats 1000000
/-! VL40: sorted(set(l)), told. -/
namespace VL
set_option autoImplicit false
open PySem PySem.Spec PyProof.Rows L2
def insU (x : Int) : List Int → List Int
  | [] => [x]
  | y :: ys => if x < y then x :: y :: ys else if x = y then y :: ys else y :: insU x ys
def ascU : List Int → List Int
  | [] => []
  | x :: xs => insU x (ascU xs)
theorem mem_insU {x k : Int} : ∀ ys : List Int, k ∈ insU x ys ↔ k = x ∨ k ∈ ys
  | [] => by simp [insU]
  | y :: ys => by
    have ih := mem_insU (x := x) (k := k) ys
    unfold insU
    by_cases h1 : x < y
    · simp [h1]
    · by_cases h2 : x = y
      · subst h2; simp
      · simp only [h1, h2, if_false, List.mem_cons, ih]
        constructor <;> (rintro (h | h | h) <;> simp [h])
theorem mem_ascU {k : Int} : ∀ xs : List Int, k ∈ ascU xs ↔ k ∈ xs
  | [] => by simp [ascU]
  | x :: xs => by simp only [ascU, mem_insU, mem_ascU xs, List.mem_cons]
theorem insU_asc {x : Int} : ∀ {ys : List Int}, ys.Pairwise (· < ·) → (insU x ys).Pairwise (· < ·)
  | [], _ => by simp [insU]
  | y :: ys, h => by
    obtain ⟨h1, h2⟩ := List.pairwise_cons.mp h
    unfold insU
    by_cases c1 : x < y
    · rw [if_pos c1]
      refine List.pairwise_cons.mpr ⟨fun z hz => ?_, h⟩
      rcases List.mem_cons.mp hz with rfl | hz
      · exact c1
      · have := h1 z hz; omega
    · rw [if_neg c1]
      by_cases c2 : x = y
      · rw [if_pos c2]; exact h
      · rw [if_neg c2]
        refine List.pairwise_cons.mpr ⟨fun z hz => ?_, insU_asc h2⟩
        rcases (mem_insU ys).mp hz with rfl | hz
        · omega
        · exact h1 z hz
theorem ascU_asc : ∀ xs : List Int, (ascU xs).Pairwise (· < ·)
  | [] => List.Pairwise.nil
  | _ :: xs => insU_asc (ascU_asc xs)
theorem asc_one : ∀ (a b : List Int), a.Pairwise (· < ·) → b.Pairwise (· < ·) → (∀ k, k ∈ a ↔ k ∈ b) → a = b
  | [], [], _, _, _ => rfl
  | [], y :: _, _, _, h => by have := (h y).mpr List.mem_cons_self; simp at this
  | x :: _, [], _, _, h => by have := (h x).mp List.mem_cons_self; simp at this
  | x :: a, y :: b, ha, hb, h => by
    obtain ⟨a1, a2⟩ := List.pairwise_cons.mp ha
    obtain ⟨b1, b2⟩ := List.pairwise_cons.mp hb
    have e : x = y := by
      rcases List.mem_cons.mp ((h x).mp List.mem_cons_self) with e | hx
      · exact e
      · rcases List.mem_cons.mp ((h y).mpr List.mem_cons_self) with e | hy
        · exact e.symm
        · have := b1 x hx; have := a1 y hy; omega
    subst e
    rw [asc_one a b a2 b2 fun k => ?_]
    constructor
    · intro hk
      rcases List.mem_cons.mp ((h k).mp (List.mem_cons_of_mem _ hk)) with e | hb
      · have := a1 k hk; omega
      · exact hb
    · intro hk
      rcases List.mem_cons.mp ((h k).mpr (List.mem_cons_of_mem _ hk)) with e | hb
      · have := b1 k hk; omega
      · exact hb
def sortSetV : PV → Res (List PV)
  | .lst ps => (optR (intsV ps)).bind fun ns => if Nat.ble ns.length 62 then .ok (I (ascU ns)) else .bad
  | _ => .bad
def dSortSet (d : M PV) : M PV := fun s => (d s).bind fun (p, s) => (sortSetV p).bind fun r => .ok (.lst r, s)
@[simp] theorem e_SortSet (d : M PV) (s : PSt) : dSortSet d s = (d s).bind fun (x : PV × PSt) => (sortSetV x.1).bind fun r => .ok (.lst r, x.2) := rfl
section
variable {X : Cx} {C : CloT} {W : WX} {B : Bs} {pos : Pos}
def rSetL (K : PySem.W.Frag) (w : World) : List V → Hp → VK → Prop := fun xs H Q => ∃ (l : Addr) (ns : List Int), xs = [V.ref l] ∧ SqL K H l (ns.map V.int) ∧ ns.length + 1 < scanBound ∧
  ∀ (p : Addr) (c : Nat), c ≤ ns.length → H p = none → Q (.ref p) (upd H p (SetO w p (fun j => decide (j ∈ ns)) c))
theorem cr_setL (hc : X.calm = true) : CallR X (.type "set") (rSetL X.K X.w) := by
  intro pins s σ H xs us Q I r h
  obtain ⟨l, ns, rfl, sq, hb, q⟩ := h
  obtain ⟨its, rv, hl, _⟩ := I.list sq
  rw [Vals.ref1 r]
  refine set_of_list ns (I.ok.hd hc) hl.isList rv.ints hb fun h' tk c R hc' kp => ?_
  have hn : H s.heap.objs.size = none := I.hok.fresh (Nat.le_refl _)
  have J : Inv X pins σ (upd H s.heap.objs.size (SetO X.w s.heap.objs.size (fun j => decide (j ∈ ns)) c)) { s with heap := h', toks := tk } := I.laid (t' := tk) kp (Nat.le_refl _) (setO_new R)
  exact ⟨.ref _, _, J, rfl, q _ c hc' hn⟩
theorem repL_I {H : Hp} : ∀ ns : List Int, RepL X.K C H (I ns) (ns.map V.int)
  | [] => RepL.nil
  | n :: ns => .cons (rep_int.mpr rfl) (repL_I ns)
theorem pf_sortSet {e : Expr} {d : M PV} {p p2 q2 : Pos} (hc : X.calm = true) (hg : Gl X "sorted") (hm : X.mg "sorted" = none) (hg2 : Gl X "set") (hm2 : X.mg "set" = none) (he : PX X W B e d) (na : starEach [e] X.env = (false, eval e X.env) :: starEach [] X.env := by rfl)
    (nb : starEach [.Call (.Name "set" p2) [e] [] q2] X.env = (false, eval (.Call (.Name "set" p2) [e] [] q2) X.env) :: starEach [] X.env := by rfl) (nc : (backTo q2 (starEach [] X.env)).any (·.1) = false := by rfl) (nd : (backTo pos (starEach [] X.env)).any (·.1) = false := by rfl) :
    PF X W B (.Call (.Name "sorted" p) [.Call (.Name "set" p2) [e] [] q2] [] pos) (dSortSet d) := by
  refine PE.weak (pe_callB (p := p) (pos := pos) (cr_sortedSet hc) hg hm (by decide +kernel) (pa_cons (pe_callTy (p := p2) (pos := q2) (cr_setL hc) hg2 hm2 (by decide +kernel) (pa_cons he pa_nil na) (he := na) (hpl := nc)) pa_nil nb) (he := nb) (hpl := nd)) fun σ H Q ⟨s, R, q⟩ => ⟨s, R, tRa.bind (rep' := rF X B) q fun v0 s1 v H1 R1 x1 r1 q1 => ?_⟩
  cases v0 with
  | lst ps =>
    obtain ⟨a, xs, rfl, fz, rl⟩ := rep_lst.mp r1
    unfold sortSetV at q1
    dsimp only at q1
    cases en : intsV ps with
    | none => rw [en] at q1; exact (show False from q1).elim
    | some ns =>
      rw [en] at q1
      simp only [optR_some, Res.bind_ok] at q1
      by_cases hb : Nat.ble ns.length 62 = true
      · rw [if_pos hb] at q1
        have hb' := Nat.le_of_ble_eq_true hb
        have ey := intsV_rep en rl
        subst ey
        refine ⟨a, ns, rfl, fz.sql, by unfold scanBound; omega, fun p c hc' hp => ⟨p, _, c, rfl, upd_same, by omega, fun out b h1 h2 h3 hb2 => ?_⟩⟩
        have hbp : b ≠ p := fun z => by subst z; rw [upd_same] at hb2; cases hb2
        have hb1 : H1 b = none := by rw [upd_ne hbp] at hb2; exact hb2
        have eo : out = ascU ns := asc_one _ _ h1 (ascU_asc ns) fun k => by rw [h2, mem_ascU]; simp
        rw [eo]
        have g1 : Grow H1 (upd H1 p (SetO X.w p (fun j => decide (j ∈ ns)) c)) := Grow.new hp
        have g2 : Grow H1 (upd (upd H1 p (SetO X.w p (fun j => decide (j ∈ ns)) c)) b (.lst ((ascU ns).map V.int))) := fun z o e => Grow.new hb2 _ _ (g1 _ _ e)
        exact newF R1 hb1 g2.ext g2 upd_same (repL_I _) q1
      · rw [if_neg hb] at q1
        exact (show False from q1).elim
  | _ => exact (show False from q1).elim
end
end VL
/-! VL41: dicts whose keys are tuples of ints and texts. -/
namespace VL
set_option autoImplicit false
open PySem PySem.Spec PyProof.Rows L2
def keysV : List PV → Option (List Key)
  | [] => some []
  | p :: ps => match keyV p, keysV ps with
    | some k, some r => some (k :: r)
    | _, _ => none
def keyTV : PV → Option (List Key)
  | .tup ps => keysV ps
  | _ => none
section
variable {X : Cx} {W : WX} {B : Bs} {pos : Pos} {D : Ends}
theorem keysV_rep {C : CloT} {H : Hp} : ∀ {ps : List PV} {xs : List V} {k : List Key}, RepL X.K C H ps xs → keysV ps = some k → xs = k.map kV
  | [], xs, k, r, e => by simp only [RepL] at r; subst r; cases e; rfl
  | p :: ps, xs, k, r, e => by
    obtain ⟨y, ys, rfl, r1, r2⟩ := r.head
    unfold keysV at e
    split at e
    · rename_i k1 k2 e1 e2
      cases e
      rw [keysV_rep r2 e2, key_rep r1 e1]
      rfl
    · cases e
theorem keyT_rep {C : CloT} {H : Hp} {p : PV} {v : V} {k : List Key} (r : Rep X.K C H p v) (e : keyTV p = some k) : ∃ b, v = .ref b ∧ H b = some (.tup (k.map kV)) := by
  cases p with
  | tup ps =>
    simp only [Rep] at r
    obtain ⟨a, xs, rfl, h, rl⟩ := r
    exact ⟨a, rfl, by rw [h, keysV_rep rl e]⟩
  | _ => cases e
/-- {}, its keys to be tuples -/
def dEmpT : M PV := fun s => .ok (.dtt [] [], s)
theorem pf_dictT : PF X W B (.Dict [] [] pos) dEmpT :=
  PE.weak pe_dnewT fun σ H Q ⟨s, R, q⟩ p hp => q _ _ (R.new hp) (Ext.new hp) ⟨p, rfl, ⟨rfl, [], upd_same, RepL.nil⟩, R.h0 hp, R.lone hp⟩
/-! d[t] = v -/
def owT (s : PSt) (i : Nat) : Option (List (List Key) × List PV) := match s[i]? with
  | some (some (.ow (.dtt ks ps))) => some (ks, ps)
  | _ => none
theorem owT_at {s : PSt} {i : Nat} {ks : List (List Key)} {ps : List PV} (h : owT s i = some (ks, ps)) : s[i]? = some (some (.ow (.dtt ks ps))) := by
  unfold owT at h
  split at h
  · cases h; assumption
  · cases h
theorem rel_dtt {s : PSt} {σ : St} {H : Hp} {i : Nat} {ks : List (List Key)} {ps : List PV} (R : RelSt X.K B s σ H) (h : owT s i = some (ks, ps)) : ∃ a xs, σ[i]? = some (some (.ref a)) ∧ ks.length = ps.length ∧ H a = some (.dT (ks.zip xs)) ∧ RepL X.K B.C H ps xs ∧ B.H0 a = none := by
  obtain ⟨v, ev, a, rfl, ⟨l, xs, h1, h2⟩, n⟩ := R.at_ i _ (owT_at h)
  exact ⟨a, xs, ev, l, h1, h2, n⟩
theorem ext_dtt {H : Hp} {a : Addr} {xs ys : List (List Key × V)} (h : H a = some (.dT xs)) : Ext H (upd H a (.dT ys)) := Ext.upd h wr_dT
theorem rel_setT {s : PSt} {σ : St} {H : Hp} {i : Nat} {ks js : List (List Key)} {ps qs : List PV} {a : Addr} {zs : List (List Key × V)} {ys : List V} (R : RelSt X.K B s σ H) (h : owT s i = some (ks, ps)) (e : σ[i]? = some (some (.ref a))) (ha : H a = some (.dT zs)) (l : js.length = qs.length) (r : RepL X.K B.C H qs ys) :
    RelSt X.K B (s.set i (some (.ow (.dtt js qs)))) σ (upd H a (.dT (js.zip ys))) := R.write (owT_at h) e ⟨l, ys, upd_same, RepL.ext (ext_dtt ha) _ _ r⟩
def dPutT (i : Nat) (dk dv : M PV) : M Fl := fun s => (optR (owT s i)).bind fun _ => (dv s).bind fun (p, s) => (dk s).bind fun (q, s) => (optR (owT s i)).bind fun z => (optR (keyTV q)).bind fun k =>
  if fitsL (z.1.length + 1) then .ok (.nx, s.set i (some (.ow (.dtt (putP k p z.1 z.2).1 (putP k p z.1 z.2).2)))) else .bad
theorem pxs_putT {i : Nat} {x : Str} {a value : Expr} {dk dv : M PV} {npos pos' : Pos} (hu : X.A.units + 1 < cLine) (hN : X.N[i]? = some x) (hv : Vis X.env.scope x) (hk : PX X W B a dk) (he : PX X W B value dv)
    (hs : swapsWith value (some (.Subscript (.Name x npos) a pos')) pos.line X.env = pure false := by rfl)
    (hd : (x == ("__debug__" : Str)) = false := by decide) (hcd : (x == ("__classdict__" : Str)) = false := by decide) :
    PXS X W B (.Assign [.Subscript (.Name x npos) a pos'] value pos) (dPutT i dk dv) := by
  have hvar : PE X (.Name x npos) (tVar i) := pe_var hN hv hd hcd
  have hD := ps_dput (pos := pos) (pos' := pos') hu hvar hk he hs
  refine ⟨fun pins s σ H D I h => ?_⟩
  obtain ⟨sp, R, h⟩ := h
  unfold dPutT at h
  obtain ⟨p0, e0, h⟩ := endR.optR h
  obtain ⟨a0, xs0, ev0, _⟩ := rel_dtt R (show owT sp i = some (p0.1, p0.2) from e0)
  refine hD.run pins s σ H D I ⟨sp, R, ?_⟩
  cases e1 : dv sp with
  | bad => rw [e1] at h; exact h.elim
  | exc c v => rw [e1] at h; exact h
  | ok r1 =>
    obtain ⟨p, s1⟩ := r1
    rw [e1] at h
    dsimp only [Res.bind_ok] at h
    intro v1 H1 R1 x1 rv
    refine ⟨.ref a0, ev0, s1, R1, ?_⟩
    cases e2 : dk s1 with
    | bad => rw [e2] at h; exact h.elim
    | exc c v => rw [e2] at h; exact h
    | ok r2 =>
      obtain ⟨q, s2⟩ := r2
      rw [e2] at h
      dsimp only [Res.bind_ok] at h
      obtain ⟨⟨ks, ps⟩, eo, h⟩ := endR.optR h
      obtain ⟨k, ek, h⟩ := endR.optR h
      split at h
      case isFalse => exact h.elim
      rename_i hfit
      intro v2 H2 R2 x2 r2
      obtain ⟨a, xs, ea, la, ha', ra, na⟩ := rel_dtt R2 eo
      rw [ev0] at ea
      cases ea
      obtain ⟨l2, zs, e3, r3⟩ := putP_rep (k := k) (Rep.ext x2 _ _ rv) la ra
      obtain ⟨b, eb, hb⟩ := keyT_rep r2 ek
      refine ⟨a0, _, rfl, .inr ⟨_, k, b, ha', eb, hb, ?_, rfl⟩, ?_⟩
      · have := fitsL_le hfit
        rw [List.length_zip, ra.length, la, Nat.min_self, ← la]
        exact this
      · rw [e3]
        exact h σ _ (rel_setT R2 eo ev0 ha' l2 r3) (x1.trans (x2.trans (ext_dtt ha')))
/-! == {}, != {} -/
def dEmB : PV → PV → Option Bool
  | .dtt ks _, .dct [] [] => some ks.isEmpty
  | .dct ks _, .dct [] [] => some ks.isEmpty
  | _, _ => none
def neEV (p q : PV) : Res PV := (optR (dEmB p q)).bind fun b => .ok (.bl (!b))
def eqEV (p q : PV) : Res PV := (optR (dEmB p q)).bind fun b => .ok (.bl b)
theorem ne_neE : NoExc neEV := by
  intro p q c v
  unfold neEV
  cases dEmB p q <;> simp
theorem ne_eqE : NoExc eqEV := by
  intro p q c v
  unfold eqEV
  cases dEmB p q <;> simp
/-- a's entries, whatever they are, beside an empty dict -/
theorem same_empty {A : Around} {E : Value → Shared → Prop} {s : Shared} {nm : String} {a b : Addr} {oa ob : Obj} {es es' : Array DictEntry} {ep ep' : Nat} {Q : Bool → Shared → Prop} (ha : (a == sysModules) = false) (hb : (b == sysModules) = false)
    (hoa : s.heap.get? a = some oa) (hda : oa.data = .dict es ep) (hob : s.heap.get? b = some ob) (hdb : ob.data = .dict es' ep') (h0 : es' = #[]) (h : Q es.isEmpty s) :
    wpAny (model X.prog X.w) A (Builtin.Dict.samePairs nm a b) Q E s := by
  subst h0
  unfold Builtin.Dict.samePairs Builtin.Dict.showsAll
  rw [if_neg (show ¬ (a == sysModules) = true by rw [ha]; exact Bool.false_ne_true), if_neg (show ¬ (b == sysModules) = true by rw [hb]; exact Bool.false_ne_true)]
  refine wpAny_bind (wpAny_pure (wpAny_bind (wpAny_pure ?_)))
  refine wpAny_bind (wpAny_dictEntries hoa hda ?_)
  dsimp only
  refine wpAny_bind (wpAny_dictEntries hob hdb ?_)
  by_cases hsz : es.size = 0
  case neg =>
    rw [if_pos (by simpa using hsz)]
    have hbf : es.isEmpty = false := by simpa [Array.isEmpty] using hsz
    rw [hbf] at h
    exact wpAny_bind (wpAny_rule (wpAny_pure h))
  case pos =>
    have hbf : es.isEmpty = true := by simpa [Array.isEmpty] using hsz
    rw [hbf] at h
    rw [if_neg (by rw [hsz]; simp)]
    refine wpAny_bind (wpAny_dictEpoch hoa hda ?_)
    refine wpAny_bind ?_
    rw [Std.Legacy.Range.forIn_eq_forIn_range']
    simp only [Std.Legacy.Range.size, Nat.sub_zero, Nat.add_sub_cancel, Nat.div_one, hsz]
    exact wpAny_pure (wpAny_pure h)
theorem dict_at {P : Program} {w : World} {C : CloT} {H : Hp} {h : Heap} {p q : PV} {v : V} {b : Bool} (ok : HOk P w H h) (r : Rep X.K C H p v) (e : dEmB p q = some b) :
    ∃ a o es ep, v = .ref a ∧ (a == sysModules) = false ∧ h.get? a = some o ∧ o.ExactDict ∧ o.data = .dict es ep ∧ es.isEmpty = b := by
  unfold dEmB at e
  split at e
  · rename_i ks ps
    cases e
    simp only [Rep] at r
    obtain ⟨a, xs, rfl, l, ⟨o, f⟩, rl⟩ := r
    obtain ⟨z, y, us, r, o, es, ep, h1, h2, h3, h4, h5⟩ := (show ObjOk P w H h a (.dT (ks.zip xs)) from rd_of ok (.inr ⟨o, f⟩))
    refine ⟨a, o, es, ep, rfl, y, h1, h2, h3, ?_⟩
    have hl := Paired.length r
    have hl2 : es.size = us.length := by rw [← Array.length_toList, h4, List.length_map]
    have hx := rl.length
    rw [List.length_zip, hx, ← l, Nat.min_self] at hl
    rw [Array.isEmpty, hl2, ← hl]
    cases ks <;> rfl
  · rename_i ks ps
    cases e
    simp only [Rep] at r
    obtain ⟨a, xs, rfl, l, ⟨o, f⟩, rl⟩ := r
    obtain ⟨z, y, us, r, o, es, ep, h1, h2, h3, h4, h5, h6⟩ := (show ObjOk P w H h a (.dK (ks.zip xs)) from rd_of ok (.inr ⟨o, f⟩))
    refine ⟨a, o, es, ep, rfl, y, h1, h2, h3, ?_⟩
    have hl := Paired.length r
    have hl2 : es.size = us.length := by rw [← Array.length_toList, h5.length]
    have hx := rl.length
    rw [List.length_zip, hx, ← l, Nat.min_self] at hl
    rw [Array.isEmpty, hl2, ← hl]
    cases ks <;> rfl
  · cases e
theorem dEmB_r {p q : PV} {b : Bool} (e : dEmB p q = some b) : q = .dct [] [] := by
  unfold dEmB at e
  split at e
  · rfl
  · rfl
  · cases e
theorem opv_neE {C : CloT} (hu : X.A.units + 64 < cLine) : OpV X C (compareOp .NotEq) neEV := by
  intro p q r h pins s σ H x y v u Q I rx ry ⟨r1, r2, k⟩
  unfold neEV at h
  cases e : dEmB p q with
  | none => rw [e] at h; cases h
  | some b =>
    rw [e] at h
    cases h
    obtain ⟨a, o, es, ep, rfl, ya, ha, xa, da, ea⟩ := dict_at I.hok r1 e
    have eq := dEmB_r e
    subst eq
    obtain ⟨a', o', es', ep', rfl, ya', ha', xa', da', ea'⟩ := dict_at (q := .dct [] []) (b := true) I.hok r2 rfl
    cases rx
    cases ry
    have t1 : s.TypeIs (.ref a) "dict" := ⟨o, ha, xa.1⟩
    have t2 : s.TypeIs (.ref a') "dict" := ⟨o', ha', xa'.1⟩
    refine wpAny_richCompare_same_room (op := .NotEq) t1 t2 PySem.F.slot_dict_ne (wpAny_call_entry PySem.F.slot_dict_ne t1 PySem.F.entry_dict_ne ?_ (PySem.F.args_dict_ne_2 _ _)) (by omega)
    show wpAny _ _ (Builtin.Dict.dictSlotArgs "__ne__" ⟨[.ref a, .ref a'], []⟩ >>= _) _ _ s
    refine wpAny_bind ?_
    unfold Builtin.Dict.dictSlotArgs
    refine wpAny_bind (wpAny_notOrdered_dict t1 ?_)
    show wpAny _ _ (pure (Value.ref a, Value.ref a')) _ _ s
    refine wpAny_pure ?_
    refine wpAny_bind (wpAny_isInstance (T := "dict") t2 PySem.F.sub_dict_dict ?_)
    simp only [Bool.not_true, Bool.false_eq_true, if_false]
    refine wpAny_bind (wpAny_pure (wpAny_bind (wpAny_pure ?_)))
    refine wpAny_bind (same_empty ya ya' ha da ha' da' (by simpa using ea') ?_)
    refine wpAny_pure ⟨_, rfl, ?_, ?_⟩
    · exact fun x => nomatch x
    · exact fin_b I k (by rw [ea]; cases b <;> rfl)
theorem opv_eqE {C : CloT} (hu : X.A.units + 64 < cLine) : OpV X C (compareOp .Eq) eqEV := by
  intro p q r h pins s σ H x y v u Q I rx ry ⟨r1, r2, k⟩
  unfold eqEV at h
  cases e : dEmB p q with
  | none => rw [e] at h; cases h
  | some b =>
    rw [e] at h
    cases h
    obtain ⟨a, o, es, ep, rfl, ya, ha, xa, da, ea⟩ := dict_at I.hok r1 e
    have eq := dEmB_r e
    subst eq
    obtain ⟨a', o', es', ep', rfl, ya', ha', xa', da', ea'⟩ := dict_at (q := .dct [] []) (b := true) I.hok r2 rfl
    cases rx
    cases ry
    have t1 : s.TypeIs (.ref a) "dict" := ⟨o, ha, xa.1⟩
    have t2 : s.TypeIs (.ref a') "dict" := ⟨o', ha', xa'.1⟩
    refine wpAny_richCompare_same_room (op := .Eq) t1 t2 PySem.F.slot_dict_eq (wpAny_call_entry PySem.F.slot_dict_eq t1 PySem.F.entry_dict_eq ?_ (PySem.F.args_dict_eq_2 _ _)) (by omega)
    show wpAny _ _ (Builtin.Dict.dictSlotArgs "__eq__" ⟨[.ref a, .ref a'], []⟩ >>= _) _ _ s
    refine wpAny_bind ?_
    unfold Builtin.Dict.dictSlotArgs
    refine wpAny_bind (wpAny_notOrdered_dict t1 ?_)
    show wpAny _ _ (pure (Value.ref a, Value.ref a')) _ _ s
    refine wpAny_pure ?_
    refine wpAny_bind (wpAny_isInstance (T := "dict") t2 PySem.F.sub_dict_dict ?_)
    simp only [Bool.not_true, Bool.false_eq_true, if_false]
    refine wpAny_bind (wpAny_pure (wpAny_bind (wpAny_pure ?_)))
    refine wpAny_bind (same_empty ya ya' ha da ha' da' (by simpa using ea') ?_)
    refine wpAny_pure ⟨_, rfl, ?_, ?_⟩
    · exact fun x => nomatch x
    · exact fin_b I k (by rw [ea]; cases b <;> rfl)
/-! {k: v} -/
theorem pe_disp1T {k v : Expr} {tk tv : TE} (hu : X.A.units + 1 < cLine) (hk : PE X k tk) (hv : PE X v tv) : PE X (.Dict [some k] [v] pos)
    (fun σ H Q => ∀ p, H p = none → tk σ (upd H p (.dT [])) fun x H1 => tv σ H1 fun y H2 => H2 p = some (.dT []) ∧ ∃ b ks, x = .ref b ∧ H2 b = some (.tup (ks.map kV)) ∧ Q (.ref p) (upd H2 p (.dT [(ks, y)]))) := by
  refine ⟨fun pins s σ H Q I q => ?_⟩
  have hn := I.hok.fresh (Nat.le_refl s.heap.objs.size)
  have I1 := I.laid (a := s.heap.objs.size) (o := .dT []) (h' := s.heap.push { cls := .type "dict", data := .dict #[] }) (t' := s.toks) (fun _ _ q => Heap.get?_push_of_some _ q) (Nat.le_refl _) (dt_empty s.heap I.big)
  rw [arm_eval_Dict, zip_pairTrees [some k] [v] X.env pos rfl rfl, dictDisplay_pairs (pairTrees [some k] [v] X.env pos) (fun z => nomatch z) (by rw [pairTrees_length _ _ _ _ rfl rfl, List.length_singleton]; decide)]
  refine wpAny_bind (wpAny_standAt (wpAny_bind (wpAny_subDictH (knd := tupleKind (mixKind X.prog X.w)) (show X.A.units < cLine by omega) (by rw [pairTrees_length _ _ _ _ rfl rfl, List.length_singleton]; decide) (pairTrees_cons_walk (thn (hk.run pins _ σ _ _ I1 (q _ hn)) fun u s1 ⟨x, H1, I2, rx, q1⟩ => thn (hv.run pins s1 σ H1 _ I2 q1) fun w2 s2 ⟨y, H2, I3, ry, e, b, ks, ex, hb, q2⟩ => pairTrees_nil_walk ?_)))))
  subst ex
  cases (show u = Value.ref b from rx)
  obtain ⟨z, hd, xs, rel, dd⟩ := dt_of I3.hok e
  cases rel
  refine ⟨[(ks, b, w2)], ⟨rfl, rfl, key_of I3.hok hb, trivial⟩, dd, fun h' tk dd' hs => wpAny_pure ⟨.ref s.heap.objs.size, _, ?_, rfl, q2⟩⟩
  obtain ⟨q, es, ep, hq, h2, h3, h4, _, h5⟩ := dd'
  refine d_write I3 (by rw [e]; exact True.intro) hs ⟨q, hq⟩ ⟨by rw [List.length_singleton, sizeLine_eq]; decide, hd, [(ks, b, w2)], .cons ⟨rfl, ?_, ry⟩ .nil, q, es, ep, hq, h2, h3, h4, h5⟩
  rw [upd_ne (ne_of hb e (fun z => nomatch z))]
  exact hb
def noX {α : Type} (r : Res α) : Res α := match r with
  | .exc _ _ => .bad
  | r => r
def dDispT (dk dv : M PV) : M PV := fun s => (noX (dk s)).bind fun (q, s) => (noX (dv s)).bind fun (p, s) => (optR (keyTV q)).bind fun k => .ok (.dtt [k] [p], s)
theorem pf_dispT {k v : Expr} {dk dv : M PV} (hu : X.A.units + 1 < cLine) (hk : ∀ H0, PX X W (B.at H0) k dk) (hv : ∀ H0, PX X W (B.at H0) v dv) : PF X W B (.Dict [some k] [v] pos) (dDispT dk dv) := by
  have hk' : PE X k (fun σ H Q => ∃ H0, tR X W (B.at H0) (rV X (B.at H0)) dk σ H Q) := ⟨fun pins s σ H Q I ⟨H0, q⟩ => (hk H0).run pins s σ H Q I q⟩
  have hv' : PE X v (fun σ H Q => ∃ H0, tR X W (B.at H0) (rV X (B.at H0)) dv σ H Q) := ⟨fun pins s σ H Q I ⟨H0, q⟩ => (hv H0).run pins s σ H Q I q⟩
  refine PE.weak (pe_disp1T (pos := pos) hu hk' hv') fun σ H Q ⟨s, R, q⟩ p hp => ?_
  have h0 : B.H0 p = none := R.h0 hp
  have hpp := R.hpot h0
  have R1 := (R.new (o := .dT []) hp).hold upd_same (R.lone hp)
  refine ⟨upd B.H0 p (.dT []), s, R1, ?_⟩
  unfold dDispT at q
  cases e1 : dk s with
  | bad => rw [e1] at q; exact q.elim
  | exc c v => rw [e1] at q; exact (show False from q).elim
  | ok r1 =>
    obtain ⟨qk, s1⟩ := r1
    rw [e1] at q
    intro x H1 R2 x1 rx
    refine ⟨upd B.H0 p (.dT []), s1, R2, ?_⟩
    dsimp only [noX, Res.bind_ok] at q
    cases e2 : dv s1 with
    | bad => rw [e2] at q; exact q.elim
    | exc c v => rw [e2] at q; exact (show False from q).elim
    | ok r2 =>
      obtain ⟨qv, s2⟩ := r2
      rw [e2] at q
      intro y H2 R3 x2 ry
      dsimp only [noX, Res.bind_ok] at q
      obtain ⟨k, ek, q⟩ := optR_ok q
      obtain ⟨R4, e4, lo⟩ := R3.held h0 hpp (fun _ z => nomatch z)
      obtain ⟨b, eb, hb⟩ := keyT_rep (Rep.ext x2 _ _ rx) ek
      refine ⟨e4, b, k, eb, hb, ?_⟩
      have xe : Ext H2 (upd H2 p (.dT [(k, y)])) := ext_dtt e4
      exact q _ _ (R4.other (o := .dT [(k, y)]) h0 hpp lo e4 wr_dT) ((Ext.new hp).trans (x1.trans (x2.trans xe))) ⟨p, rfl, ⟨rfl, [y], upd_same, .cons (Rep.ext xe _ _ ry) .nil⟩, h0, (R4.other (o := .dT [(k, y)]) h0 hpp lo e4 wr_dT |> fun _ => lo)⟩
end
/-! tables of several defs that make lambdas -/
def noDupB : List Addr → Bool
  | [] => true
  | a :: r => (r.all fun b => !Nat.beq a b) && noDupB r
def tabsNe (tf : List He.Defn) (K : PySem.W.Frag) : Bool := noDupB (tf.map fun p => (He.cT K p).2)
theorem and2 {a b : Bool} (h : (a && b) = true) : a = true ∧ b = true := by simpa using h
theorem tabs_uniq {K : PySem.W.Frag} {f : He.Defn → Str} : ∀ {tf : List He.Defn}, tabsNe tf K = true → ∀ {p : He.Defn}, p ∈ tf → ∀ r ∈ tf.map (fun p => ((He.cT K p).2, f p)), r.1 = (He.cT K p).2 → r.2 = f p := by
  intro tf
  induction tf with
  | nil => intro _ p hp; cases hp
  | cons t tf ih =>
    intro nd p hp r hr e
    have nd' : ((tf.map fun p => (He.cT K p).2).all fun b => !Nat.beq (He.cT K t).2 b) = true ∧ tabsNe tf K = true := and2 nd
    have far : ∀ q ∈ tf, (He.cT K t).2 ≠ (He.cT K q).2 := fun q hq z => by
      have := List.all_eq_true.mp nd'.1 _ (List.mem_map.mpr ⟨q, hq, rfl⟩)
      rw [← z] at this
      have b : Nat.beq (He.cT K t).2 (He.cT K t).2 = true := Nat.beq_refl _
      rw [b] at this
      cases this
    rw [List.map_cons, List.mem_cons] at hr
    rcases List.mem_cons.mp hp with hp | hp
    · rcases hr with hr | hr
      · rw [hr, hp]
      · obtain ⟨q, hq, eq⟩ := List.mem_map.mp hr
        rw [← eq] at e
        rw [hp] at e
        exact absurd e.symm (far q hq)
    · rcases hr with hr | hr
      · rw [hr] at e
        exact absurd e (far p hp)
      · exact ih nd'.2 hp r hr e
end VL
/-! VL42: tuples made by tuple(list) whose object is known: t.index(n). -/
namespace VL
set_option autoImplicit false
open PySem PySem.Spec PyProof.Rows L2
section
variable {X : Cx} {C : CloT} {W : WX} {B : Bs} {pos : Pos}
/-- tuple(l), the object known from then on -/
def tixV : PV → Res PV
  | .lst ps => .ok (.tix ps)
  | _ => .bad
theorem c1_tix : Call1 X C (.type "tuple") tixV := by
  intro p r e pins s σ H xs us Q I rv ⟨x, ex, n, k⟩
  subst ex
  cases p with
  | lst ps =>
    cases e
    obtain ⟨a, ys, rfl, sq, rl⟩ := n
    obtain ⟨u, rfl, rx⟩ := vals1 rv
    cases rx
    obtain ⟨its, r', pl, hz⟩ := I.list sq
    have hlen := r'.length
    refine call_tuple_list pl.isList (fun h' kp => ?_) (by simp only [List.size_toArray] <;> omega)
    have I1 : Inv X pins σ H { s with heap := h' } := I.kept (t' := s.toks) kp
    have hf : H h'.objs.size = none := I1.hok.fresh (Nat.le_refl _)
    have I2 : Inv X pins σ (upd H h'.objs.size (.frz { cls := .type "tuple", data := .seq its.toArray } (.tup ys))) { s with heap := h'.push { cls := .type "tuple", data := .seq its.toArray } } :=
      I1.laid (t' := s.toks) (fun b o e => Heap.get?_push_of_some _ e) (Nat.le_refl _) (show ObjOk X.prog X.w _ _ _ (.frz _ (.tup ys)) from ⟨Heap.get?_push_size _ rfl, hz, its, r', IsTup.new _ _⟩)
    refine ⟨.ref h'.objs.size, _, I2, rfl, k _ _ (Grow.new hf) ?_⟩
    exact rep_tix.mpr ⟨_, _, ys, rfl, ⟨upd_same, rfl⟩, RepL.ext (Ext.new hf) _ _ rl⟩
  | _ => cases e
theorem n1_tix : NoEx1 tixV := by
  intro p c v
  cases p <;> simp only [tixV, ne_eq, reduceCtorEq, not_false_eq_true]
/-- t.index(n) -/
theorem pe_idxT {o e : Expr} {to : TE} {t : TA} {apos cpos : Pos} (ho : PE X o to) (ha : PA X [e] t)
    (hbase : attributeBase o "index" X.env (eval o X.env) = eval o X.env := by rfl)
    (hfew : ((backTo cpos (starEach [e] X.env)).all (fun x => !x.1) && (backToKw cpos (keywordEach [] X.env)).all (fun x => x.1.isSome)
      && decide ([e].length + ([] : List Keyword).length + (if ([] : List Keyword).isEmpty then 0 else 1) < 30)) = true := by rfl)
    (hline : (apos.endLine == cpos.line) = true := by rfl) (hs : starEach [e] X.env = (false, eval e X.env) :: starEach [] X.env := by rfl) (hplain : (backTo cpos (starEach [] X.env)).any (·.1) = false := by rfl) :
    PE X (.Call (.Attribute o "index" apos) [e] [] cpos) (fun σ H Q => to σ H fun x H1 => ∃ (p : Addr) (ob : Obj) (ys : List V), x = .ref p ∧ H1 p = some (.frz ob (.tup ys)) ∧ ob.dict = none ∧
      t σ H1 fun xs H2 => ∃ (k : Int) (ns : List Int), xs = [.int k] ∧ ys = ns.map V.int ∧ H2 p = some (.frz ob (.tup ys)) ∧ k ∈ ns ∧ Q (.int (ns.idxOf k : Nat)) H2) := by
  refine ⟨fun pins s σ H Q I h => ?_⟩
  refine wpAny_Call_method_late hbase hfew hline rfl (thn (ho.run pins s σ H _ I h) fun v s1 ⟨x, H1, I1, r1, p, ob, ys, ex, hp, hd, q1⟩ => ?_)
  subst ex
  cases r1
  obtain ⟨hg, _, its, rv, o', h1, h2, n, h3⟩ := (show ObjOk X.prog X.w H1 s1.heap p (.frz ob (.tup ys)) from I1.hok p _ hp)
  have eo : o' = ob := Option.some.inj (h1.symm.trans hg)
  subst eo
  refine ⟨"tuple", "tuple.index", PySem.F.plainAttrs_tuple, PySem.F.slot_tuple_index, PySem.F.type_tuple_index, ⟨o', hg, h2⟩, fun a e => by cases e; exact ⟨o', hg, hd⟩, ?_⟩
  have hA := ha.run cpos pins s1 σ H1 _ I1 q1
  rw [hs] at hA ⊢
  refine Calls.callWith_builtin (by show (false || (backTo cpos (starEach [] X.env)).any (·.1)) = false; rw [hplain] <;> rfl) (Calls.evalArgs_plain ?_)
  refine thn hA fun us s2 ⟨vs, H2, I2, r2, k, ns, ev, ey, hp2, hk, q2⟩ => ?_
  subst ev ey
  obtain ⟨u, rfl, t', rfl⟩ := vals1 r2
  obtain ⟨hg2, hz2, its2, rv2, o2, g1, g2, n2, g3⟩ := (show ObjOk X.prog X.w H2 s2.heap p (.frz o' (.tup (ns.map V.int))) from I2.hok p _ hp2)
  exact PySem.SeqAt.tuple_index_ints (vs := its2) (ns := ns) (show s2.heap.IsTuple p its2.toArray from ⟨o2, g1, g2, n2, g3⟩) (Vals.ints rv2) hk ⟨.int _, H2, I2.tok _, ⟨_, rfl⟩, q2⟩
theorem idxI_of {n : Int} : ∀ {ns : List Int} {j : Nat}, idxI n (I ns) = some j → n ∈ ns ∧ ns.idxOf n = j
  | [], j, h => by simp [I, idxI] at h
  | a :: ns, j, h => by
    simp only [I, List.map_cons, idxI] at h
    by_cases e : a = n
    · rw [if_pos e] at h
      cases h
      subst e
      exact ⟨List.mem_cons_self, by simp⟩
    · rw [if_neg e] at h
      obtain ⟨k, hk, rfl⟩ := Option.map_eq_some_iff.mp h
      obtain ⟨h1, h2⟩ := idxI_of (ns := ns) hk
      refine ⟨List.mem_cons_of_mem _ h1, ?_⟩
      rw [List.idxOf_cons, h2]
      have : (a == n) = false := by simpa using e
      rw [this]; rfl
def shX (s : PSt) (i : Nat) : Option (List PV) := match s[i]? with
  | some (some (.sh (.tix ps))) => some ps
  | _ => none
def dIdxT (i : Nat) (d : M PV) : M PV := fun s => (optR (shX s i)).bind fun ps => (d s).bind fun (p, s') => (idxV ps p).bind fun r => .ok (r, s')
@[simp] theorem e_IdxT (i : Nat) (d : M PV) (s : PSt) : dIdxT i d s = (optR (shX s i)).bind fun ps => (d s).bind fun (x : PV × PSt) => (idxV ps x.1).bind fun r => .ok (r, x.2) := rfl
theorem px_idxT {i : Nat} {x : Str} {e : Expr} {d : M PV} {npos apos : Pos} (hN : X.N[i]? = some x) (hv : Vis X.env.scope x) (he : PX X W B e d) (hd : (x == ("__debug__" : Str)) = false := by decide) (hcd : (x == ("__classdict__" : Str)) = false := by decide)
    (hbase : attributeBase (.Name x npos) "index" X.env (eval (.Name x npos) X.env) = eval (.Name x npos) X.env := by rfl)
    (hfew : ((backTo pos (starEach [e] X.env)).all (fun x => !x.1) && (backToKw pos (keywordEach [] X.env)).all (fun x => x.1.isSome)
      && decide ([e].length + ([] : List Keyword).length + (if ([] : List Keyword).isEmpty then 0 else 1) < 30)) = true := by rfl)
    (hline : (apos.endLine == pos.line) = true := by rfl) (hs : starEach [e] X.env = (false, eval e X.env) :: starEach [] X.env := by rfl) (hplain : (backTo pos (starEach [] X.env)).any (·.1) = false := by rfl) :
    PX X W B (.Call (.Attribute (.Name x npos) "index" apos) [e] [] pos) (dIdxT i d) := by
  refine PE.weak (pe_idxT (pe_var hN hv hd hcd) (pa_cons he pa_nil hs) hbase hfew hline hs hplain) fun σ H Q ⟨s, R, q⟩ => ?_
  unfold dIdxT at q
  obtain ⟨ps, e0, q⟩ := optR_ok q
  have ey : s[i]? = some (some (.sh (.tix ps))) := by
    unfold shX at e0
    split at e0
    · rename_i e1; cases e0; exact e1
    · cases e0
  obtain ⟨v', ev, rv⟩ := R.at_ i _ ey
  obtain ⟨a, ob, xs, rfl, ⟨hH, hdd⟩, rl⟩ := rep_tix.mp (show Rep X.K B.C H (.tix ps) v' from rv)
  refine ⟨_, ev, a, ob, xs, rfl, hH, hdd, s, R, tRa.bind (rep' := rV X B) q fun p s1 v H1 R1 x1 r1 q2 => ?_⟩
  cases p with
  | int n =>
    unfold idxV at q2
    dsimp only at q2
    by_cases hall : allInt ps = true
    · rw [if_pos hall] at q2
      cases hj : idxI n ps with
      | none => rw [hj] at q2; exact (show False from q2).elim
      | some j =>
        rw [hj] at q2
        obtain ⟨ns, rfl, rfl⟩ := ints_rep rl hall
        obtain ⟨h1, h2⟩ := idxI_of hj
        have r1' := rep_int.mp r1
        subst r1'
        exact ⟨n, ns, rfl, rfl, x1.frz _ _ _ hH, h1, by rw [h2]; exact q2 _ H1 R1 (Ext.refl _) (rep_int.mpr rfl)⟩
    · rw [if_neg hall] at q2; exact (show False from q2).elim
  | _ => exact (show False from q2).elim
end
end VL
set_option Elab.async false
set_option linter.all false
set_option maxRecDepth 100000
set_option maxHeartbeats 2000000
/-! VL43: lambdas with parameters that capture nothing: made; called by a name. -/
namespace VL
set_option autoImplicit false
open PySem PySem.Spec PyProof.Rows L2
theorem cloFrom_nil {cells : List (Str × Addr)} : ∀ {names : List (Str × NameKind)}, (∀ y ∈ names, y.2 ≠ .free) → cloFrom cells names [] = [] := by
  intro names h
  cases e : cloFrom cells names [] with
  | nil => rfl
  | cons p r =>
    have hm : p ∈ cloFrom cells names [] := by rw [e]; exact List.mem_cons_self
    rcases cloFrom_mem hm with z | ⟨h1, _⟩
    · cases z
    · exact absurd rfl (h _ h1)
/-- a lambda with parameters -/
def dFnP (N : Nat) (db : M PV) : Fn := dFn false N (dRet db)
theorem fnv_lam {P : Program} {w : World} {K : PySem.W.Frag} {mg : Str → Option Value} {base : Heap} {k : Nat} {f c' : Addr} {qual : Str} {params : Arguments} {body : Expr} {scope : Scope} {pm ctv : Value} {o : Obj} {cl : List (Str × Addr)} {N ps : List Str} {C : CloT} {T : List (Addr × Str)} {db : M PV}
    (S : FnScope N ps scope) (hcl : cl = []) (ho : o = PySem.W.kla_obj "<lambda>" qual params body scope cl pm c' ctv)
    (hbody : ∀ (A : Around) (outer : List Env) (s : Shared) (H : Hp) (E : XK) (B : Bs), B.C = C → B.T = T → VX (cxOf (CX P w) P w K mg base N qual scope f (.ref c') A outer s H E) k (fun cls d _ H' => E cls d H') →
      PX (cxOf (CX P w) P w K mg base N qual scope f (.ref c') A outer s H E) (fun cls d _ H' => E cls d H') B body db) :
    FnV P w K mg base (CX P w) (k + 1) f (PySem.W.kla_fn "<lambda>" qual params body scope cl pm (.ref c') ctv) ps (fun vs H Q E => (∃ w', H f = some (.frz o w') ∧ H c' = some (LamX.CodeO c' qual)) ∧ spV mg K C T false ps.length (dFnP N.length db) vs H Q E) := by
  subst hcl ho
  refine ⟨fun vs H Q E h => h.2.1, fun A outer s H args us vs Q E hr hgd e0 hb r hsp => ?_⟩
  obtain ⟨⟨w', hf, hc⟩, hl, ht, q, ars, pt, ha, he⟩ := hsp
  have KX : K.In s.heap := e0.mod.kin.keeps fun b o e => (e0.bs b o e).1
  have lim : s.heap.NoLimit := e0.mod.nolimit.keeps fun b o e => (e0.bs b o e).1
  have of1 : s.heap.get? f = some (PySem.W.kla_obj "<lambda>" qual params body scope [] pm c' ctv) := (e0.hok f _ hf).1
  obtain ⟨⟨oc, vs', t, hoc, hdc, hvc⟩, _, _⟩ := e0.hok c' _ hc
  have hkind : ∀ y ∈ ps.zip us, scope.names.lookup y.1 = some .local ∨ (scope.names.lookup y.1 = some .cell ∧ ((cellsFrom (s.heap.objs.size + 1) scope.names []).lookup y.1).isSome = true) := fun ⟨n, v⟩ hy => by
    rcases S.par n (List.of_mem_zip hy).1 with q | q
    · exact .inl q
    · exact .inr ⟨q, PySem.W.cellsFrom_some _ _ _ (.inl q)⟩
  have hpl : ps.length ≤ N.length := by have := congrArg List.length S.pre; rw [List.length_take] at this; omega
  refine PySem.W.kla_callFunE hr.depth of1 rfl S.co S.gen rfl ⟨c', oc, vs', t, rfl, hoc, hdc, hvc⟩ (hb _ _ _ _ ?_)
  refine wpAny_newFunctionEnv_cells S.kind hkind fun env henv s1 x => ?_
  subst henv
  refine ⟨lim.keeps x.toInCall.keep, PySem.W.kla_codeExpr ?_⟩
  generalize hX : cxOf (CX P w) P w K mg base N qual scope f (.ref c') A outer s H E = X
  have I : Inv X [] (L2.start N vs) H s1 := by rw [← hX]; exact inv_start S hr.hd e0 hl r x
  have vx : VX X k (fun cls d _ H' => E cls d H') := by
    subst hX
    exact ⟨hr.deeper _, hgd, rfl, takes_of rfl rfl rfl rfl⟩
  have hbd := hbody A outer s H E ⟨H, pt, C, T⟩ rfl rfl (by rw [hX]; exact vx)
  rw [hX] at hbd
  have hK : X.K = K := by subst hX; rfl
  have hm : X.mg = mg := by subst hX; rfl
  have rd := fn_read (X := X) (N := N) (db := dRet db) (Q := Q) (E := E) (by rw [hK]; exact ha) ht (by omega) (by rw [hK, hm]; exact he)
  obtain ⟨sp, R, rd⟩ := rd
  have wp := hbd.run [] s1 (L2.start N vs) H Q I ⟨sp, R, endR.bind (rep' := rV X ⟨H, pt, C, T⟩) rd fun p s1 v H1 R1 x1 r1 q => q v (L2.start N vs) H1 R1 (Ext.refl _) r1⟩
  subst hX
  refine wpAny_mono wp (fun v s' hs => ?_) fun e s' hs => hs
  obtain ⟨w, H', J, rv, q⟩ := hs
  exact ⟨w, H', J.os, J.bare, J.base, J.hok, rv, q⟩
/-- a lambda with parameters that may be called by a name -/
def LamAt (X : Cx) (j m : Nat) (C : CloT) (T : List (Addr × Str)) (p : Nat × Fn) : Prop := ∀ (f c : Addr) (o : Obj) (q : Str), C.clo p.1 o c q → ∃ k ps fd cls sl, k ≤ j ∧ ps.length = m ∧ Binds X.K fd ps [] ∧ o = ⟨cls, none, .func fd, sl⟩ ∧
  FnV X.prog X.w X.K X.mg X.base (CX X.prog X.w) k f fd ps (fun vs H Q E => (∃ w', H f = some (.frz o w') ∧ H c = some (LamX.CodeO c q)) ∧ spV X.mg X.K C T false ps.length p.2 vs H Q E)
theorem lamAt_of {X : Cx} {L : List (Arguments × Expr × Scope)} {n j m k : Nat} {C : CloT} {T : List (Addr × Str)} {params : Arguments} {body : Expr} {scope : Scope} {N ps : List Str} {db : M PV} (hC : C = cloC X L) (hL : L[n]? = some (params, body, scope)) (S : FnScope N ps scope) (hj : k + 1 ≤ j) (hm : ps.length = m)
    (hbind : ∀ (q : Str) (cl : List (Str × Addr)) (pm cv ctv : Value) (us : List Value), us.length = ps.length → bindArgs (PySem.W.kla_fn "<lambda>" q params body scope cl pm cv ctv) ⟨us, []⟩ = pure (ps.zip us))
    (hbody : ∀ (f c' : Addr) (A : Around) (outer : List Env) (s : Shared) (H : Hp) (E : XK) (B : Bs), B.C = C → B.T = T → VX (cxOf (CX X.prog X.w) X.prog X.w X.K X.mg X.base N (X.env.qual ++ "<lambda>") scope f (.ref c') A outer s H E) k (fun cls d _ H' => E cls d H') →
      PX (cxOf (CX X.prog X.w) X.prog X.w X.K X.mg X.base N (X.env.qual ++ "<lambda>") scope f (.ref c') A outer s H E) (fun cls d _ H' => E cls d H') B body db) : LamAt X j m C T (n, dFnP N.length db) := by
  intro f c o q hq
  have hq' := hq
  rw [hC] at hq'
  obtain ⟨params', body', scope', pm, ctv, hL', rfl, ho⟩ := hq'
  rw [hL] at hL'
  cases hL'
  have hcl : cloFrom X.env.cells scope.names [] = [] := cloFrom_nil S.nofree
  refine ⟨k + 1, ps, _, _, _, hj, hm, .all fun us hl => hbind _ _ _ _ _ us hl, ho, ?_⟩
  exact fnv_lam S hcl ho fun A outer s H E B h1 h2 v => hbody f c A outer s H E B h1 h2 v
def lookL (y : Nat) : List (Nat × Fn) → Option Fn
  | [] => none
  | p :: ps => if p.1 = y then some p.2 else lookL y ps
theorem lookL_mem {y : Nat} {F : Fn} : ∀ {fs : List (Nat × Fn)}, lookL y fs = some F → (y, F) ∈ fs
  | p :: ps, h => by
    unfold lookL at h
    split at h
    · rename_i e
      cases h
      subst e
      exact List.mem_cons_self
    · exact List.mem_cons_of_mem _ (lookL_mem h)
def dCallL (i n : Nat) (fs : List (Str × Fn)) (ls : List (Nat × Fn)) (da : M (List PV)) : M LV := fun s => match s[i]? with
  | some (some (.sh (.fn y))) => (match lookF y fs with
    | some F => dCall n F da s
    | none => .bad)
  | some (some (.sh (.clo y))) => (match lookL y ls with
    | some F => dCall n F da s
    | none => .bad)
  | _ => .bad
section
variable {X : Cx} {W : WX} {B : Bs} {k j : Nat} {pos : Pos}
theorem px_lamP {n : Nat} {L : List (Arguments × Expr × Scope)} {params : Arguments} {body : Expr} {scope : Scope} (hC : B.C = cloC X L) (hL : L[n]? = some (params, body, scope)) (LT : LamT X B.T) (hfree : ∀ y ∈ scope.names, y.2 ≠ .free) (hdef : defaultsOf params X.env = ([], []) := by rfl) :
    PX X W B (.Lambda params body scope pos) (dLam n) := by
  refine ⟨fun pins s σ H Q I h => ?_⟩
  obtain ⟨sp, R, h⟩ := h
  obtain ⟨c0, P, TB, hcode, hm, hu⟩ := LT.ex
  obtain ⟨ps, hP, ht, ha⟩ := R.tb _ hm
  refine PySem.W.kla_eval hdef ?_
  have bP : s.heap.BuiltinsAt X.mg P := TB.bm.keeps I.bk
  have hP' : s.heap.get? P = some { cls := .none, data := .fields ps } := I.hok P _ hP
  have hfree : ∀ y ∈ scope.names, y.2 = .free → ∃ c, X.env.cells.lookup y.1 = some c := fun y hy e => absurd e (hfree y hy)
  cases hc : codeAmong pos ps.toList with
  | none =>
    refine PySem.W.kla_makeFunction (mg := X.mg) (c := c0) (P := P) (ps := ps) (closure_ok hfree) I.ok.glob (I.mod.glob.keeps I.bk) hcode (TB.code.keeps I.bk) hP' ht hc TB.gP bP fun c' ctv h' tk hx hge hlt hrec htb => ?_
    obtain ⟨c2, oc, vs, t, e2, hoc, hd, hv⟩ := hrec
    cases e2
    have nC : H c' = none := I.hok.fresh hge
    have I1 := LamX.inv_table (t' := tk) (more := #[rawInt pos.line, rawInt pos.col, .ref c']) (h' := h') I hP hx htb hge ⟨oc, vs, t, hoc, hd, hv⟩
    obtain ⟨T1, kp⟩ := tabs_grown (pos := pos) R.tb hu hP ht ha nC
    exact lam_laid I1 R kp T1 upd_same (by rw [hC]; exact ⟨params, body, scope, _, ctv, hL, rfl, rfl⟩) rfl h
  | some cv =>
    obtain ⟨c', e, hco⟩ := ha pos cv hc
    subst e
    refine PySem.W.kla_makeFunctionHit (mg := X.mg) (c := c0) (P := P) (ps := ps) (closure_ok hfree) I.ok.glob (I.mod.glob.keeps I.bk) hcode (TB.code.keeps I.bk) hP' ht hc bP fun ctv h' tk hx hsz => ?_
    have I1 : Inv X pins σ H { s with heap := h', toks := tk } := I.kept hx
    exact lam_laid I1 R (Kp.of fun _ _ e => e) R.tb hco (by rw [hC]; exact ⟨params, body, scope, _, ctv, hL, rfl, rfl⟩) rfl h
theorem pxl_callL {i n : Nat} {fs : List (Str × Fn)} {ls : List (Nat × Fn)} {x : Str} {e : Expr} {es : List Expr} {da : M (List PV)} {p : Pos} (hN : X.N[i]? = some x) (hv : Vis X.env.scope x) (hmc : B.C.mg = X.mg) (v : VX X j W) (hfs : ∀ q ∈ fs, FnAt X j n B.C B.T q) (hls : ∀ q ∈ ls, LamAt X j n B.C B.T q) (ha : PXA X W B (e :: es) da)
    (he : starEach (e :: es) X.env = (false, eval e X.env) :: starEach es X.env := by rfl) (hpl : (backTo pos (starEach es X.env)).any (·.1) = false := by rfl)
    (hd : (x == ("__debug__" : Str)) = false := by decide) (hcd : (x == ("__classdict__" : Str)) = false := by decide) : PXL X W B (.Call (.Name x p) (e :: es) [] pos) (dCallL i n fs ls da) := by
  refine ⟨fun pins s σ H Q I h => ?_⟩
  obtain ⟨sp, R, h⟩ := h
  unfold dCallL at h
  split at h
  case h_3 => exact (show False from h).elim
  case h_1 y ey =>
    refine (pxl_callN (i := i) (n := n) (fs := fs) hN hv hmc v hfs ha he hpl hd hcd).run pins s σ H Q I ⟨sp, R, ?_⟩
    unfold dCallN
    rw [ey]
    exact h
  case h_2 y ey =>
    cases el : lookL y ls with
    | none => rw [el] at h; exact (show False from h).elim
    | some F =>
      rw [el] at h
      dsimp only at h
      obtain ⟨v', ev, rv⟩ := R.at_ i _ ey
      have rv' : Rep X.K B.C H (.clo y) v' := rv
      simp only [Rep] at rv'
      obtain ⟨f, o, u, c', q, rfl, hf, hc, hco⟩ := rv'
      obtain ⟨k, ps, fd, cls, sl, hj, hn, hb, ho, Fn⟩ := hls _ (lookL_mem el) f c' o q hc
      refine wpAny_Call_Name_kw (thn ((pe_var (pos := p) hN hv hd hcd).run pins s σ H (fun v' H' => v' = .ref f ∧ H' = H) I ⟨.ref f, ev, rfl, rfl⟩) fun u1 s1 ⟨v', H', I1, r0, e1, e2⟩ => ?_)
      subst e1 e2
      obtain rfl : u1 = Value.ref f := r0
      have fa : ∀ {H2 : Hp} {s2 : Shared}, Inv X pins σ H2 s2 → H2 f = some (.frz o u) → PySem.W.FnAt f s2.heap := fun I2 h2 => ⟨_, _, _, _, by rw [(I2.hok f _ h2).1, ho]⟩
      refine PySem.W.callWith_F (fa I1 hf) (thn (ha.run pos pins s1 σ H' (fun vs H' => H' f = some (.frz o u) ∧ (fun vs H Q E => (∃ w', H f = some (.frz o w') ∧ H c' = some (LamX.CodeO c' q)) ∧ spV X.mg X.K B.C B.T false ps.length F vs H Q E) vs H' Q fun cls d H' => ∀ σ, W cls d σ H') I1 ⟨sp, R, tRa.bind (rep' := fun s σ H => rL1 X B s σ H) h fun qs s1 vs H1 R1 x1 r1 q => ?_⟩)
        fun us s1 ⟨vs, H1, I1, r, q1, q2⟩ => ⟨fa I1 q1, run_fnV Fn v hj hb I1 r q2⟩) he hpl
      dsimp only at q
      have k1 := x1.frz _ _ _ hf
      refine ⟨k1, ⟨u, k1, x1.cod _ _ _ hco⟩, ?_⟩
      by_cases hl : (qs.length == n) = true
      · rw [if_pos hl] at q
        refine ⟨by rw [r1.length, hn]; exact eq_of_beq hl, R1.tb, [], qs, none, ⟨rfl, rfl, r1⟩, ?_⟩
        cases ef : F [] qs with
        | bad => rw [ef] at q; exact (show False from q).elim
        | exc c p =>
          rw [ef] at q
          exact exc_up R1 (fun a o z => nomatch z) q
        | ok y =>
          obtain ⟨l, q'⟩ := y
          rw [ef] at q
          intro w H' kb kt _ g
          exact q w H' (R1.growN kb kt) kb.ext0 (give_l1 R1 g fun i p e => ⟨p, e⟩)
      · rw [if_neg hl] at q
        exact (show False from q).elim
end
@[simp] theorem e_CallL {i n : Nat} {fs : List (Str × Fn)} {ls : List (Nat × Fn)} {da : M (List PV)} {s : PSt} : dCallL i n fs ls da s = (match s[i]? with
  | some (some (.sh (.fn y))) => (match lookF y fs with
    | some F => dCall n F da s
    | none => .bad)
  | some (some (.sh (.clo y))) => (match lookL y ls with
    | some F => dCall n F da s
    | none => .bad)
  | _ => .bad) := (rfl)
end VL
/-! VL44: tuple(range(n)); sorted of a list of one datum (an empty tuple, too). -/
namespace VL
set_option autoImplicit false
open PySem PySem.W PySem.Spec PyProof.Rows L2
section
variable {X : Cx} {C : CloT} {W : WX} {B : Bs} {pos : Pos} {a : Expr} {da : M PV}
def dTupRange (d : M PV) : M PV := fun s => (d s).bind fun (p, s) => match p with
  | .int j => if decide (0 ≤ j) && Nat.ble j.toNat 16777216 then .ok (.tup (rangeL 0 j.toNat), s) else .bad
  | _ => .bad
theorem px_tupRange {p p2 pos2 : Pos} (hc : X.calm = true) (hg : Gl X "tuple") (hm : X.mg "tuple" = none) (hg2 : Gl X "range") (hm2 : X.mg "range" = none) (ha : PX X W B a da)
    (hs : starEach [a] X.env = [(false, eval a X.env)] := by rfl) (hs' : starEach [a] X.env = (false, eval a X.env) :: starEach [] X.env := by rfl)
    (hs2 : starEach [.Call (.Name "range" p2) [a] [] pos2] X.env = (false, eval (.Call (.Name "range" p2) [a] [] pos2) X.env) :: starEach [] X.env := by rfl) (hpl : (backTo pos (starEach [] X.env)).any (·.1) = false := by rfl) :
    PX X W B (.Call (.Name "tuple" p) [.Call (.Name "range" p2) [a] [] pos2] [] pos) (dTupRange da) := by
  refine ⟨fun pins s σ H Q I h => ?_⟩
  obtain ⟨sp, R, h⟩ := h
  refine wpAny_Call_Name_kw (ld_blt (u := .type "tuple") I hg hm (by decide +kernel) ?_ (by decide) (by decide))
  have inner : wpAny (model X.prog X.w) X.A (eval (.Call (.Name "range" p2) [a] [] pos2) X.env) (fun u s1 => ∃ (j : Int) (t1 t2 t3 : Tok) (s0 : Shared) (H1 : Hp) (s2 : PSt) (tk : Nat), 0 ≤ j ∧ j.toNat ≤ 16777216 ∧ u = .ref s0.heap.objs.size ∧ Inv X pins σ H1 s0 ∧
      s1 = { s0 with heap := s0.heap.push { cls := .type "range", data := .fields #[.int 0 t1, .int j t2, .int 1 t3] }, toks := tk } ∧ RelSt X.K B s2 σ H1 ∧ tRa X W B (rV X B) (.ok (.tup (rangeL 0 j.toNat), s2)) σ H1 Q) X.xe s := by
    refine Call_ (ld_blt I hg2 hm2 PyProof.Rows.boot_range (PyProof.Rows.callWith_type1 (thn ((pa_cons ha pa_nil hs').run pos2 pins s σ H (fun vs H1 => ∃ j s1, vs = [.int j] ∧ 0 ≤ j ∧ j.toNat ≤ 16777216 ∧ RelSt X.K B s1 σ H1 ∧ tRa X W B (rV X B) (.ok (.tup (rangeL 0 j.toNat), s1)) σ H1 Q) I
      ⟨sp, R, tRa.bind (rep' := rV X B) h fun p s1 v H1 R1 x1 r1 q => ?_⟩) fun us s1 ⟨vs, H1, I1, r1, j, s2, ev, h0, h1, R1, q⟩ => ?_) hs rfl))
    · cases p with
      | int j =>
        dsimp only at q
        split at q
        case isFalse => exact (show False from q).elim
        rename_i hf
        simp only [Bool.and_eq_true, decide_eq_true_eq] at hf
        cases rep_int.mp r1
        exact ⟨j, s1, rfl, hf.1, Nat.le_of_ble_eq_true hf.2, R1, q⟩
      | _ => exact (show False from q).elim
    · subst ev
      obtain ⟨u, eu, ru⟩ := vals1 r1
      subst eu
      obtain ⟨t, rfl⟩ := ru
      refine call_range_1 ?_
      exact ⟨j, _, t, _, s1, H1, s2, _, h0, h1, rfl, I1, rfl, R1, q⟩
  refine PyProof.Rows.callWith_type1 (Calls.spliced_cons (thn inner fun u s1 ⟨j, t1, t2, t3, s0, H1, s2, tk, h0, h1, eu, I1, es, R1, q⟩ => Calls.spliced_nil ?_)) hs2 hpl
  subst eu es
  have hsz : Builtin.Range.rangeSize 0 j 1 = (j.toNat : Nat) := by rw [rangeSize_one]; split <;> omega
  refine call_tuple_range (a := 0) (b := j) (c := 1) (n := j.toNat) (I1.ok.hd hc) (IsRange.new ..) (small_one (by decide) (by decide) (by omega) (by omega)) hsz (by omega) fun h' tk' acc' kp hacc => ?_
  obtain ⟨xs, rv, rr⟩ := range_vals j.toNat 0 acc'.toList (by rw [Array.length_toList]; exact hacc.1) fun i v hv => by
    obtain ⟨t, e⟩ := hacc.2 i v (by rw [← Array.getElem?_toList]; exact hv)
    exact ⟨t, by rw [e]; congr 1; omega⟩
  have hr : (rangeL 0 j.toNat) = (List.range' 0 j.toNat).map fun i => PV.int (i : Nat) := by
    unfold rangeL
    rw [List.range_eq_range']
    congr 1
    funext i
    simp
  rw [hr] at q
  have kp2 : ∀ b o, s0.heap.get? b = some o → h'.get? b = some o := fun b o e => kp b o (Heap.get?_push_of_some _ e)
  have I1' : Inv X pins σ H1 { s0 with heap := h', toks := tk' } := I1.kept kp2
  have hz : xs.length ≤ sizeLine := by
    have e1 : xs.length = acc'.toList.length := rv.length
    have e2 : acc'.size = j.toNat := hacc.1
    have e3 : acc'.toList.length = acc'.size := Array.length_toList
    rw [e1, e3, e2, sizeLine_eq]
    omega
  have hn : H1 h'.objs.size = none := I1'.hok.fresh (Nat.le_refl _)
  have I2 : Inv X pins σ (upd H1 h'.objs.size (.tup xs)) { s0 with heap := h'.push { cls := .type "tuple", data := .seq acc' }, toks := tk' } :=
    I1'.laid (t' := tk') (fun b o e => Heap.get?_push_of_some _ e) (Nat.le_refl _) (show ObjOk X.prog X.w _ _ _ (.tup xs) from ⟨hz, acc'.toList, rv, by rw [Array.toArray_toList]; exact IsTup.new _ _⟩)
  exact ⟨.ref h'.objs.size, _, I2, rfl, q _ _ (R1.grow (Ext.new hn) (Grow.new hn)) (Ext.new hn) (rep_tup.mpr ⟨_, xs, rfl, upd_same, rr⟩)⟩
/-! sorted of one -/
theorem sorts_one {prog : Program} {w : World} {A : Around} {s : Shared} {v : Value} {d : PyData} {as : List Addr} (r : Reads s.heap v d as) (hn : d ≠ .none) (hu : A.units + d.depth < cLine) (hal : PySem.W.alike d d = true) : PySem.W.SortsAt prog w A s (PySem.W.dataKind s.heap [d]) [v] := by
  have hal' : PySem.W.AllAlike [d] := fun x hx y hy => by
    rw [List.mem_singleton] at hx hy
    rw [hx, hy]; exact hal
  refine ⟨fun v' hv => ?_, general', ?_, fun h2 => absurd h2 (by simp)⟩
  · rw [List.mem_singleton] at hv
    subst hv
    exact ⟨_, PySem.W.dataKind_some hal' (List.mem_singleton.mpr rfl) r⟩
  · intro E x y a b Q ha hb hq
    obtain ⟨d1, as, hd, ra, rfl⟩ := PySem.W.dataKind_inv ha
    obtain ⟨d2, as', hd', rb, rfl⟩ := PySem.W.dataKind_inv hb
    rw [List.mem_singleton] at hd hd'
    rw [hd'] at rb hq
    rw [hd] at ra hq
    show wpAny _ _ (oneLt' false x y) _ _ _
    exact PySem.W.oneLt_alike (fun z => nomatch z) ra rb hal hn (by rw [Nat.min_self]; exact hu) hq
/-- sorted, also of a list of one datum that isn't None -/
def sortedX (p : PV) : Res (List PV) := match p with
  | .lst [q] => if okD q && (PySem.W.alike q.toD q.toD && !eqB q .non) then .ok [q] else .bad
  | .lst _ => sortedV p
  | _ => .bad
theorem c1_sortedX (hu : X.A.units + 64 < cLine) : Call1F X C (.builtin "sorted") sortedX := by
  intro p r e pins s σ H xs us Q I rv hh
  cases p with
  | lst ps =>
    by_cases h1 : ∃ q, ps = [q]
    · obtain ⟨q, rfl⟩ := h1
      obtain ⟨x, ex, n, k⟩ := hh
      unfold sortedX at e
      dsimp only at e
      split at e
      case isFalse => cases e
      rename_i hf
      cases e
      simp only [Bool.and_eq_true] at hf
      obtain ⟨h1, h2, h3⟩ := hf
      subst ex
      obtain ⟨a, ys, rfl, sq, rl⟩ := n
      obtain ⟨its, rv2, pl, hz⟩ := I.list sq
      obtain ⟨u, rfl, r1⟩ := vals1 rv
      cases r1
      have dd := okD_d h1
      have hl2 : isDataL [q] = true := by simp only [isDataL, Bool.and_eq_true]; exact ⟨dd.1, trivial⟩
      have er := each_reads I rl rv2 hl2
      have eo := each_of rl rv2
      have lz : ([q] : List PV).length ≤ sizeLine := by rw [sizeLine_eq]; simp
      have er' : PySem.W.EachIs (fun v p => ∃ as, Reads (sortingHeap (copyHeap s.heap its) (s.heap.objs.size + 1) its) v p.toD as) its [q] := er.mono fun _ _ ⟨as, r⟩ => ⟨as, PyProof.Rows.Reads.keeps (fun _ _ => sorting_copy_old) r⟩
      obtain ⟨v, rfl⟩ : ∃ v, its = [v] := by
        have e1 := er.length
        match its, e1 with
        | [v], _ => exact ⟨v, rfl⟩
      obtain ⟨as, ra⟩ : ∃ as, Reads (sortingHeap (copyHeap s.heap [v]) (s.heap.objs.size + 1) [v]) v q.toD as := by
        cases er' with
        | cons h t => exact h
      have hne : q.toD ≠ .none := by
        intro z
        cases q <;> simp_all [PV.toD, eqB, PyData.eqv, PV.isData]
      have hS := sorts_one (prog := X.prog) (w := X.w) (A := X.A.in1.in1) (s := { s with heap := sortingHeap (copyHeap s.heap [v]) (s.heap.objs.size + 1) [v] }) ra hne (by
        have := dd.2
        show X.A.units + 1 + 1 + _ < _
        omega) h2
      refine PySem.W.sorted_vals pl.isList hS (by rw [sizeLine_eq]; simp) ?_
      have hal : PySem.W.AllAlike (([q] : List PV).map PV.toD) := fun x hx y hy => by
        rw [List.map_singleton, List.mem_singleton] at hx hy
        rw [hx, hy]; exact h2
      have he := PySem.W.sortVals_data false eo er' hal
      rw [leB_eq] at he
      have he' : PySem.W.EachIs (fun v p => ∃ y, RelV y v ∧ Rep X.K C H p y) (sortVals (PySem.W.dataKind (sortingHeap (copyHeap s.heap [v]) (s.heap.objs.size + 1) [v]) (([q] : List PV).map PV.toD)) false [v] [v]) [q] := by
        have e2 : ([q] : List PV).mergeSort leB = [q] := List.mergeSort_singleton q
        rw [e2] at he
        exact he
      obtain ⟨zs, v2, r2⟩ := of_each he'
      obtain ⟨ep, hat⟩ := sortedAll_at s.heap [v] (sortVals (PySem.W.dataKind (sortingHeap (copyHeap s.heap [v]) (s.heap.objs.size + 1) [v]) (([q] : List PV).map PV.toD)) false [v] [v]).toArray
      have hn : H (s.heap.objs.size + 1) = none := I.hok.fresh (Nat.le_add_right _ _)
      have hzl : zs.length ≤ sizeLine := by rw [r2.length]; exact lz
      have J : Inv X pins σ (upd H (s.heap.objs.size + 1) (.lst zs)) { s with heap := sortedAll s.heap [v] (sortVals (PySem.W.dataKind (sortingHeap (copyHeap s.heap [v]) (s.heap.objs.size + 1) [v]) (([q] : List PV).map PV.toD)) false [v] [v]).toArray } :=
        I.laid (t' := s.toks) (fun b o q => sortedAll_old q) (Nat.le_add_right _ _) ⟨hzl, _, ep, v2, by simpa using hat⟩
      exact ⟨.ref _, _, J, rfl, k _ zs _ hn (Ext.new hn) (Grow.new hn) upd_same (RepL.ext (Ext.new hn) _ _ r2)⟩
    · have e' : (match PV.lst ps with | .lst _ => sortedV (.lst ps) | _ => .bad) = .ok r := by
        rw [← e]
        unfold sortedX
        cases ps with
        | nil => rfl
        | cons q qs =>
          cases qs with
          | nil => exact absurd ⟨q, rfl⟩ h1
          | cons _ _ => rfl
      exact c1_sorted hu (.lst ps) r e' pins s σ H xs us Q I rv hh
  | _ => cases e
theorem n1_sortedX : NoEx1 sortedX := fun p c v => by
  unfold sortedX
  split
  · split <;> simp only [ne_eq, reduceCtorEq, not_false_eq_true]
  · exact ne_bind fun a => by split <;> simp only [ne_eq, reduceCtorEq, not_false_eq_true]
  · simp only [ne_eq, reduceCtorEq, not_false_eq_true]
end
end VL
/-! VL45: [..] * n (a new list); sorted(set(t)) of a tuple of whole numbers. -/
namespace VL
set_option autoImplicit false
open PySem PySem.Spec PyProof.Rows L2
section
variable {X : Cx} {C : CloT} {W : WX} {B : Bs} {pos : Pos}
/-- [..] * n, n a name -/
def dMulL (a : M (List PV)) (i : Nat) : M PV := fun s => (a s).bind fun (ps, s) => match s[i]? with
  | some (some (.sh (.int j))) => if times j && (Nat.ble ps.length 1000) then .ok (.lst (List.replicate j.toNat ps).flatten, s) else .bad
  | _ => .bad
@[simp] theorem e_MulL (a : M (List PV)) (i : Nat) (s : PSt) : dMulL a i s = (a s).bind fun (x : List PV × PSt) => (match x.2[i]? with
  | some (some (.sh (.int j))) => if times j && (Nat.ble x.1.length 1000) then .ok (.lst (List.replicate j.toNat x.1).flatten, x.2) else .bad
  | _ => .bad) := (rfl)
theorem rep_mul {K : PySem.W.Frag} {H : Hp} {ps : List PV} {xs : List V} (r : RepL K C H ps xs) (k : Nat) : RepL K C H (List.replicate k ps).flatten (List.replicate k xs).flatten := r.rep k
theorem pf_mulL {es : List Expr} {da : M (List PV)} {i : Nat} {x : Str} {p2 p3 : Pos} (ha : PXA X W B es da) (hN : X.N[i]? = some x) (hv : Vis X.env.scope x) (hd : (x == ("__debug__" : Str)) = false := by decide) (hcd : (x == ("__classdict__" : Str)) = false := by decide) :
    PF X W B (.BinOp (.List es p2) .Mult (.Name x p3) pos) (dMulL da i) := by
  refine PE.weak (pe_op op_rep (pe_lst ha) (pe_var (pos := p3) hN hv hd hcd)) fun σ H Q ⟨s, R, q⟩ => ⟨s, R, tRa.bind (rep' := rF X B) q fun ps s1 vs H1 R1 x1 r1 q => ?_⟩
  dsimp only at q
  split at q
  case h_2 => exact (show False from q).elim
  rename_i j ej
  split at q
  case isFalse => exact (show False from q).elim
  rename_i hf
  rw [Bool.and_eq_true] at hf
  have h3 := times_le hf.1
  have h4 := Nat.le_of_ble_eq_true hf.2
  obtain ⟨v, ev, rv⟩ := R1.at_ i _ ej
  cases rep_int.mp (show Rep X.K B.C H1 (.int j) v from rv)
  have hlen := r1.length
  refine ⟨by rw [hlen, sizeLine_eq]; omega, fun p hp => ⟨.int j, ev, p, j, vs, rfl, rfl, upd_same, by omega, by omega, ?_, fun b hb => ?_⟩⟩
  · rw [hlen, sizeLine_eq]
    have : ps.length * j.toNat ≤ 1000 * 1000 := Nat.mul_le_mul h4 (by omega)
    omega
  · have hbp : b ≠ p := fun z => by subst z; rw [upd_same] at hb; cases hb
    have hb1 : H1 b = none := by rw [upd_ne hbp] at hb; exact hb
    have g1 : Grow H1 (upd H1 p (.lst vs)) := Grow.new hp
    have g2 : Grow H1 (upd (upd H1 p (.lst vs)) b (.lst (List.replicate j.toNat vs).flatten)) := fun z o e => Grow.new hb _ _ (g1 _ _ e)
    exact newF R1 hb1 g2.ext g2 upd_same (RepL.ext g2.ext _ _ (r1.rep _)) q
/-! sorted(set(t)) -/
def sortSetT : PV → Res (List PV)
  | .tup ps => (optR (intsV ps)).bind fun ns => if Nat.ble ns.length 62 then .ok (I (ascU ns)) else .bad
  | _ => .bad
def dSortSetT (d : M PV) : M PV := fun s => (d s).bind fun (p, s) => (sortSetT p).bind fun r => .ok (.lst r, s)
@[simp] theorem e_SortSetT (d : M PV) (s : PSt) : dSortSetT d s = (d s).bind fun (x : PV × PSt) => (sortSetT x.1).bind fun r => .ok (.lst r, x.2) := rfl
def rSetT (K : PySem.W.Frag) (w : World) : List V → Hp → VK → Prop := fun xs H Q => ∃ (l : Addr) (ns : List Int), xs = [V.ref l] ∧ SqT K H l (ns.map V.int) ∧ ns.length + 1 < scanBound ∧
  ∀ (p : Addr) (c : Nat), c ≤ ns.length → H p = none → Q (.ref p) (upd H p (SetO w p (fun j => decide (j ∈ ns)) c))
theorem cr_setT (hc : X.calm = true) : CallR X (.type "set") (rSetT X.K X.w) := by
  intro pins s σ H xs us Q I r h
  obtain ⟨l, ns, rfl, sq, hb, q⟩ := h
  obtain ⟨its, rv, hl, _⟩ := I.tuple sq
  rw [Vals.ref1 r]
  refine call_set_tupI ns (I.ok.hd hc) hl rv.ints hb fun h' tk c R hc' kp => ?_
  have hn : H s.heap.objs.size = none := I.hok.fresh (Nat.le_refl _)
  have J : Inv X pins σ (upd H s.heap.objs.size (SetO X.w s.heap.objs.size (fun j => decide (j ∈ ns)) c)) { s with heap := h', toks := tk } := I.laid (t' := tk) kp (Nat.le_refl _) (setO_new R)
  exact ⟨.ref _, _, J, rfl, q _ c hc' hn⟩
theorem pf_sortSetT {e : Expr} {d : M PV} {p p2 q2 : Pos} (hc : X.calm = true) (hg : Gl X "sorted") (hm : X.mg "sorted" = none) (hg2 : Gl X "set") (hm2 : X.mg "set" = none) (he : PX X W B e d) (na : starEach [e] X.env = (false, eval e X.env) :: starEach [] X.env := by rfl)
    (nb : starEach [.Call (.Name "set" p2) [e] [] q2] X.env = (false, eval (.Call (.Name "set" p2) [e] [] q2) X.env) :: starEach [] X.env := by rfl) (nc : (backTo q2 (starEach [] X.env)).any (·.1) = false := by rfl) (nd : (backTo pos (starEach [] X.env)).any (·.1) = false := by rfl) :
    PF X W B (.Call (.Name "sorted" p) [.Call (.Name "set" p2) [e] [] q2] [] pos) (dSortSetT d) := by
  refine PE.weak (pe_callB (p := p) (pos := pos) (cr_sortedSet hc) hg hm (by decide +kernel) (pa_cons (pe_callTy (p := p2) (pos := q2) (cr_setT hc) hg2 hm2 (by decide +kernel) (pa_cons he pa_nil na) (he := na) (hpl := nc)) pa_nil nb) (he := nb) (hpl := nd)) fun σ H Q ⟨s, R, q⟩ => ⟨s, R, tRa.bind (rep' := rF X B) q fun v0 s1 v H1 R1 x1 r1 q1 => ?_⟩
  cases v0 with
  | tup ps =>
    obtain ⟨a, xs, rfl, fz, rl⟩ := rep_tupS r1
    unfold sortSetT at q1
    dsimp only at q1
    cases en : intsV ps with
    | none => rw [en] at q1; exact (show False from q1).elim
    | some ns =>
      rw [en] at q1
      simp only [optR_some, Res.bind_ok] at q1
      by_cases hb : Nat.ble ns.length 62 = true
      · rw [if_pos hb] at q1
        have hb' := Nat.le_of_ble_eq_true hb
        have ey := intsV_rep en rl
        subst ey
        refine ⟨a, ns, rfl, fz, by unfold scanBound; omega, fun p c hc' hp => ⟨p, _, c, rfl, upd_same, by omega, fun out b h1 h2 h3 hb2 => ?_⟩⟩
        have hbp : b ≠ p := fun z => by subst z; rw [upd_same] at hb2; cases hb2
        have hb1 : H1 b = none := by rw [upd_ne hbp] at hb2; exact hb2
        have eo : out = ascU ns := asc_one _ _ h1 (ascU_asc ns) fun k => by rw [h2, mem_ascU]; simp
        rw [eo]
        have g1 : Grow H1 (upd H1 p (SetO X.w p (fun j => decide (j ∈ ns)) c)) := Grow.new hp
        have g2 : Grow H1 (upd (upd H1 p (SetO X.w p (fun j => decide (j ∈ ns)) c)) b (.lst ((ascU ns).map V.int))) := fun z o e => Grow.new hb2 _ _ (g1 _ _ e)
        exact newF R1 hb1 g2.ext g2 upd_same (repL_I _) q1
      · rw [if_neg hb] at q1
        exact (show False from q1).elim
  | _ => exact (show False from q1).elim
end
end VL
/-! VL46: dicts whose keys are tuples: items(), in, not in, get, min of the values. -/
namespace VL
set_option autoImplicit false
open PySem PySem.W PySem.Spec PyProof.Rows L2
section
variable {X : Cx} {pins : List (Addr × Obj)} {σ : L2.St} {H : Hp} {s : Shared} {d : Addr} {o : Obj}
/-- a locked dict's entries, by number -/
theorem frzT2 {kvs : List (List L2.Key × V)} (I : Inv X pins σ H s) (h : H d = some (.frz o (.dT kvs))) :
    (d == sysModules) = false ∧ s.heap.get? d = some o ∧ o.ExactDict ∧ ∃ (es : Array DictEntry) (ep : Nat), o.data = .dict es ep ∧ es.size = kvs.length ∧
      ∀ (i : Nat) (k : List L2.Key) (v : V), kvs[i]? = some (k, v) → ∃ (en : DictEntry) (q : Addr), es[i]? = some en ∧ en.key = .ref q ∧ H q = some (.tup (k.map kV)) ∧ RelV v en.val := by
  obtain ⟨hd, z, hs, xs, pr, o', es, ep, ho, hx, hdt, he, _⟩ := I.hok d _ h
  rw [hd] at ho
  cases ho
  refine ⟨hs, hd, hx, es, ep, hdt, ?_, fun i k v e => ?_⟩
  · have l1 : es.size = xs.length := size_of_entries he
    have l2 : kvs.length = xs.length := Paired.length pr
    omega
  · obtain ⟨b, hb, e1, e2, e3⟩ := paired_get pr e
    have q := entry_at he i
    rw [hb] at q
    exact ⟨_, b.2.1, q, rfl, e2, e3⟩
end
/-- the pairs, each a new tuple -/
def ItiT (d : Addr) (o : Obj) (kvs : List (List L2.Key × V)) : It :=
  ⟨fun i H => H d = some (.frz o (.dT kvs)) ∧ i < kvs.length, fun i H x H' => ∃ T k v q, kvs[i]? = some (k, v) ∧ H q = some (.tup (k.map kV)) ∧ x = .ref T ∧ H T = none ∧ H' = upd H T (.tup [.ref q, v]), fun i H => H d = some (.frz o (.dT kvs)) ∧ kvs.length ≤ i⟩
section
variable {P : Program} {w : World} {K : PySem.W.Frag} {tg : Expr} {d : Addr} {o : Obj} {es : Array DictEntry} {ep : Nat}
theorem turn_itemsT {kvs : List (List L2.Key × V)} {elts : List Expr} {kk : Nat} {tpos : Pos} (it : Addr) (hod : o.data = .dict es ep) :
    Turn P w K (.Tuple elts kk tpos) (ItiT d o kvs) [it] it (fun i h => ∃ ok ov, IsItemIter h it d i kvs.length ep ok ov) where
  mem := by simp
  obj := fun i h st b hb => by
    have e : b = it := by simpa using hb
    subst e
    obtain ⟨ok, ov, e⟩ := st
    exact ⟨_, e, fun v z => nomatch z⟩
  keep := fun i h h' st k => let ⟨ok, ov, e⟩ := st; ⟨ok, ov, k it (by simp) _ e⟩
  item := by
    intro X hP hw hK hc i pins s σ H E I hf st hg
    subst hP hw hK
    obtain ⟨hd, hi⟩ := hg
    obtain ⟨hs, hgd, hx, es', ep', hdt, hsz, ent⟩ := frzT2 I hd
    obtain ⟨rfl, rfl⟩ := dict_ep hod hdt
    obtain ⟨⟨k, v⟩, hkv⟩ : ∃ p, kvs[i]? = some p := ⟨kvs[i], List.getElem?_eq_getElem hi⟩
    obtain ⟨en, q, hen, hkey, hq, hval⟩ := ent i k v hkv
    have hraw : s.heap.DictRaw d es' ep' := ⟨o, hgd, hx, hdt⟩
    have hie : i < es'.size := by omega
    have hge : es'[i] = en := by rw [Array.getElem?_eq_getElem hie] at hen; exact Option.some.inj hen
    obtain ⟨ok, ov, he⟩ := st
    rw [← hsz] at he
    have hlt : it < s.heap.objs.size := Heap.lt_size he
    refine wpAny_pyNext_items_item_raw he hraw hie fun h' ho hT hz hk => ?_
    refine ⟨_, rfl, wpAny_letOwnedTupleGo_items (s := { s with heap := h' }) ho fun h'' he' sb => ?_⟩
    have hT2 : h''.get? s.heap.objs.size = some { cls := .type "tuple", data := .seq #[es'[i].key, es'[i].val] } := (sb.2 _ (Nat.ne_of_gt hlt)).trans hT
    have new : ObjOk X.prog X.w (upd H s.heap.objs.size (.tup [.ref q, v])) h'' s.heap.objs.size (.tup [.ref q, v]) :=
      ⟨by show 2 ≤ sizeLine; decide, [es'[i].key, es'[i].val], .cons (by rw [hge, hkey]; rfl) (.cons (by rw [hge]; exact hval) .nil), ⟨_, hT2, rfl, _, rfl⟩⟩
    have I1 : Inv X pins σ (upd H s.heap.objs.size (.tup [.ref q, v])) { s with heap := h'' } :=
      I.turnedNew (t' := s.toks) (ch := [it]) (fun b ob hb e => (sb.2 b (by simpa using hb)).trans (hk b ob (by simpa using hb) e)) hf (Nat.le_refl _) new
    refine ⟨.ref s.heap.objs.size, _, I1, rfl, ⟨_, k, v, q, hkv, hq, rfl, I.hok.fresh (Nat.le_refl _), rfl⟩, ⟨es'[i].key, es'[i].val, ?_⟩, fun b hb => ?_⟩
    · rw [← hsz]; exact he'
    · have e : b = it := by simpa using hb
      rw [e, upd_ne (Nat.ne_of_lt hlt)]
      exact (hf it (by simp)).1
  done := by
    intro X hP hw hK hc i pins s σ H E I hf st hg
    subst hP hw hK
    obtain ⟨hd, hi⟩ := hg
    obtain ⟨f0, f1, f2, f3, f4, f5⟩ := hf it (by simp)
    obtain ⟨hs, hgd, hx, es', ep', hdt, hsz, ent⟩ := frzT2 I hd
    obtain ⟨rfl, rfl⟩ := dict_ep hod hdt
    have hraw : s.heap.DictRaw d es' ep' := ⟨o, hgd, hx, hdt⟩
    obtain ⟨ok, ov, he⟩ := st
    rw [← hsz] at he
    exact wpAny_pyNext_items_end_raw (I.ok.hd hc) he hraw (by omega) fun h' eb => ⟨rfl, I.turned (t' := s.toks) (fun b ob hb e => eb b ob hb e) f0 f1 f3 f4 f5⟩
  self := fun A i s Q E st h => let ⟨_, _, e⟩ := st; PySem.W.kcp_self e h
end
def iItemsT (td : TE) : TI := fun σ H R => td σ H fun x H1 => ∃ d o kvs, x = .ref d ∧ H1 d = some (.frz o (.dT kvs)) ∧ R (ItiT d o kvs) H1
section
variable {X : Cx} {tg e : Expr} {td : TE} {apos cpos : Pos}
theorem pi_itemsT {elts : List Expr} {kk : Nat} {tpos : Pos} (he : PE X e td) (hbase : attributeBase e "items" X.env (eval e X.env) = eval e X.env := by rfl) (hline : (apos.endLine == cpos.line) = true := by rfl) :
    PI X (.Tuple elts kk tpos) (.Call (.Attribute e "items" apos) [] [] cpos) (iItemsT td) := by
  refine ⟨fun pins s σ H R I h => ?_⟩
  refine wpAny_Call_method (T := "dict") (id := "dict.items") hbase rfl hline F.plainAttrs_dict F.slot_dict_items F.type_dict_items (thn (he.run pins s σ H _ I h) fun u s1 ⟨x, H1, I1, rx, d, o, kvs, ex, hd, q⟩ => ?_)
  subst ex
  obtain rfl : u = Value.ref d := rx
  obtain ⟨hs, hgd, hx, es, ep, hdt, hsz, ent⟩ := frzT2 I1 hd
  have hraw : s1.heap.DictRaw d es ep := ⟨o, hgd, hx, hdt⟩
  refine ⟨hraw.typeIs, fun b e => ?_, ?_⟩
  · cases e
    exact ⟨o, hgd, hx.2.1⟩
  have I2 : Inv X pins σ H1 { s1 with heap := s1.heap.push { cls := .type "dict_items", data := .fields #[.ref d] } } := I1.kept (t' := s1.toks) fun b ob q => Heap.get?_push_of_some _ q
  have fin : wpAny (model X.prog X.w) X.A (pyIter (.ref s1.heap.objs.size)) (PIE X pins σ (.Tuple elts kk tpos) R) X.xe { s1 with heap := s1.heap.push { cls := .type "dict_items", data := .fields #[.ref d] } } := by
    refine wpAny_pyIter_items_raw (d := d) ⟨_, Heap.get?_push_size _ rfl, rfl, rfl⟩ (hraw.at fun o e => Heap.get?_push_of_some _ e) (pi_one (tk := s1.toks) I2 _ (turn_itemsT _ hdt) ⟨.none, .none, ?_⟩ q)
    rw [← hsz]
    exact Heap.get?_push_size _ rfl
  show wpAny _ _ (callWith cpos (.builtin "dict.items") [.ref d] [] []) _ X.xe s1
  exact method_meetsIn F.slot_dict_items F.entry_dict_items rfl (PySem.evalArgs_none ⟨rfl, hraw.typeIs, F.args_dict_items_1 _, _, meets_dict_items_raw d hs, ⟨es, ep, hraw⟩, fin⟩)
end
section
variable {X : Cx} {W : WX} {B : Bs} {pos : Pos} {tg : Expr}
theorem rI_itemsT {s : PSt} {σ : L2.St} {H : Hp} {ks : List (List L2.Key)} {ps : List PV} {xs : List V} {a : Addr} {o : Obj} (f : H a = some (.frz o (.dT (ks.zip xs)))) (l : xs.length = ks.length) (r : RepL X.K B.C H ps xs) : rI X B s σ H (zipL (ks.map keyT) ps) (ItiT a o (ks.zip xs)) := by
  intro i H' x
  have f' := x.frz _ _ _ f
  have ln : (ks.zip xs).length = xs.length := by rw [List.length_zip, l]; exact Nat.min_self _
  have lr := r.length
  refine ⟨fun p hp => ?_, fun e => ⟨f', by rw [e, ln, zipL, List.length_zipWith, List.length_map]; omega⟩⟩
  unfold zipL at hp
  rw [List.getElem?_zipWith, List.getElem?_map] at hp
  cases e1 : ks[i]? with
  | none => rw [e1] at hp; cases hp
  | some k =>
    cases e2 : ps[i]? with
    | none => rw [e1, e2] at hp; cases hp
    | some p2 =>
      rw [e1, e2] at hp
      cases hp
      obtain ⟨v, hv, rv⟩ := r.get e2
      refine ⟨⟨f', by rw [ln]; exact (List.getElem?_eq_some_iff.mp hv).1⟩, fun y H'' ⟨T, k', v', q, hkv, hq, ey, hT, eH⟩ => ?_⟩
      subst ey eH
      have e3 := List.getElem?_zip_eq_some.mp hkv
      rw [e1, hv] at e3
      cases e3.1
      cases e3.2
      refine ⟨Grow.new hT, rep_newT hT (.cons ?_ (.cons (Rep.ext x _ _ rv) .nil))⟩
      show Rep _ _ _ (.tup _) _
      simp only [Rep]
      exact ⟨q, _, rfl, hq, RepL.keys _⟩
def dItemsT (d : M PV) : M (List PV) := fun s => (d s).bind fun (p, s) => match p with
  | .dtt ks ps => .ok (zipL (ks.map keyT) ps, s)
  | _ => .bad
@[simp] theorem e_ItemsT (d : M PV) (s : PSt) : dItemsT d s = (d s).bind fun (x : PV × PSt) => (match x.1 with
  | .dtt ks ps => .ok (zipL (ks.map keyT) ps, x.2)
  | _ => .bad) := (rfl)
theorem pxi_itemsT {e : Expr} {d : M PV} {apos tpos : Pos} {elts : List Expr} {kk : Nat} (h : PX X W B e d) (hbase : attributeBase e "items" X.env (eval e X.env) = eval e X.env := by rfl) (hline : (apos.endLine == pos.line) = true := by rfl) : PXI X W B (.Tuple elts kk tpos) (.Call (.Attribute e "items" apos) [] [] pos) (dItemsT d) := by
  refine PI.weak (pi_itemsT h hbase hline) fun σ H R ⟨s, R0, q⟩ => ⟨s, R0, tRa.bind (rep' := rI X B) q fun p s1 v H1 R1 x1 r1 q => ?_⟩
  cases p with
  | dtt ks ps =>
    simp only [Rep] at r1
    obtain ⟨a, xs, rfl, l1, ⟨o, f⟩, r⟩ := r1
    exact ⟨a, o, _, rfl, f, q _ H1 R1 (Ext.refl H1) (rI_itemsT f (r.length.trans l1.symm) r)⟩
  | _ => exact (show False from q).elim
/-! key in d, key not in d, d[key]: d a name, its dict not shared -/
def valT {α : Type} [DecidableEq α] (k : α) : List α → List PV → Option PV
  | j :: js, p :: ps => if j = k then some p else valT k js ps
  | _, _ => none
theorem valT_rep {C : CloT} {H : Hp} {k : List L2.Key} : ∀ {ks : List (List L2.Key)} {ps : List PV} {xs : List V}, RepL X.K C H ps xs → (∀ p, valT k ks ps = some p → ∃ v, valV (ks.zip xs) k = some v ∧ Rep X.K C H p v) ∧ (valT k ks ps = none → valV (ks.zip xs) k = none)
  | [], ps, xs, r => ⟨fun p h => by simp [valT] at h, fun _ => by simp [valV]⟩
  | j :: js, [], xs, r => by
    have e : xs = [] := List.length_eq_zero_iff.mp r.length
    subst e
    exact ⟨fun p h => by simp [valT] at h, fun _ => by simp [valV]⟩
  | j :: js, p :: ps, xs, r => by
    obtain ⟨x, ys, rfl, r1, r2⟩ := r.head
    have ih := valT_rep (k := k) (ks := js) r2
    by_cases h : j = k
    · subst h
      refine ⟨fun q hq => ⟨x, by simp [valV], ?_⟩, fun hq => by simp [valT] at hq⟩
      simp [valT] at hq
      rw [← hq]; exact r1
    · simp only [valT, if_neg h, List.zip_cons_cons, valV]
      simpa [valV, h] using ih
def dInT (i : Nat) (dk : M PV) : M PV := fun s => (dk s).bind fun (q, s) => (optR (owT s i)).bind fun z => (optR (keyTV q)).bind fun k => .ok (.bl (valT k z.1 z.2).isSome, s)
def dNotInT (i : Nat) (dk : M PV) : M PV := fun s => (dk s).bind fun (q, s) => (optR (owT s i)).bind fun z => (optR (keyTV q)).bind fun k => .ok (.bl (!(valT k z.1 z.2).isSome), s)
def dGetT (i : Nat) (dk : M PV) : M PV := fun s => (optR (owT s i)).bind fun _ => (dk s).bind fun (q, s) => (optR (owT s i)).bind fun z => (optR (keyTV q)).bind fun k => (optR (valT k z.1 z.2)).bind fun p => .ok (p, s)
@[simp] theorem e_NotInT (i : Nat) (dk : M PV) (s : PSt) : dNotInT i dk s = (dk s).bind fun (x : PV × PSt) => (optR (owT x.2 i)).bind fun z => (optR (keyTV x.1)).bind fun k => .ok (.bl (!(valT k z.1 z.2).isSome), x.2) := rfl
@[simp] theorem e_InT (i : Nat) (dk : M PV) (s : PSt) : dInT i dk s = (dk s).bind fun (x : PV × PSt) => (optR (owT x.2 i)).bind fun z => (optR (keyTV x.1)).bind fun k => .ok (.bl (valT k z.1 z.2).isSome, x.2) := rfl
@[simp] theorem e_GetT (i : Nat) (dk : M PV) (s : PSt) : dGetT i dk s = (optR (owT s i)).bind fun _ => (dk s).bind fun (x : PV × PSt) => (optR (owT x.2 i)).bind fun z => (optR (keyTV x.1)).bind fun k => (optR (valT k z.1 z.2)).bind fun p => .ok (p, x.2) := rfl
theorem dget_of {B : Bs} {s : PSt} {σ : L2.St} {H : Hp} {i : Nat} {ks : List (List L2.Key)} {ps : List PV} {q : PV} {k : List L2.Key} {y : V} (R : RelSt X.K B s σ H) (h : owT s i = some (ks, ps)) (ek : keyTV q = some k) (rq : Rep X.K B.C H q y) :
    ∃ a o, σ[i]? = some (some (.ref a)) ∧ DGet H a y o ∧ o.isSome = (valT k ks ps).isSome ∧ ∀ p, valT k ks ps = some p → ∃ v, o = some v ∧ Rep X.K B.C H p v := by
  obtain ⟨a, xs, ev, l, ha, r, _⟩ := rel_dtt R h
  obtain ⟨b, rfl, hb⟩ := keyT_rep rq ek
  obtain ⟨v1, v2⟩ := valT_rep (k := k) (ks := ks) r
  refine ⟨a, _, ev, DGet.t ha hb, ?_, fun p hp => ?_⟩
  · cases e : valT k ks ps with
    | none => rw [v2 e]; rfl
    | some p =>
      obtain ⟨v, e2, _⟩ := v1 p e
      rw [e2]; rfl
  · obtain ⟨v, e2, rv⟩ := v1 p hp
    exact ⟨v, e2, rv⟩
theorem px_notInT {i : Nat} {x : Str} {a : Expr} {dk : M PV} {npos : Pos} (hu : X.A.units + 1 < cLine) (hN : X.N[i]? = some x) (hv : Vis X.env.scope x) (hk : PX X W B a dk)
    (hd : (x == ("__debug__" : Str)) = false := by decide) (hcd : (x == ("__classdict__" : Str)) = false := by decide) :
    PX X W B (.Compare a [.NotIn] [.Name x npos] pos) (dNotInT i dk) := by
  refine PE.weak (pe_cmp (pc_dnotin hu hk (pe_var (pos := npos) hN hv hd hcd))) fun σ H Q ⟨s, R, q⟩ => ⟨s, R, tRa.bind (rep' := rV X B) q fun p s1 v H1 R1 x1 r1 q => ?_⟩
  obtain ⟨z, e0, q⟩ := optR_ok q
  obtain ⟨k, ek, q⟩ := optR_ok q
  obtain ⟨b, o, ev, g, eo, _⟩ := dget_of R1 (show owT s1 i = some (z.1, z.2) from e0) ek r1
  exact ⟨.ref b, ev, b, o, rfl, g, by rw [eo]; exact q _ H1 R1 (Ext.refl H1) (rep_bl.mpr rfl)⟩
theorem px_inT {i : Nat} {x : Str} {a : Expr} {dk : M PV} {npos : Pos} (hu : X.A.units + 1 < cLine) (hN : X.N[i]? = some x) (hv : Vis X.env.scope x) (hk : PX X W B a dk)
    (hd : (x == ("__debug__" : Str)) = false := by decide) (hcd : (x == ("__classdict__" : Str)) = false := by decide) :
    PX X W B (.Compare a [.In] [.Name x npos] pos) (dInT i dk) := by
  refine PE.weak (pe_cmp (pc_din hu hk (pe_var (pos := npos) hN hv hd hcd))) fun σ H Q ⟨s, R, q⟩ => ⟨s, R, tRa.bind (rep' := rV X B) q fun p s1 v H1 R1 x1 r1 q => ?_⟩
  obtain ⟨z, e0, q⟩ := optR_ok q
  obtain ⟨k, ek, q⟩ := optR_ok q
  obtain ⟨b, o, ev, g, eo, _⟩ := dget_of R1 (show owT s1 i = some (z.1, z.2) from e0) ek r1
  exact ⟨.ref b, ev, b, o, rfl, g, by rw [eo]; exact q _ H1 R1 (Ext.refl H1) (rep_bl.mpr rfl)⟩
theorem px_getT {i : Nat} {x : Str} {a : Expr} {dk : M PV} {npos : Pos} (hu : X.A.units + 1 < cLine) (hN : X.N[i]? = some x) (hv : Vis X.env.scope x) (hk : PX X W B a dk) (hs : NoSl a)
    (hd : (x == ("__debug__" : Str)) = false := by decide) (hcd : (x == ("__classdict__" : Str)) = false := by decide) :
    PX X W B (.Subscript (.Name x npos) a pos) (dGetT i dk) := by
  refine PE.weak (pe_dget hu (pe_var (pos := npos) hN hv hd hcd) hk hs) fun σ H Q ⟨s, R, q⟩ => ?_
  obtain ⟨z0, e00, q⟩ := optR_ok q
  obtain ⟨a0, _, ev0, _⟩ := rel_dtt R (show owT s i = some (z0.1, z0.2) from e00)
  refine ⟨.ref a0, ev0, s, R, tRa.bind (rep' := rV X B) q fun p s1 v H1 R1 x1 r1 q => ?_⟩
  obtain ⟨z, e0, q⟩ := optR_ok q
  obtain ⟨k, ek, q⟩ := optR_ok q
  obtain ⟨r, er, q⟩ := optR_ok q
  obtain ⟨b, o, ev, g, eo, gv⟩ := dget_of R1 (show owT s1 i = some (z.1, z.2) from e0) ek r1
  rw [ev0] at ev
  cases ev
  obtain ⟨u, eu, ru⟩ := gv r er
  subst eu
  exact ⟨a0, u, rfl, g, q _ H1 R1 (Ext.refl H1) ru⟩
/-! range with a step -/
def downL (lo : Int) (n : Nat) : List PV := (List.range n).map fun i => .int (lo - (i : Nat))
/-- range(i, j, -1) -/
def dDown (a b : M PV) : M (List PV) := fun s => (a s).bind fun (p, s) => (b s).bind fun (q, s) => match p, q with
  | .int i, .int j => if (decide (-(2 ^ 62) ≤ i) && decide (i < 2 ^ 62)) && (decide (-(2 ^ 62) ≤ j) && decide (j < 2 ^ 62)) then .ok (downL i (i - j).toNat, s) else .bad
  | _, _ => .bad
@[simp] theorem e_Down (a b : M PV) (s : PSt) : dDown a b s = (a s).bind fun (x : PV × PSt) => (b x.2).bind fun (y : PV × PSt) => (match x.1, y.1 with
  | .int i, .int j => if (decide (-(2 ^ 62) ≤ i) && decide (i < 2 ^ 62)) && (decide (-(2 ^ 62) ≤ j) && decide (j < 2 ^ 62)) then .ok (downL i (i - j).toNat, y.2) else .bad
  | _, _ => .bad) := (rfl)
theorem rI_down {s : PSt} {σ : L2.St} {H : Hp} (lo : Int) (n : Nat) : rI X B s σ H (downL lo n) (Itc lo (-1) n) := by
  intro i H' x
  refine ⟨fun p hp => ?_, fun e => by rw [e]; simp [downL, Itc]⟩
  have hlt : i < n := by
    have := (List.getElem?_eq_some_iff.mp hp).1
    simpa [downL] using this
  refine ⟨hlt, fun y H'' hy => ?_⟩
  obtain ⟨e, ey⟩ := hy
  subst e ey
  refine ⟨Grow.refl _, ?_⟩
  have : p = .int (lo - (i : Nat)) := by
    unfold downL at hp
    rw [List.getElem?_map, List.getElem?_range hlt] at hp
    cases hp; rfl
  subst this
  exact rep_int.mpr (by congr 1; omega)
theorem pxi_down {a b : Expr} {da db : M PV} {p q1 q2 : Pos} {k : Nat} (hg : Gl X "range") (hm : X.mg "range" = none) (ha : PX X W B a da) (hb : PX X W B b db)
    (hs : starEach [a, b, .UnaryOp .USub (.Constant (.int 1) k q1) q2] X.env = (false, eval a X.env) :: starEach [b, .UnaryOp .USub (.Constant (.int 1) k q1) q2] X.env := by rfl)
    (hs2 : starEach [b, .UnaryOp .USub (.Constant (.int 1) k q1) q2] X.env = (false, eval b X.env) :: starEach [.UnaryOp .USub (.Constant (.int 1) k q1) q2] X.env := by rfl)
    (hs3 : starEach [.UnaryOp .USub (.Constant (.int 1) k q1) q2] X.env = (false, eval (.UnaryOp .USub (.Constant (.int 1) k q1) q2) X.env) :: starEach [] X.env := by rfl)
    (hpl : (backTo pos (starEach [b, .UnaryOp .USub (.Constant (.int 1) k q1) q2] X.env)).any (·.1) = false := by rfl) :
    PXI X W B tg (.Call (.Name "range" p) [a, b, .UnaryOp .USub (.Constant (.int 1) k q1) q2] [] pos) (dDown da db) := by
  have hc : PX X W B (.UnaryOp .USub (.Constant (.int 1) k q1) q2) (dNeg (dC (.int 1))) := px_neg px_int
  refine PI.weak (pi_range3 hg hm (pa_cons ha (pa_cons hb (pa_cons hc pa_nil hs3) hs2) hs) hs hpl) fun σ H R ⟨s, R0, q⟩ => ⟨s, R0, tRa.bind (rep' := rI X B) q fun p s1 v H1 R1 x1 r1 q => ⟨s1, R1, tRa.bind (rep' := rI X B) q fun p2 s2 v2 H2 R2 x2 r2 q => ⟨s2, R2, ?_⟩⟩⟩
  cases p with
  | int i =>
    cases p2 with
    | int j =>
      dsimp only at q
      split at q
      case isFalse => exact (show False from q).elim
      rename_i hf
      simp only [Bool.and_eq_true, decide_eq_true_eq] at hf
      have e := rep_int.mp r1
      have e2 := rep_int.mp r2
      subst e e2
      intro v3 H3 R3 x3 r3
      have e3 := rep_int.mp (show Rep X.K B.C H3 (.int (-1)) v3 from r3)
      subst e3
      exact ⟨i, j, -1, _, rfl, RgC.neg hf.1.1 hf.1.2 hf.2.1 hf.2.2, q _ H3 R3 x3 (rI_down i _)⟩
    | _ => exact (show False from q).elim
  | _ => exact (show False from q).elim
end
end VL
/-! VL47: min of the values of a dict whose keys are tuples. -/
namespace VL
set_option autoImplicit false
open PySem PySem.W PySem.Spec PyProof.Rows L2
theorem toDL_len : ∀ ps : List PV, (toDL ps).length = ps.length
  | [] => by simp [toDL]
  | p :: ps => by simp [toDL, toDL_len ps]
theorem vals_of : ∀ {xs : List V} {us : List Value}, xs.length = us.length → (∀ (i : Nat) (v : V), xs[i]? = some v → ∃ u, us[i]? = some u ∧ RelV v u) → Vals xs us
  | [], [], _, _ => .nil
  | [], _ :: _, h, _ => by simp at h
  | _ :: _, [], h, _ => by simp at h
  | x :: xs, u :: us, hl, h => by
    obtain ⟨u', e, r⟩ := h 0 x rfl
    cases e
    exact .cons r (vals_of (by simpa using hl) fun i v e => by
      have := h (i + 1) v (by simpa using e)
      simpa using this)
theorem walks_valsRaw {prog : Program} {w : World} {A : Around} (hh : A.handled = none) (I d : Addr) (hne : d ≠ I) (es : Array DictEntry) (ep : Nat) :
    Walks prog w A I [I, d] [I] es.size (fun i v => (es.map (·.val))[i]? = some v) (fun i h => h.IsValIter I d i es.size ep ∧ h.DictRaw d es ep) where
  sub := fun b hb => by simp at hb; simp [hb]
  frame := fun _ _ _ st hk => ⟨st.1.at fun o e => hk I (by simp) o e, st.2.at fun o e => hk d (by simp) o e⟩
  item := fun i s Q E hi st hQ => by
    refine wpAny_pyNext_values_item_raw st.1 st.2 hi fun h' hit' hs' => ?_
    exact hQ es[i].val h' s.toks (by simp [hi]) ⟨hit', st.2.at fun o e => (hs'.2 d hne).trans e⟩ fun b o hb e => hs'.extBut b o (fun h => hb (by simp [h])) e
  done := fun s Q E st hQ => wpAny_pyNext_values_end_raw hh st.1 st.2 (Nat.le_refl _) fun h' he' => hQ h' s.toks fun b o hb e => he' b o (fun h => hb (by simp [h])) e
  self := fun _ _ _ _ st hQ => wpAny_pyIter_valiter st.1 hQ
section
variable {X : Cx} {W : WX} {B : Bs} {pos : Pos}
def dMinVT (d : M PV) : M PV := fun s => (d s).bind fun (p, s) => match p with
  | .dtt _ ps => (match ps with
    | [] => .bad
    | x :: xs => if cmpOkL (x :: xs) then .ok (minB x xs, s) else .bad)
  | _ => .bad
@[simp] theorem e_MinVT (d : M PV) (s : PSt) : dMinVT d s = (d s).bind fun (x : PV × PSt) => (match x.1 with
  | .dtt _ ps => (match ps with
    | [] => .bad
    | y :: ys => if cmpOkL (y :: ys) then .ok (minB y ys, x.2) else .bad)
  | _ => .bad) := (rfl)
theorem px_minVT {o : Expr} {d : M PV} {p apos mpos : Pos} (hc : X.calm = true) (hu : X.A.units + 64 < cLine) (hg : Gl X "min") (hm : X.mg "min" = none) (he : PX X W B o d) (hbase : attributeBase o "values" X.env (eval o X.env) = eval o X.env := by rfl) (hline : (apos.endLine == mpos.line) = true := by rfl)
    (hse : starEach [Expr.Call (.Attribute o "values" apos) [] [] mpos] X.env = [(false, eval (Expr.Call (.Attribute o "values" apos) [] [] mpos) X.env)] := by rfl) :
    PX X W B (.Call (.Name "min" p) [.Call (.Attribute o "values" apos) [] [] mpos] [] pos) (dMinVT d) := by
  refine ⟨fun pins s σ H Q I h => ?_⟩
  obtain ⟨sp, R, h⟩ := h
  refine wpAny_Call_Name_kw (ld_blt I hg hm (u := .builtin "min") (by first | rfl | decide +kernel) ?_ (by first | decide +kernel | decide) (by first | decide +kernel | decide))
  rw [hse]
  refine PySem.callWith_builtin1 (wpAny_Call_method0_late hbase hline (thn (he.run pins s σ H (fun x H1 => ∃ (a : Addr) (ob : Obj) (ks : List (List L2.Key)) (xs : List V) (y : PV) (ys : List PV) (s1 : PSt), x = .ref a ∧ H1 a = some (.frz ob (.dT (ks.zip xs))) ∧ ks.length = (y :: ys).length ∧ RepL X.K B.C H1 (y :: ys) xs ∧ cmpOkL (y :: ys) = true ∧
      RelSt X.K B s1 σ H1 ∧ tRa X W B (rV X B) (.ok (minB y ys, s1)) σ H1 Q) I ⟨sp, R, tRa.bind (rep' := rV X B) h fun p s1 v H1 R1 x1 r1 q => ?_⟩) fun v s1 ⟨x, H1, I1, r1, a, od, ks, xs, y, ys, sq, ex, ha, hl, rl, hf, R1, q⟩ => ?_))
  · cases p with
    | dtt ks ps =>
      dsimp only at q
      cases ps with
      | nil => exact (show False from q).elim
      | cons y ys =>
        dsimp only at q
        split at q
        case isFalse => exact (show False from q).elim
        rename_i hf
        simp only [Rep] at r1
        obtain ⟨a, xs, rfl, l1, ⟨ob, f⟩, r⟩ := r1
        exact ⟨a, ob, ks, xs, y, ys, s1, rfl, f, l1, r, hf, R1, q⟩
    | _ => exact (show False from q).elim
  subst ex
  obtain rfl : v = Value.ref a := r1
  obtain ⟨hsys, hgd, hx, es, ep, hdt, hsz, ent⟩ := frzT2 I1 ha
  have hraw : s1.heap.DictRaw a es ep := ⟨od, hgd, hx, hdt⟩
  refine ⟨"dict", "dict.values", F.plainAttrs_dict, F.slot_dict_values, F.type_dict_values, hraw.typeIs, fun b e => ?_, Calls.callWith_builtin rfl (PySem.evalArgs_none ?_)⟩
  · cases e
    exact ⟨od, hgd, hx.2.1⟩
  refine call_meetsIn F.slot_dict_values hraw.typeIs F.entry_dict_values (F.args_dict_values_1 _) (meets_dict_values_raw a hsys) ⟨⟨es, ep, hraw⟩, ?_⟩
  have k1 : ∀ b u, s1.heap.get? b = some u → (s1.heap.push { cls := .type "dict_values", data := .fields #[.ref a] }).get? b = some u := fun b u e => Heap.get?_push_of_some _ e
  have raw1 : (s1.heap.push { cls := .type "dict_values", data := .fields #[.ref a] }).DictRaw a es ep := hraw.at fun o e => k1 a o e
  have lx : xs.length = (y :: ys).length := rl.length
  have lz : (ks.zip xs).length = xs.length := by rw [List.length_zip, hl, lx]; exact Nat.min_self _
  have hes : es.size = (y :: ys).length := by rw [hsz, lz, lx]
  obtain ⟨vs, hvs⟩ : ∃ vs : Array Value, es.map (·.val) = vs := ⟨_, rfl⟩
  have lvs : vs.size = (y :: ys).length := by rw [← hvs, Array.size_map, hes]
  have rv2 : Vals xs vs.toList := vals_of (by have e3 : vs.toList.length = vs.size := Array.length_toList; rw [e3, lvs, lx]) fun i v e => by
    have hi := (List.getElem?_eq_some_iff.mp e).1
    have hik : i < ks.length := by rw [hl, ← lx]; exact hi
    have hz : (ks.zip xs)[i]? = some (ks[i], v) := by rw [List.getElem?_zip_eq_some]; exact ⟨List.getElem?_eq_getElem hik, e⟩
    obtain ⟨en, q', hen, _, _, hval⟩ := ent i ks[i] v hz
    refine ⟨en.val, ?_, hval⟩
    rw [Array.getElem?_toList, ← hvs, Array.getElem?_map, hen]
    rfl
  have I2 : Inv X pins σ H1 { s1 with heap := s1.heap.push { cls := .type "dict_values", data := .fields #[.ref a] } } := I1.kept (t' := s1.toks) k1
  obtain ⟨h1, h2, h3⟩ := cmpOkL_d hf
  obtain ⟨as, ra⟩ := RepL.reads I2 _ xs vs.toList rl rv2 h2
  have hmn : (minB y ys).isData = true := by
    rw [isDataL_eq, List.all_eq_true] at h2
    exact h2 _ (minB_mem ys y)
  have hu' := units_depth hu h1
  simp only [toDL] at ra h3 hu'
  refine call_min_walkH (wpAny_pyIter_values_raw (v := s1.heap.objs.size) (d := a) ⟨_, Heap.get?_push_size _ rfl, rfl, rfl⟩ raw1 ?_)
  have hlt : a < s1.heap.objs.size := Heap.lt_size hgd
  have hsz1 : (s1.heap.push { cls := .type "dict_values", data := .fields #[.ref a] }).objs.size = s1.heap.objs.size + 1 := Heap.size_push _ _
  have WK := walks_valsRaw (prog := X.prog) (w := X.w) (A := X.A.in1) (I.ok.hd hc) (s1.heap.push { cls := .type "dict_values", data := .fields #[.ref a] }).objs.size a (by rw [hsz1]; exact Nat.ne_of_lt (Nat.lt_succ_of_lt hlt)) es ep
  rw [hvs] at WK
  refine ⟨_, _, _, _, _, _, _, (s1.heap.push { cls := .type "dict_values", data := .fields #[.ref a] }), _, rfl, WK.toS, ⟨⟨_, Heap.get?_push_size _ rfl, rfl, rfl⟩, raw1.at fun u e => Heap.get?_push_of_some _ e⟩, fun b hb => ?_, by rw [hes]; simp, fun b o e hb => ?_, fun b o e => Heap.get?_push_of_some _ e,
    cmpIn_lt (s := { s1 with heap := s1.heap.push { cls := .type "dict_values", data := .fields #[.ref a] } }) (A := X.A.in1) ra h3 (by show X.A.units + 1 + _ < _; exact hu'), fun v s' hP m => ?_⟩
  · show b < ((s1.heap.push _).push _).objs.size
    rw [Heap.size_push, Heap.size_push]
    rw [hsz1] at hb
    rcases List.mem_cons.mp hb with e | hb
    · rw [e]
      exact Nat.lt_succ_self _
    · have e : b = a := List.mem_singleton.mp hb
      rw [e]
      exact Nat.lt_succ_of_lt (Nat.lt_succ_of_lt hlt)
  · exact absurd (Heap.lt_size e) ((List.mem_singleton.mp hb) ▸ Nat.lt_irrefl _)
  · obtain ⟨h', tk, rfl, hk'⟩ := moved_old (s := { s1 with heap := s1.heap.push { cls := .type "dict_values", data := .fields #[.ref a] } }) rfl rfl m
    obtain ⟨bs, r, _, _, _⟩ := readsAll_atA ra _ v hP
    have e1 : es.size - 1 = ys.length := by rw [hes]; simp
    have e2 := (argBest_fold dataLt PyData.none y.toD (toDL ys) ys.length (by rw [toDL_len]; exact Nat.le_refl _)).2
    rw [show (toDL ys).take ys.length = toDL ys by rw [← toDL_len ys, List.take_length]] at e2
    rw [e1] at r
    have hr : Reads h' v (PySem.W.minD y.toD (toDL ys)) bs := reads_keeps hk' (by unfold minD; rw [← e2]; exact r)
    rw [← minB_toD] at hr
    obtain ⟨z, rz, pz⟩ := item_of I2 rl rv2 h2 hmn (by rw [Array.getElem?_toList]; exact hP) hr hk'
    exact ⟨z, H1, I2.kept hk', rz, q z H1 R1 (Ext.refl H1) pz⟩
theorem pxt_notInT {i : Nat} {x : Str} {a : Expr} {dk : M PV} {npos : Pos} (hu : X.A.units + 1 < cLine) (hN : X.N[i]? = some x) (hv : Vis X.env.scope x) (hk : PX X W B a dk)
    (hd : (x == ("__debug__" : Str)) = false := by decide) (hcd : (x == ("__classdict__" : Str)) = false := by decide) :
    PXT X W B (.Compare a [.NotIn] [.Name x npos] pos) (dTst (dNotInT i dk)) :=
  PT.weak (pt_cmp (pc_dnotin hu hk (pe_var (pos := npos) hN hv hd hcd))) fun σ H Q q => by
    obtain ⟨s, R, q⟩ := tst_read q
    refine ⟨s, R, tRa.bind (rep' := rV X B) q fun p s1 v H1 R1 x1 r1 q => ?_⟩
    obtain ⟨z, e0, q⟩ := optR_ok q
    obtain ⟨k, ek, q⟩ := optR_ok q
    obtain ⟨b, o, ev, g, eo, _⟩ := dget_of R1 (show owT s1 i = some (z.1, z.2) from e0) ek r1
    exact ⟨.ref b, ev, b, o, rfl, g, by rw [eo]; exact q _ H1 R1 (Ext.refl H1) (rep_bl.mpr rfl)⟩
theorem pxt_inT {i : Nat} {x : Str} {a : Expr} {dk : M PV} {npos : Pos} (hu : X.A.units + 1 < cLine) (hN : X.N[i]? = some x) (hv : Vis X.env.scope x) (hk : PX X W B a dk)
    (hd : (x == ("__debug__" : Str)) = false := by decide) (hcd : (x == ("__classdict__" : Str)) = false := by decide) :
    PXT X W B (.Compare a [.In] [.Name x npos] pos) (dTst (dInT i dk)) :=
  PT.weak (pt_cmp (pc_din hu hk (pe_var (pos := npos) hN hv hd hcd))) fun σ H Q q => by
    obtain ⟨s, R, q⟩ := tst_read q
    refine ⟨s, R, tRa.bind (rep' := rV X B) q fun p s1 v H1 R1 x1 r1 q => ?_⟩
    obtain ⟨z, e0, q⟩ := optR_ok q
    obtain ⟨k, ek, q⟩ := optR_ok q
    obtain ⟨b, o, ev, g, eo, _⟩ := dget_of R1 (show owT s1 i = some (z.1, z.2) from e0) ek r1
    exact ⟨.ref b, ev, b, o, rfl, g, by rw [eo]; exact q _ H1 R1 (Ext.refl H1) (rep_bl.mpr rfl)⟩
end
end VL
set_option Elab.async false
set_option linter.all false
set_option maxRecDepth 100000
set_option maxHeartbeats 1000000
/-! VL48: l.pop(i) of an own list, dict comprehensions, d.update({..}) of an own dict. -/
namespace VL
set_option autoImplicit false
open PySem PySem.Spec PyProof.Rows L2

def dPop (i : Nat) (d : M PV) : M PV := fun s => (optR (owL s i)).bind fun _ => (d s).bind fun (p, s) => (optR (owL s i)).bind fun ps => match p with
  | .int k => if decide (0 ≤ k) && fitsL ps.length then (optR (ps[k.toNat]?)).bind fun q => .ok (q, s.set i (some (.ow (.lst (ps.eraseIdx k.toNat))))) else .bad
  | _ => .bad
section
variable {X : Cx} {W : WX} {B : Bs} {pos : Pos}
theorem RepL.eraseIdx {K : PySem.W.Frag} {C : CloT} {H : Hp} : ∀ (i : Nat) {ps : List PV} {xs : List V}, RepL K C H ps xs → RepL K C H (ps.eraseIdx i) (xs.eraseIdx i)
  | i, [], xs, h => by
    simp only [RepL] at h
    subst h
    simp only [List.eraseIdx_nil]
    exact RepL.nil
  | 0, p :: ps, xs, h => by
    obtain ⟨x, r, rfl, h1, h2⟩ := h.head
    exact h2
  | i + 1, p :: ps, xs, h => by
    obtain ⟨x, r, rfl, h1, h2⟩ := h.head
    exact RepL.cons h1 (RepL.eraseIdx i h2)
theorem px_pop {i : Nat} {x : Str} {e : Expr} {d : M PV} {npos apos : Pos} (hN : X.N[i]? = some x) (hv : Vis X.env.scope x) (he : PX X W B e d) (hd : (x == ("__debug__" : Str)) = false := by decide) (hcd : (x == ("__classdict__" : Str)) = false := by decide)
    (hbase : attributeBase (.Name x npos) "pop" X.env (eval (.Name x npos) X.env) = eval (.Name x npos) X.env := by rfl)
    (hfew : ((backTo pos (starEach [e] X.env)).all (fun x => !x.1) && (backToKw pos (keywordEach [] X.env)).all (fun x => x.1.isSome)
      && decide ([e].length + ([] : List Keyword).length + (if ([] : List Keyword).isEmpty then 0 else 1) < 30)) = true := by rfl)
    (hline : (apos.endLine == pos.line) = true := by rfl) (hs : starEach [e] X.env = (false, eval e X.env) :: starEach [] X.env := by rfl) (hplain : (backTo pos (starEach [] X.env)).any (·.1) = false := by rfl) :
    PX X W B (.Call (.Attribute (.Name x npos) "pop" apos) [e] [] pos) (dPop i d) := by
  refine PE.weak (pe_bm PySem.F.plainAttrs_list PySem.F.slot_list_pop PySem.F.type_list_pop mt_popAt (pe_var hN hv hd hcd) (pa_cons he pa_nil hs) hbase hfew hline hs hplain) fun σ H Q ⟨s, R, q⟩ => ?_
  unfold dPop at q
  obtain ⟨ps0, e0, q⟩ := optR_ok q
  obtain ⟨a, xs, ea, ha, ra, na⟩ := rel_lst R e0
  refine ⟨_, ea, .inl ⟨rfl, xs, .inl (.inl ha)⟩, s, R, tRa.bind (rep' := rV X B) q fun p s1 v H1 R1 x1 r1 q => ?_⟩
  obtain ⟨ps, e1, q⟩ := optR_ok q
  obtain ⟨a', ys, ea', ha', ra', na'⟩ := rel_lst R1 e1
  rw [ea] at ea'
  cases ea'
  cases p with
  | int k =>
    dsimp only at q
    split at q
    case isFalse => exact q.elim
    rename_i hf
    rw [Bool.and_eq_true, decide_eq_true_eq] at hf
    have hl := fitsL_le hf.2
    rw [sizeLine_eq] at hl
    obtain ⟨z, ez, q⟩ := optR_ok q
    obtain ⟨y, ey, ry⟩ := ra'.get ez
    obtain rfl : v = .int k := rep_int.mp r1
    have hk : k.toNat < ys.length := (List.getElem?_eq_some_iff.mp ey).1
    rw [ra'.length] at hk
    refine ⟨a, ys, k, k.toNat, y, rfl, rfl, ha', by omega, by omega, ?_, ey, ?_⟩
    · have ek : (if k < 0 then k + (ys.length : Int) else k) = k := if_neg (by omega)
      unfold seqIndex?
      dsimp only
      rw [ek, if_pos]
      rw [Bool.and_eq_true, decide_eq_true_eq, decide_eq_true_eq, ra'.length]
      omega
    · exact q _ _ (rel_setL R1 e1 ea ha' (RepL.eraseIdx _ ra')) (ext_lst ha') (Rep.ext (ext_lst ha') _ _ ry)
  | _ => exact q.elim
end

/-! ### {k: v for ..} -/
def dDcL (vs : List Nat) (g : PV → PSt → Res PSt) (t : M Bool) (k e : M PV) : List PV → List Key → List PV → M (List Key × List PV)
  | [], ks, acc, s => .ok ((ks, acc), s)
  | p :: ps, ks, acc, s => (nox (g p s)).bind fun s1 => (nox (t s1)).bind fun (b, s2) => if b then (nox (k s2)).bind fun (r, s3) => (nox (e s3)).bind fun (q, s4) => (optR (keyV r)).bind fun kk =>
      if fitsL (ks.length + 1) then dDcL vs g t k e ps (putP kk q ks acc).1 (putP kk q ks acc).2 (wipeP s4 vs) else .bad
    else dDcL vs g t k e ps ks acc (wipeP s2 vs)
def dDc (vs : List Nat) (it : M (List PV)) (g : PV → PSt → Res PSt) (t : M Bool) (k e : M PV) : M PV := fun s => (it s).bind fun (ps, s1) => (dDcL vs g t k e ps [] [] (wipeP s1 vs)).bind fun (acc, s2) => .ok (.dct acc.1 acc.2, backP s1 s2 vs)
section
variable {X : Cx} {W : WX} {B : Bs} {pos : Pos}
theorem dc_read {X' : Cx} (hK : X'.K = X.K) {vs : List Nat} {it : M (List PV)} {g : PV → PSt → Res PSt} {t : M Bool} {k e : M PV} {σ : St} {H : Hp} {Q : VK}
    (h : tR X W B (rF X B) (dDc vs it g t k e) σ H Q) :
    tDc (tR X W B (rI X B) it) (fun v σ H Q => ∃ H0 : Hp, ∃ s p, RelSt X'.K (B.at H0) s σ H ∧ Rep X'.K B.C H p v ∧ match g p s with
        | .ok s' => ∀ σ' H', RelSt X'.K (B.at H0) s' σ' H' → Ext H H' → wipe σ' vs = wipe σ vs → Q σ' H'
        | _ => False)
      (fun σ H Q => ∃ H0 : Hp, tR X' WN (B.at H0) rB t σ H Q) (fun σ H Q => ∃ H0 : Hp, tR X' WN (B.at H0) (rV X' (B.at H0)) k σ H Q) (fun σ H Q => ∃ H0 : Hp, tR X' WN (B.at H0) (rV X' (B.at H0)) e σ H Q) vs σ H Q := by
  obtain ⟨s, R, h⟩ := h
  refine ⟨s, R, tRa.bind (rep' := rF X B) h fun ps s1 J H1 R1 x1 rj h => ?_⟩
  intro D hD
  have hB0 : B.H0 D = none := R1.h0 hD
  have hpD := R1.hpot hB0
  refine ⟨fun i m H' => m = ps.length - i ∧ i ≤ ps.length ∧ Ext H1 H' ∧ ∃ s' ks acc accv, ks.length = acc.length ∧ RelSt X.K (B.at (upd B.H0 D (.dK (ks.zip accv)))) s' (wipe σ vs) H' ∧ RepL X.K B.C H' acc accv ∧
    tRa X W B (rF X B) ((dDcL vs g t k e (ps.drop i) ks acc s').bind fun (acc, s2) => .ok (.dct acc.1 acc.2, backP s1 s2 vs)) σ H1 Q, ⟨ps.length, rfl, Nat.zero_le _, Ext.new hD, wipeP s1 vs, [], [], [], rfl, ?_, RepL.nil, h⟩, ?_⟩
  · have R2 := (R1.wipe vs).new (o := .dK []) hD
    refine R2.hold upd_same fun i p h1 h2 => ?_
    obtain ⟨v, ev, a, ea, own, n⟩ := (R1.wipe vs).at_ i _ h1
    rw [h2] at ev
    cases ev
    cases ea
    obtain ⟨u, hu, _⟩ := own.get
    rw [hD] at hu; cases hu
  rintro i m H' ⟨rfl, hi, xh, s', ks, acc, accv, lk, R', ra, h'⟩
  by_cases hlt : i < ps.length
  · have ep : ps[i]? = some ps[i] := List.getElem?_eq_getElem hlt
    obtain ⟨go, yl⟩ := (rj i H' xh).1 _ ep
    rw [List.drop_eq_getElem_cons hlt] at h'
    unfold dDcL at h'
    refine .inr ⟨go, fun H2 => Ext H1 H2 ∧ ∃ s' ks acc accv, ks.length = acc.length ∧ RelSt X.K (B.at (upd B.H0 D (.dK (ks.zip accv)))) s' (wipe σ vs) H2 ∧ RepL X.K B.C H2 acc accv ∧
      tRa X W B (rF X B) ((dDcL vs g t k e (ps.drop (i + 1)) ks acc s').bind fun (acc, s2) => .ok (.dct acc.1 acc.2, backP s1 s2 vs)) σ H1 Q, fun H2 ⟨x2, w⟩ => ⟨ps.length - (i + 1), by omega, rfl, hlt, x2, w⟩, fun x H3 y => ?_⟩
    obtain ⟨gr, rp⟩ := yl x H3 y
    refine ⟨upd B.H0 D (.dK (ks.zip accv)), s', ps[i], by rw [hK]; exact R'.grow gr.ext gr, by rw [hK]; exact rp, ?_⟩
    cases eg : g ps[i] s' with
    | exc c v => rw [eg] at h'; exact (show False from h').elim
    | bad => rw [eg] at h'; exact (show False from h').elim
    | ok s4 =>
      rw [eg] at h'
      simp only [nox, Res.bind_ok] at h'
      dsimp only
      intro σ4 H4 R4 x4 w4
      have w4' : wipe σ4 vs = wipe σ vs := w4.trans wipe_wipe
      have xx : Ext H1 H4 := xh.trans (gr.ext.trans x4)
      have ra4 := RepL.ext (gr.ext.trans x4) _ _ ra
      refine ⟨w4', upd B.H0 D (.dK (ks.zip accv)), s4, R4, ?_⟩
      cases et : t s4 with
      | exc c v => rw [et] at h'; exact (show False from h').elim
      | bad => rw [et] at h'; exact (show False from h').elim
      | ok r5 =>
        obtain ⟨b, s5⟩ := r5
        rw [et] at h'
        simp only [Res.bind_ok] at h'
        intro b' H5 R5 x5 eb
        subst eb
        rw [hK] at R5
        cases b with
        | false =>
          simp only [Bool.false_eq_true, if_false] at h' ⊢
          have R5' := R5.wipe vs
          rw [w4'] at R5'
          exact ⟨xx.trans x5, _, ks, acc, accv, lk, R5', RepL.ext x5 _ _ ra4, h'⟩
        | true =>
          simp only [if_true] at h' ⊢
          refine ⟨upd B.H0 D (.dK (ks.zip accv)), s5, by rw [hK]; exact R5, ?_⟩
          cases ek : k s5 with
          | exc c v => rw [ek] at h'; exact (show False from h').elim
          | bad => rw [ek] at h'; exact (show False from h').elim
          | ok r6 =>
          obtain ⟨r, s6⟩ := r6
          rw [ek] at h'
          simp only [Res.bind_ok] at h'
          intro z6 H6 R6 x6 rk
          rw [hK] at R6
          have rk : Rep X.K B.C H6 r z6 := by
            have rk' : Rep X'.K B.C H6 r z6 := rk
            rw [hK] at rk'
            exact rk'
          refine ⟨upd B.H0 D (.dK (ks.zip accv)), s6, by rw [hK]; exact R6, ?_⟩
          cases ee : e s6 with
          | exc c v => rw [ee] at h'; exact (show False from h').elim
          | bad => rw [ee] at h'; exact (show False from h').elim
          | ok r7 =>
            obtain ⟨q, s7⟩ := r7
            rw [ee] at h'
            simp only [Res.bind_ok] at h'
            intro y7 H7 R7 x7 ry
            rw [hK] at R7
            have ry : Rep X.K B.C H7 q y7 := by
              have ry' : Rep X'.K B.C H7 q y7 := ry
              rw [hK] at ry'
              exact ry'
            cases ekk : keyV r with
            | none => rw [ekk] at h'; exact (show False from h').elim
            | some kk =>
            rw [ekk] at h'
            simp only [optR_some, Res.bind_ok] at h'
            obtain ⟨R8, hD7, lo⟩ := R7.held hB0 hpD (fun _ z => nomatch z)
            by_cases hf : fitsL (ks.length + 1) = true
            · rw [if_pos hf] at h'
              have ra7 := RepL.ext (x5.trans (x6.trans x7)) _ _ ra4
              refine ⟨ks.zip accv, kk, key_rep rk ekk, hD7, ?_, ?_⟩
              · have := fitsL_le hf
                rw [List.length_zip, ra7.length, lk, Nat.min_self, ← lk]
                exact this
              · obtain ⟨l2, zs, e2, r3⟩ := putP_rep (X := X) (k := kk) ry lk ra7
                rw [e2]
                have xe : Ext H7 (upd H7 D (.dK ((putP kk q ks acc).1.zip zs))) := ext_dct hD7
                refine ⟨xx.trans (x5.trans (x6.trans (x7.trans xe))), wipeP s7 vs, _, _, zs, l2, ?_, RepL.ext xe _ _ r3, h'⟩
                have R9 := (R8.other (o := .dK ((putP kk q ks acc).1.zip zs)) hB0 hpD lo hD7 wr_dK).hold upd_same lo
                have R10 := R9.wipe vs
                rw [w4'] at R10
                exact R10
            · rw [if_neg hf] at h'
              exact (show False from h').elim
  · have e : i = ps.length := by omega
    subst e
    rw [List.drop_length] at h'
    refine .inl ⟨(rj _ H' xh).2 rfl, ?_⟩
    obtain ⟨R5, hD5, lo⟩ := R'.held hB0 hpD (fun _ z => nomatch z)
    have hl : s'.length = s1.length := by rw [R5.len, R1.len, wipe_length]
    exact h' _ H' (R1.back xh R5) xh ⟨D, rfl, ⟨lk, accv, hD5, ra⟩, hB0, lone_back hl lo⟩
theorem pf_dc {kx vx tg iter : Expr} {ifs : List Expr} {scope : Scope} {own : List (Str × Nat)} {it : M (List PV)} {g : PV → PSt → Res PSt} {t : M Bool} {k e : M PV} (hc : X.calm = true) (hN : X.N.Nodup) (hi : PXI X W B tg iter it) (ok : BlkOk X.N X.env.scope scope own)
    (hg : ∀ s H C cl fp H0, PXH (Blk X scope s H C cl fp) (B.at H0) (own.map (·.2)) tg g) (ht : ∀ s H C cl fp H0, PXTs (Blk X scope s H C cl fp) (B.at H0) ifs t)
    (hk : ∀ s H C cl fp H0, PX (Blk X scope s H C cl fp) WN (B.at H0) kx k)
    (he : ∀ s H C cl fp H0, PX (Blk X scope s H C cl fp) WN (B.at H0) vx e) (hs : ∀ x, foldedSetIterable iter X.env x = pure x := by intro _; rfl) :
    PF X W B (.DictComp kx vx [⟨tg, iter, ifs, 0⟩] scope pos) (dDc (own.map (·.2)) it g t k e) := by
  refine ⟨fun pins s σ H Q I h => ?_⟩
  exact (pe_dc (X := X) hc hN hi ok (fun s H C cl fp => ⟨fun pins s' σ H' v u Q I r ⟨H0, q⟩ => (hg s H C cl fp H0).run pins s' σ H' v u Q I r q⟩)
    (fun s H C cl fp => ⟨fun pins s' σ H' Q I ⟨H0, q⟩ => (ht s H C cl fp H0).run pins s' σ H' Q I q⟩)
    (fun s H C cl fp => ⟨fun pins s' σ H' Q I ⟨H0, q⟩ => (hk s H C cl fp H0).run pins s' σ H' Q I q⟩)
    (fun s H C cl fp => ⟨fun pins s' σ H' Q I ⟨H0, q⟩ => (he s H C cl fp H0).run pins s' σ H' Q I q⟩) hs).run pins s σ H Q I (dc_read (X' := X) rfl h)
end
end VL
/-! VL49: d.update({..}) of an own dict. -/
namespace VL
set_option autoImplicit false
open PySem PySem.Spec PyProof.Rows L2

def putAll (kvs more : List (Key × V)) : List (Key × V) := more.foldl (fun acc p => putK acc p.1 p.2) kvs
theorem kv_all : ∀ {more : List (Key × V)} {ms : List (Key × Value)}, KV more ms → ∀ {kvs : List (Key × V)} {vs : List (Key × Value)}, KV kvs vs → KV (putAll kvs more) (merged vs ms) := by
  intro more ms r
  induction r with
  | nil => intro kvs vs r; exact r
  | cons h r ih =>
    intro kvs vs r0
    rename_i p q _ _
    have e : q.1 = p.1 := h.1.symm
    have := KV.put r0 p.1 h.2
    show KV (putAll (putK kvs p.1 p.2) _) (merged (stored vs q.1 q.2) _)
    rw [e]
    exact ih this
theorem putAll_le : ∀ (more kvs : List (Key × V)), (putAll kvs more).length ≤ kvs.length + more.length
  | [], kvs => Nat.le_refl _
  | p :: more, kvs => by
    have h1 := putAll_le more (putK kvs p.1 p.2)
    have h2 := length_putK kvs p.1 p.2
    show (putAll (putK kvs p.1 p.2) more).length ≤ _
    rw [List.length_cons]
    omega
def rDUpd : V → List V → Hp → VK → Prop := fun x vs H Q => ∃ (a b : Addr) (kvs more : List (Key × V)), x = .ref a ∧ vs = [.ref b] ∧ a ≠ b ∧ H a = some (.dK kvs) ∧ H b = some (.dK more) ∧ kvs.length + more.length ≤ sizeLine ∧ Q .non (upd H a (.dK (putAll kvs more)))
theorem mtd_update {X : Cx} : MtR X "dict.update" rDUpd := by
  intro pins s σ H x vs v us Q I rx rv h
  obtain ⟨a, b, kvs, more, ex, ev, hab, ea, eb, hl, q⟩ := h
  subst ex
  subst ev
  obtain rfl : v = Value.ref a := rx
  obtain ⟨u, rfl, ru⟩ := rv.one
  obtain rfl : u = Value.ref b := ru
  obtain ⟨z, hd, vs, rel, dd⟩ := dk_of I.hok ea
  obtain ⟨z2, hd2, vs2, rel2, dd2⟩ := dk_of I.hok eb
  refine call_meetsIn PySem.F.slot_dict_update dd.typeIs PySem.F.entry_dict_update (PySem.F.args_dict_update_2 _ _) (meets_dict_update (mixKind X.prog X.w) a b hab hd2)
    ⟨vs, vs2, dd, dd2, by rw [← rel.length, ← rel2.length]; exact hl, fun h' dd' ddo hs => ?_⟩
  have he : ∃ q, h'.get? a = some q := let ⟨q, _, _, hq, _⟩ := dd'; ⟨q, hq⟩
  exact ⟨.non, _, d_write (t' := s.toks) I (by rw [ea]; exact True.intro) hs he (dk_new (Nat.le_trans (putAll_le _ _) hl) hd (kv_all rel2 rel) dd'), rfl, q⟩

def mergeP : List Key → List PV → List Key → List PV → List Key × List PV
  | ks, ps, j :: js, q :: qs => mergeP (putP j q ks ps).1 (putP j q ks ps).2 js qs
  | ks, ps, _, _ => (ks, ps)
def dUpd (i : Nat) (d : M PV) : M PV := fun s => (optR (owD s i)).bind fun _ => (d s).bind fun (p, s) => (optR (owD s i)).bind fun (ks, ps) => match p with
  | .dct js qs => if fitsL (ks.length + js.length) then .ok (.non, s.set i (some (.ow (.dct (mergeP ks ps js qs).1 (mergeP ks ps js qs).2)))) else .bad
  | _ => .bad
section
variable {X : Cx} {W : WX} {B : Bs} {pos : Pos}
theorem mergeP_rep {C : CloT} {H : Hp} : ∀ (js : List Key) (qs : List PV) (zs : List V) (ks : List Key) (ps : List PV) (xs : List V), js.length = qs.length → RepL X.K C H qs zs → ks.length = ps.length → RepL X.K C H ps xs →
    (mergeP ks ps js qs).1.length = (mergeP ks ps js qs).2.length ∧ ∃ ys, putAll (ks.zip xs) (js.zip zs) = (mergeP ks ps js qs).1.zip ys ∧ RepL X.K C H (mergeP ks ps js qs).2 ys
  | [], qs, zs, ks, ps, xs, l, r, l0, r0 => by
    have e : mergeP ks ps [] qs = (ks, ps) := by unfold mergeP; rfl
    rw [e]
    exact ⟨l0, xs, by rw [List.zip_nil_left]; rfl, r0⟩
  | j :: js, [], zs, ks, ps, xs, l, r, l0, r0 => by simp at l
  | j :: js, q :: qs, zs, ks, ps, xs, l, r, l0, r0 => by
    obtain ⟨z, zs', rfl, r1, r2⟩ := r.head
    obtain ⟨l2, ys, e2, r3⟩ := putP_rep (X := X) (k := j) r1 l0 r0
    obtain ⟨l4, ws, e4, r4⟩ := mergeP_rep js qs zs' _ _ ys (by simpa using l) r2 l2 r3
    unfold mergeP
    refine ⟨l4, ws, ?_, r4⟩
    rw [List.zip_cons_cons]
    show putAll (putK (ks.zip xs) j z) (js.zip zs') = _
    rw [e2]
    exact e4
theorem px_upd {i : Nat} {x : Str} {e : Expr} {d : M PV} {npos apos : Pos} (hN : X.N[i]? = some x) (hv : Vis X.env.scope x) (he : PF X W B e d) (hd : (x == ("__debug__" : Str)) = false := by decide) (hcd : (x == ("__classdict__" : Str)) = false := by decide)
    (hbase : attributeBase (.Name x npos) "update" X.env (eval (.Name x npos) X.env) = eval (.Name x npos) X.env := by rfl)
    (hfew : ((backTo pos (starEach [e] X.env)).all (fun x => !x.1) && (backToKw pos (keywordEach [] X.env)).all (fun x => x.1.isSome)
      && decide ([e].length + ([] : List Keyword).length + (if ([] : List Keyword).isEmpty then 0 else 1) < 30)) = true := by rfl)
    (hline : (apos.endLine == pos.line) = true := by rfl) (hs : starEach [e] X.env = (false, eval e X.env) :: starEach [] X.env := by rfl) (hplain : (backTo pos (starEach [] X.env)).any (·.1) = false := by rfl) :
    PX X W B (.Call (.Attribute (.Name x npos) "update" apos) [e] [] pos) (dUpd i d) := by
  refine PE.weak (pe_bm PySem.F.plainAttrs_dict PySem.F.slot_dict_update PySem.F.type_dict_update mtd_update (pe_var hN hv hd hcd) (pa_cons he pa_nil hs) hbase hfew hline hs hplain) fun σ H Q ⟨s, R, q⟩ => ?_
  unfold dUpd at q
  obtain ⟨⟨ks0, ps0⟩, e0, q⟩ := optR_ok q
  obtain ⟨a, xs, ea, la, ha, ra, na⟩ := rel_dct R e0
  refine ⟨_, ea, .inr (.inr (.inl ⟨rfl, .inl ⟨_, ha⟩⟩)), s, R, tRa.bind (rep' := rV X B) q fun p s1 v H1 R1 x1 ⟨b, eb, ob, nb, lb⟩ q => ?_⟩
  subst eb
  obtain ⟨⟨ks, ps⟩, e1, q⟩ := optR_ok q
  obtain ⟨a', ys, ea', la', ha', ra', na'⟩ := rel_dct R1 e1
  rw [ea] at ea'
  cases ea'
  cases p with
  | dct js qs =>
    dsimp only at q
    split at q
    case isFalse => exact q.elim
    rename_i hf
    have hl := fitsL_le hf
    obtain ⟨lj, zs, hb, rb⟩ := ob
    obtain ⟨l2, ws, e2, r2⟩ := mergeP_rep (X := X) js qs zs ks ps ys lj rb la' ra'
    refine ⟨a, b, _, _, rfl, rfl, fun z => ?_, ha', hb, ?_, ?_⟩
    · subst z
      exact lb i _ (owD_at e1) ea
    · rw [List.length_zip, List.length_zip, ra'.length, rb.length, ← la', ← lj, Nat.min_self, Nat.min_self]
      exact hl
    · rw [e2]
      exact q _ _ (rel_setD R1 e1 ea ha' l2 r2) (ext_dct ha') (by simp only [Rep])
  | lst _ => exact (show False from q).elim
  | dtt _ _ => exact (show False from q).elim
  | _ => exact (show False from ob).elim
end
end VL
/-! VL50: dicts with ints as keys: {k: v}, in, not in, sorted(d). -/
namespace VL
set_option autoImplicit false
open PySem PySem.Spec PyProof.Rows L2

section
variable {X : Cx} {W : WX} {B : Bs} {pos : Pos}
def dDispK (dk dv : M PV) : M PV := fun s => (noX (dk s)).bind fun (q, s) => (noX (dv s)).bind fun (p, s) => (optR (keyV q)).bind fun k => .ok (.dct [k] [p], s)
theorem pf_dispK {k v : Expr} {dk dv : M PV} (hk : ∀ H0, PX X W (B.at H0) k dk) (hv : ∀ H0, PX X W (B.at H0) v dv) : PF X W B (.Dict [some k] [v] pos) (dDispK dk dv) := by
  have hk' : PE X k (fun σ H Q => ∃ H0, tR X W (B.at H0) (rV X (B.at H0)) dk σ H Q) := ⟨fun pins s σ H Q I ⟨H0, q⟩ => (hk H0).run pins s σ H Q I q⟩
  have hv' : PE X v (fun σ H Q => ∃ H0, tR X W (B.at H0) (rV X (B.at H0)) dv σ H Q) := ⟨fun pins s σ H Q I ⟨H0, q⟩ => (hv H0).run pins s σ H Q I q⟩
  refine PE.weak (pe_disp (pos := pos) (pps_cons hk' hv' pps_nil) rfl rfl (fun z => nomatch z) (show 1 ≤ 15 by decide)) fun σ H Q ⟨s, R, q⟩ p hp => ?_
  have h0 : B.H0 p = none := R.h0 hp
  have hpp := R.hpot h0
  have R1 := (R.new (o := .dK []) hp).hold upd_same (R.lone hp)
  refine ⟨upd B.H0 p (.dK []), s, R1, ?_⟩
  unfold dDispK at q
  cases e1 : dk s with
  | bad => rw [e1] at q; exact q.elim
  | exc c v => rw [e1] at q; exact (show False from q).elim
  | ok r1 =>
    obtain ⟨qk, s1⟩ := r1
    rw [e1] at q
    intro x H1 R2 x1 rx
    refine ⟨upd B.H0 p (.dK []), s1, R2, ?_⟩
    dsimp only [noX, Res.bind_ok] at q
    cases e2 : dv s1 with
    | bad => rw [e2] at q; exact q.elim
    | exc c v => rw [e2] at q; exact (show False from q).elim
    | ok r2 =>
      obtain ⟨qv, s2⟩ := r2
      rw [e2] at q
      intro y H2 R3 x2 ry
      dsimp only [noX, Res.bind_ok] at q
      obtain ⟨k, ek, q⟩ := optR_ok q
      obtain ⟨R4, e4, lo⟩ := R3.held h0 hpp (fun _ z => nomatch z)
      have ekx := key_rep (Rep.ext x2 _ _ rx) ek
      refine ⟨e4, [(k, y)], by rw [ekx]; rfl, (show 1 ≤ 15 by decide), ?_⟩
      have xe : Ext H2 (upd H2 p (.dK [(k, y)])) := ext_dct e4
      exact q _ _ (R4.other (o := .dK [(k, y)]) h0 hpp lo e4 wr_dK) ((Ext.new hp).trans (x1.trans (x2.trans xe))) ⟨p, rfl, ⟨rfl, [y], upd_same, .cons (Rep.ext xe _ _ ry) .nil⟩, h0, (R4.other (o := .dK [(k, y)]) h0 hpp lo e4 wr_dK |> fun _ => lo)⟩
def dInK (dk : M PV) (dc : M Src) : M PV := fun s => (dk s).bind fun (q, s) => (dc s).bind fun (c, s) => (optR (c.get s)).bind fun p => match p with
  | .dct ks _ => (optR (keyV q)).bind fun k => .ok (.bl (kHas k ks), s)
  | _ => .bad
def dNotInK (dk : M PV) (dc : M Src) : M PV := fun s => (dk s).bind fun (q, s) => (dc s).bind fun (c, s) => (optR (c.get s)).bind fun p => match p with
  | .dct ks _ => (optR (keyV q)).bind fun k => .ok (.bl (!kHas k ks), s)
  | _ => .bad
theorem has_rep {C : CloT} {H : Hp} {k : Key} : ∀ {ks : List Key} {xs : List V}, ks.length = xs.length → (valV (ks.zip xs) k).isSome = kHas k ks
  | [], xs, _ => by rw [List.zip_nil_left]; rfl
  | j :: ks, [], h => by simp at h
  | j :: ks, x :: xs, h => by
    rw [List.zip_cons_cons]
    unfold kHas
    by_cases e : j = k
    · rw [valV_pos (p := (j, x)) e, decide_eq_true e]; rfl
    · rw [valV_neg (p := (j, x)) e, decide_eq_false e, has_rep (C := C) (H := H) (by simpa using h)]; rfl
theorem inK_go {s : PSt} {neg : Bool} {dk : M PV} {dc : M Src} {σ : L2.St} {H : Hp} {Q : V → Hp → Prop} (R : RelSt X.K B s σ H)
    (q : tRa X W B (rV X B) ((if neg then dNotInK dk dc else dInK dk dc) s) σ H Q) :
    tR X W B (rV X B) dk σ H fun y H1 => tR X W B (rC X B) dc σ H1 fun x H2 => ∃ a o, x = .ref a ∧ DGet H2 a y o ∧ Q (.bl (if neg then !o.isSome else o.isSome)) H2 := by
  cases neg with
  | false =>
    refine ⟨s, R, tRa.bind (rep' := rV X B) q fun p s1 v H1 R1 x1 r1 q => ⟨s1, R1, tRa.bind (rep' := rV X B) q fun c s2 u H2 R2 x2 r2 q => ?_⟩⟩
    obtain ⟨t, et, q⟩ := optR_ok q
    have nw := src_now R2 r2 et
    cases t with
    | dct ks ps =>
      obtain ⟨k, ek, q⟩ := optR_ok q
      obtain ⟨a, xs, rfl, l, f, rr⟩ := nw
      refine ⟨a, _, rfl, .inl ⟨_, k, f, key_rep (Rep.ext x2 _ _ r1) ek, rfl⟩, ?_⟩
      simp only [Bool.false_eq_true, if_false]
      rw [has_rep (C := B.C) (H := H2) (by rw [rr.length, l])]
      exact q _ H2 R2 (Ext.refl H2) (rep_bl.mpr rfl)
    | _ => exact (show False from q).elim
  | true =>
    refine ⟨s, R, tRa.bind (rep' := rV X B) q fun p s1 v H1 R1 x1 r1 q => ⟨s1, R1, tRa.bind (rep' := rV X B) q fun c s2 u H2 R2 x2 r2 q => ?_⟩⟩
    obtain ⟨t, et, q⟩ := optR_ok q
    have nw := src_now R2 r2 et
    cases t with
    | dct ks ps =>
      obtain ⟨k, ek, q⟩ := optR_ok q
      obtain ⟨a, xs, rfl, l, f, rr⟩ := nw
      refine ⟨a, _, rfl, .inl ⟨_, k, f, key_rep (Rep.ext x2 _ _ r1) ek, rfl⟩, ?_⟩
      simp only [if_true]
      rw [has_rep (C := B.C) (H := H2) (by rw [rr.length, l])]
      exact q _ H2 R2 (Ext.refl H2) (rep_bl.mpr rfl)
    | _ => exact (show False from q).elim
theorem px_inK {a b : Expr} {dk : M PV} {dc : M Src} (hu : X.A.units + 1 < cLine) (hk : PX X W B a dk) (hc : PXC X W B b dc) (hm : behindInMarks .In b = false := by rfl) : PX X W B (.Compare a [.In] [b] pos) (dInK dk dc) :=
  PE.weak (pe_cmp (pc_din hu hk hc) hm) fun σ H Q ⟨s, R, q⟩ => inK_go (neg := false) R q
theorem px_notInK {a b : Expr} {dk : M PV} {dc : M Src} (hu : X.A.units + 1 < cLine) (hk : PX X W B a dk) (hc : PXC X W B b dc) (hm : behindInMarks .NotIn b = false := by rfl) : PX X W B (.Compare a [.NotIn] [b] pos) (dNotInK dk dc) :=
  PE.weak (pe_cmp (pc_dnotin hu hk hc) hm) fun σ H Q ⟨s, R, q⟩ => inK_go (neg := true) R q
theorem pxt_inK {a b : Expr} {dk : M PV} {dc : M Src} (hu : X.A.units + 1 < cLine) (hk : PX X W B a dk) (hc : PXC X W B b dc) (hm : behindInMarks .In b = false := by rfl) : PXT X W B (.Compare a [.In] [b] pos) (dTst (dInK dk dc)) :=
  PT.weak (pt_cmp (pc_din hu hk hc) hm) fun σ H Q q => by
    obtain ⟨s, R, q⟩ := tst_read q
    exact inK_go (neg := false) R q
theorem pxt_notInK {a b : Expr} {dk : M PV} {dc : M Src} (hu : X.A.units + 1 < cLine) (hk : PX X W B a dk) (hc : PXC X W B b dc) (hm : behindInMarks .NotIn b = false := by rfl) : PXT X W B (.Compare a [.NotIn] [b] pos) (dTst (dNotInK dk dc)) :=
  PT.weak (pt_cmp (pc_dnotin hu hk hc) hm) fun σ H Q q => by
    obtain ⟨s, R, q⟩ := tst_read q
    exact inK_go (neg := true) R q
@[simp] theorem e_InK (dk : M PV) (dc : M Src) (s : PSt) : dInK dk dc s = (dk s).bind fun (x : PV × PSt) => (dc x.2).bind fun (y : Src × PSt) => (optR (y.1.get y.2)).bind fun p => match p with
  | .dct ks _ => (optR (keyV x.1)).bind fun k => .ok (.bl (kHas k ks), y.2)
  | _ => .bad := rfl
@[simp] theorem e_NotInK (dk : M PV) (dc : M Src) (s : PSt) : dNotInK dk dc s = (dk s).bind fun (x : PV × PSt) => (dc x.2).bind fun (y : Src × PSt) => (optR (y.1.get y.2)).bind fun p => match p with
  | .dct ks _ => (optR (keyV x.1)).bind fun k => .ok (.bl (!kHas k ks), y.2)
  | _ => .bad := rfl
@[simp] theorem e_DispK (dk dv : M PV) (s : PSt) : dDispK dk dv s = (noX (dk s)).bind fun (x : PV × PSt) => (noX (dv x.2)).bind fun (y : PV × PSt) => (optR (keyV x.1)).bind fun k => .ok (.dct [k] [y.1], y.2) := rfl
@[simp] theorem e_Pop (i : Nat) (d : M PV) (s : PSt) : dPop i d s = (optR (owL s i)).bind fun _ => (d s).bind fun (x : PV × PSt) => (optR (owL x.2 i)).bind fun ps => match x.1 with
  | .int k => if decide (0 ≤ k) && fitsL ps.length then (optR (ps[k.toNat]?)).bind fun q => .ok (q, x.2.set i (some (.ow (.lst (ps.eraseIdx k.toNat))))) else .bad
  | _ => .bad := rfl
@[simp] theorem e_Dc (vs : List Nat) (it : M (List PV)) (g : PV → PSt → Res PSt) (t : M Bool) (k e : M PV) (s : PSt) : dDc vs it g t k e s = (it s).bind fun (x : List PV × PSt) => (dDcL vs g t k e x.1 [] [] (wipeP x.2 vs)).bind fun (y : (List Key × List PV) × PSt) => .ok (.dct y.1.1 y.1.2, backP x.2 y.2 vs) := rfl
@[simp] theorem e_Upd (i : Nat) (d : M PV) (s : PSt) : dUpd i d s = (optR (owD s i)).bind fun _ => (d s).bind fun (x : PV × PSt) => (optR (owD x.2 i)).bind fun (z : List Key × List PV) => match x.1 with
  | .dct js qs => if fitsL (z.1.length + js.length) then .ok (.non, x.2.set i (some (.ow (.dct (mergeP z.1 z.2 js qs).1 (mergeP z.1 z.2 js qs).2)))) else .bad
  | _ => .bad := rfl
/-! sorted(d): the keys, ints -/
def intKs : List Key → Option (List Int)
  | [] => some []
  | .inl i :: ks => (intKs ks).map (i :: ·)
  | .inr _ :: _ => none
def srtI (l : List Int) : List Int := l.mergeSort fun a b => decide (a ≤ b)
def sortK (p : PV) : Res (List PV) := match p with
  | .dct ks _ => (optR (intKs ks)).bind fun is => if Nat.blt is.length 64 then .ok ((srtI is).map PV.int) else .bad
  | _ => .bad
theorem intKs_map : ∀ {ks : List Key} {is : List Int}, intKs ks = some is → ks = is.map Sum.inl
  | [], is, h => by cases h; rfl
  | .inl i :: ks, is, h => by
    unfold intKs at h
    cases e : intKs ks with
    | none => rw [e] at h; cases h
    | some js =>
      rw [e] at h
      cases h
      rw [intKs_map e]; rfl
  | .inr _ :: _, _, h => by cases h
theorem srtI_eq {a b : List Int} (p : a.Perm b) (s : a.Pairwise (· ≤ ·)) : a = srtI b := by
  have p2 : List.Perm a (srtI b) := p.trans (List.mergeSort_perm b _).symm
  refine List.Perm.eq_of_pairwise (le := fun a b => a ≤ b) ?_ s ?_ p2
  · intro x y _ _ h1 h2; omega
  · have := List.pairwise_mergeSort (le := fun a b : Int => decide (a ≤ b)) (fun a b c h1 h2 => by simp at *; omega) (fun a b => by simp; omega) b
    exact this.imp fun h => by simpa using h
theorem repI {K : PySem.W.Frag} {C : CloT} {H : Hp} : ∀ ns : List Int, RepL K C H (ns.map PV.int) (ns.map V.int) := rep_ints
theorem c1_sortK {C : CloT} (hc : X.calm = true) : Call1F X C (.builtin "sorted") sortK := by
  intro p r e pins s σ H xs us Q I rv ⟨x, ex, n, k⟩
  cases p with
  | dct ks ps =>
    obtain ⟨is, e1, e⟩ := ok_bind e
    cases ei : intKs ks with
    | none => rw [ei] at e1; cases e1
    | some js =>
    rw [ei] at e1
    cases e1
    split at e
    case isFalse => cases e
    rename_i hf
    cases e
    subst ex
    obtain ⟨a, ys, rfl, l, f, rr⟩ := n
    refine call_sortedDI hc pins s σ H [.ref a] us Q I rv ⟨a, _, is, rfl, f, ?_, Nat.lt_of_lt_of_le (Nat.lt_of_le_of_lt (Nat.le_refl _) (by simpa using hf)) (Nat.le_refl _), fun zs p hp hs hn => ?_⟩
    · rw [intKs_map ei, ← List.unzip_fst, List.unzip_zip]
      rw [← intKs_map ei, rr.length, l]
    · rw [srtI_eq hp hs]
      exact k p _ _ hn (Ext.new hn) (Grow.new hn) upd_same (repI _)
  | _ => cases e
theorem n1_sortK : NoEx1 sortK := fun p c v => by
  unfold sortK
  split
  · exact ne_bind fun a => by split <;> simp only [ne_eq, reduceCtorEq, not_false_eq_true]
  · simp only [ne_eq, reduceCtorEq, not_false_eq_true]
end
end VL
/-! VL51: x != y as a test, x a list that is one's own and stays so. -/
namespace VL
set_option autoImplicit false
open PySem PySem.Spec PyProof.Rows L2

theorem now_reads {X : Cx} {pins : List (Addr × Obj)} {σ : L2.St} {H : Hp} {s : Shared} {C : CloT} (I : Inv X pins σ H s) {p : PV} {x : V} {u : Value} (n : Now X.K C H p x) (r1 : RelV x u) (d1 : p.isData = true) : ∃ as, Reads s.heap u p.toD as := by
  cases p with
  | lst ps =>
    obtain ⟨a, ys, rfl, sq, rl⟩ := n
    cases r1
    obtain ⟨its, rv2, ⟨o, m, ho, hc, hx, hd⟩, hz⟩ := I.list sq
    simp only [PV.isData] at d1
    obtain ⟨as, ra⟩ := RepL.reads I ps ys its rl rv2 d1
    exact ⟨_, by simp only [PV.toD]; exact .list ho hc hd ra⟩
  | dct ks ps => simp only [PV.isData] at d1; cases d1
  | dtt ks ps => simp only [PV.isData] at d1; cases d1
  | tix ps => simp only [PV.isData] at d1; cases d1
  | non => exact Rep.reads (C := C) I _ x u n r1 d1
  | bl _ => exact Rep.reads (C := C) I _ x u n r1 d1
  | int _ => exact Rep.reads (C := C) I _ x u n r1 d1
  | str _ => exact Rep.reads (C := C) I _ x u n r1 d1
  | tup _ => exact Rep.reads (C := C) I _ x u n r1 d1
  | clo _ => exact Rep.reads (C := C) I _ x u n r1 d1
  | fn _ => exact Rep.reads (C := C) I _ x u n r1 d1
  | err _ _ => exact Rep.reads (C := C) I _ x u n r1 d1
section
variable {X : Cx} {W : WX} {B : Bs} {pos : Pos}
def dNeC (dc : M Src) (db : M PV) : M Bool := fun s => (dc s).bind fun (c, s) => (db s).bind fun (q, s) => (optR (c.get s)).bind fun p => if okD p && okD q then .ok (!eqB p q, s) else .bad
@[simp] theorem e_NeC (dc : M Src) (db : M PV) (s : PSt) : dNeC dc db s = (dc s).bind fun (x : Src × PSt) => (db x.2).bind fun (y : PV × PSt) => (optR (x.1.get y.2)).bind fun p => if okD p && okD y.1 then .ok (!eqB p y.1, y.2) else .bad := rfl
theorem pxt_neC {a b : Expr} {dc : M Src} {db : M PV} (hu : X.A.units + 64 < cLine) (ha : PXC X W B a dc) (hb : PX X W B b db) (hm : behindInMarks .NotEq b = false) : PXT X W B (.Compare a [.NotEq] [b] pos) (dNeC dc db) := by
  refine ⟨fun pins s σ H Q I h => ?_⟩
  obtain ⟨s0, R, h⟩ := h
  have h' : tR X W B (rC X B) dc σ H fun x H1 => tR X W B (rV X B) db σ H1 fun y H2 => ∃ p q, Now X.K B.C H2 p x ∧ Rep X.K B.C H2 q y ∧ (okD p && okD q) = true ∧ Q (!eqB p q) H2 := by
    refine ⟨s0, R, tRa.bind (rep' := rB) h fun c s1 v H1 R1 x1 r1 q => ⟨s1, R1, tRa.bind (rep' := rB) q fun p s2 u H2 R2 x2 r2 q => ?_⟩⟩
    obtain ⟨t, et, q⟩ := optR_ok q
    have nw := src_now R2 (src_ext (s1 := s2) r1 x2) et
    split at q
    case isFalse => exact q.elim
    rename_i hf
    exact ⟨t, p, nw, r2, hf, q _ H2 R2 (Ext.refl H2) rfl⟩
  refine wpAny_isTrue_Compare1 (binT ha hb I h' fun v u s2 x y H2 I2 rx ry ⟨p, q, n1, r2, hf, k⟩ => ?_) hm
  rw [Bool.and_eq_true] at hf
  obtain ⟨d1, e1⟩ := okD_d hf.1
  obtain ⟨d2, e2⟩ := okD_d hf.2
  obtain ⟨as, ra⟩ := now_reads I2 n1 rx d1
  obtain ⟨bs, rb⟩ := Rep.reads I2 q y u r2 ry d2
  exact SeqAt.ne_plain ra rb (p.toD_plain d1) (q.toD_plain d2) (by omega) (wpAny_truthy_bool ⟨H2, I2, k⟩)
/-- [..] * j -/
def dMulC (a : M (List PV)) (j : Int) : M PV := fun s => (a s).bind fun (ps, s) => if times j && (Nat.ble ps.length 1000) then .ok (.lst (List.replicate j.toNat ps).flatten, s) else .bad
@[simp] theorem e_MulC (a : M (List PV)) (j : Int) (s : PSt) : dMulC a j s = (a s).bind fun (x : List PV × PSt) => if times j && (Nat.ble x.1.length 1000) then .ok (.lst (List.replicate j.toNat x.1).flatten, x.2) else .bad := rfl
theorem pf_mulC {es : List Expr} {da : M (List PV)} {j : Int} {n : Nat} {p2 p3 : Pos} (ha : PXA X W B es da) :
    PF X W B (.BinOp (.List es p2) .Mult (.Constant (.int j) n p3) pos) (dMulC da j) := by
  refine PE.weak (pe_op op_rep (pe_lst ha) (pe_int (pos := p3))) fun σ H Q ⟨s, R, q⟩ => ⟨s, R, tRa.bind (rep' := rF X B) q fun ps s1 vs H1 R1 x1 r1 q => ?_⟩
  dsimp only at q
  split at q
  case isFalse => exact (show False from q).elim
  rename_i hf
  rw [Bool.and_eq_true] at hf
  have h3 := times_le hf.1
  have h4 := Nat.le_of_ble_eq_true hf.2
  have hlen := r1.length
  refine ⟨by rw [hlen, sizeLine_eq]; omega, fun p hp => ⟨p, j, vs, rfl, rfl, upd_same, by omega, by omega, ?_, fun b hb => ?_⟩⟩
  · rw [hlen, sizeLine_eq]
    have : ps.length * j.toNat ≤ 1000 * 1000 := Nat.mul_le_mul h4 (by omega)
    omega
  · have hbp : b ≠ p := fun z => by subst z; rw [upd_same] at hb; cases hb
    have hb1 : H1 b = none := by rw [upd_ne hbp] at hb; exact hb
    have g1 : Grow H1 (upd H1 p (.lst vs)) := Grow.new hp
    have g2 : Grow H1 (upd (upd H1 p (.lst vs)) b (.lst (List.replicate j.toNat vs).flatten)) := fun z o e => Grow.new hb _ _ (g1 _ _ e)
    exact newF R1 hb1 g2.ext g2 upd_same (RepL.ext g2.ext _ _ (r1.rep _)) q
end
end VL
set_option Elab.async false
set_option linter.all false
set_option maxRecDepth 100000
set_option maxHeartbeats 0
namespace HD
open PySem PySem.Spec PyProof.Rows L2
def top (i : Nat) : Stmt := PySem.Challenge.pw_mountedintime_k62_whole_wear_at_sizes.main.body.getD i (.Pass ⟨0, 0, 0, 0⟩)
abbrev s_is_tuple : Stmt := top 1
abbrev s_is_whole : Stmt := top 2
abbrev s_is_integer : Stmt := top 3
abbrev s_is_rising : Stmt := top 4
abbrev s_is_copy : Stmt := top 16
abbrev s_check_wear : Stmt := top 17
abbrev s_is_choice : Stmt := top 18
abbrev s_loads : Stmt := top 19
abbrev s_reached : Stmt := top 20
abbrev s_moved : Stmt := top 21
abbrev s_better : Stmt := top 22
abbrev s_even_of : Stmt := top 23
abbrev s_even_choice : Stmt := top 24
abbrev s_is_even : Stmt := top 25
abbrev s_chain : Stmt := top 26
abbrev s_lot_for : Stmt := top 27
abbrev s_least_wear : Stmt := top 28
abbrev s_asks_for : Stmt := top 29
abbrev s_check_lot : Stmt := top 30
abbrev s_needs : Stmt := top 31
abbrev s_shows_least : Stmt := top 32
abbrev s__law_pot : Stmt := top 34
abbrev s__law_take : Stmt := top 35
abbrev s__law_of : Stmt := top 36
abbrev s__law_places : Stmt := top 37
abbrev s__law_some : Stmt := top 38
abbrev s__law_loads : Stmt := top 39
abbrev s__law_drawn : Stmt := top 40
abbrev s__law_room : Stmt := top 41
abbrev s__law_right : Stmt := top 42
abbrev s_law : Stmt := top 43
abbrev s_TapeError___init__ : Stmt := inClass (top 6) 0
def d_is_tuple : He.DefD := ⟨("is_tuple", none), "is_tuple", "is_tuple", defArgs s_is_tuple, defBody s_is_tuple, defScope s_is_tuple, [], []⟩
def d_is_whole : He.DefD := ⟨("is_whole", none), "is_whole", "is_whole", defArgs s_is_whole, defBody s_is_whole, defScope s_is_whole, [], []⟩
def d_is_integer : He.DefD := ⟨("is_integer", none), "is_integer", "is_integer", defArgs s_is_integer, defBody s_is_integer, defScope s_is_integer, [], []⟩
def d_is_rising : He.DefD := ⟨("is_rising", none), "is_rising", "is_rising", defArgs s_is_rising, defBody s_is_rising, defScope s_is_rising, [], []⟩
def d_is_copy : He.DefD := ⟨("is_copy", none), "is_copy", "is_copy", defArgs s_is_copy, defBody s_is_copy, defScope s_is_copy, [], []⟩
def d_check_wear : He.DefD := ⟨("check_wear", none), "check_wear", "check_wear", defArgs s_check_wear, defBody s_check_wear, defScope s_check_wear, [], []⟩
def d_is_choice : He.DefD := ⟨("is_choice", none), "is_choice", "is_choice", defArgs s_is_choice, defBody s_is_choice, defScope s_is_choice, [], []⟩
def d_loads : He.DefD := ⟨("loads", none), "loads", "loads", defArgs s_loads, defBody s_loads, defScope s_loads, [], []⟩
def d_reached : He.DefD := ⟨("reached", none), "reached", "reached", defArgs s_reached, defBody s_reached, defScope s_reached, [], []⟩
def d_moved : He.DefD := ⟨("moved", none), "moved", "moved", defArgs s_moved, defBody s_moved, defScope s_moved, [], []⟩
def d_better : He.DefD := ⟨("better", none), "better", "better", defArgs s_better, defBody s_better, defScope s_better, [], []⟩
def d_even_of : He.DefD := ⟨("even_of", none), "even_of", "even_of", defArgs s_even_of, defBody s_even_of, defScope s_even_of, [], []⟩
def d_even_choice : He.DefD := ⟨("even_choice", none), "even_choice", "even_choice", defArgs s_even_choice, defBody s_even_choice, defScope s_even_choice, [], []⟩
def d_is_even : He.DefD := ⟨("is_even", none), "is_even", "is_even", defArgs s_is_even, defBody s_is_even, defScope s_is_even, [], []⟩
def d_chain : He.DefD := ⟨("chain", none), "chain", "chain", defArgs s_chain, defBody s_chain, defScope s_chain, [], []⟩
def d_lot_for : He.DefD := ⟨("lot_for", none), "lot_for", "lot_for", defArgs s_lot_for, defBody s_lot_for, defScope s_lot_for, [], []⟩
def d_least_wear : He.DefD := ⟨("least_wear", none), "least_wear", "least_wear", defArgs s_least_wear, defBody s_least_wear, defScope s_least_wear, [], []⟩
def d_asks_for : He.DefD := ⟨("asks_for", none), "asks_for", "asks_for", defArgs s_asks_for, defBody s_asks_for, defScope s_asks_for, [], []⟩
def d_check_lot : He.DefD := ⟨("check_lot", none), "check_lot", "check_lot", defArgs s_check_lot, defBody s_check_lot, defScope s_check_lot, [], []⟩
def d_needs : He.DefD := ⟨("needs", none), "needs", "needs", defArgs s_needs, defBody s_needs, defScope s_needs, [], []⟩
def d_shows_least : He.DefD := ⟨("shows_least", none), "shows_least", "shows_least", defArgs s_shows_least, defBody s_shows_least, defScope s_shows_least, [], []⟩
def d__law_pot : He.DefD := ⟨("_law_pot", none), "_law_pot", "_law_pot", defArgs s__law_pot, defBody s__law_pot, defScope s__law_pot, [], []⟩
def d__law_take : He.DefD := ⟨("_law_take", none), "_law_take", "_law_take", defArgs s__law_take, defBody s__law_take, defScope s__law_take, [], []⟩
def d__law_of : He.DefD := ⟨("_law_of", none), "_law_of", "_law_of", defArgs s__law_of, defBody s__law_of, defScope s__law_of, [], []⟩
def d__law_places : He.DefD := ⟨("_law_places", none), "_law_places", "_law_places", defArgs s__law_places, defBody s__law_places, defScope s__law_places, [], []⟩
def d__law_some : He.DefD := ⟨("_law_some", none), "_law_some", "_law_some", defArgs s__law_some, defBody s__law_some, defScope s__law_some, [], []⟩
def d__law_loads : He.DefD := ⟨("_law_loads", none), "_law_loads", "_law_loads", defArgs s__law_loads, defBody s__law_loads, defScope s__law_loads, [], []⟩
def d__law_drawn : He.DefD := ⟨("_law_drawn", none), "_law_drawn", "_law_drawn", defArgs s__law_drawn, defBody s__law_drawn, defScope s__law_drawn, [], []⟩
def d__law_room : He.DefD := ⟨("_law_room", none), "_law_room", "_law_room", defArgs s__law_room, defBody s__law_room, defScope s__law_room, [], []⟩
def d__law_right : He.DefD := ⟨("_law_right", none), "_law_right", "_law_right", defArgs s__law_right, defBody s__law_right, defScope s__law_right, [], []⟩
def d_law : He.DefD := ⟨("law", none), "law", "law", defArgs s_law, defBody s_law, defScope s_law, [], []⟩
def d_TapeError___init__ : He.DefD := ⟨("TapeError", some "__init__"), "__init__", "TapeError.__init__", defArgs s_TapeError___init__, defBody s_TapeError___init__, defScope s_TapeError___init__, [], []⟩
def fn : List He.DefD := [d_is_tuple, d_is_whole, d_is_integer, d_is_rising, d_is_copy, d_check_wear, d_is_choice, d_loads, d_reached, d_moved, d_better, d_even_of, d_even_choice, d_is_even, d_chain, d_lot_for, d_least_wear, d_asks_for, d_check_lot, d_needs, d_shows_least, d__law_pot, d__law_take, d__law_of, d__law_places, d__law_some, d__law_loads, d__law_drawn, d__law_room, d__law_right, d_law, d_TapeError___init__]
def fa : List He.Fa := [.glo "is_tuple", .glo "is_whole", .glo "is_integer", .glo "is_rising", .glo "is_copy", .glo "check_wear", .glo "is_choice", .glo "loads", .glo "reached", .glo "moved", .glo "better", .glo "even_of", .glo "even_choice", .glo "is_even", .glo "chain", .glo "lot_for", .glo "least_wear", .glo "asks_for", .glo "check_lot", .glo "needs", .glo "shows_least", .glo "_law_pot", .glo "_law_take", .glo "_law_of", .glo "_law_places", .glo "_law_some", .glo "_law_loads", .glo "_law_drawn", .glo "_law_room", .glo "_law_right", .glo "law", .glo "TapeError", .glo "BadWear", .glo "BadCopies", .glo "BadLot", .free "ValueError", .free "abs", .free "all", .free "bool", .free "enumerate", .free "int", .free "isinstance", .free "len", .free "list", .free "max", .free "min", .free "range", .free "repr", .free "set", .free "sorted", .free "sum", .free "tuple", .free "zip", .int "MOST_TAPES" 12, .int "MOST_ASKS" 20, .int "MOST_WEAR" 1000000, .int "PAIR" 2, .int "TRIPLE" 3]
abbrev R : PySem.W.OpenRow := PySem.W.OpenLaw.row PySem.Challenge.rw_mountedintime_k62_whole_wear_at_sizes
def loose0 : List PySem.Str := ["is_tuple", "is_whole", "is_integer", "is_rising", "TapeError", "BadWear", "BadCopies", "BadLot", "MOST_TAPES", "MOST_ASKS", "MOST_WEAR", "PAIR", "TRIPLE", "is_copy", "check_wear", "is_choice"]
def loose1 : List PySem.Str := ["loads", "reached", "moved", "better", "even_of", "even_choice", "is_even", "chain", "lot_for", "least_wear", "asks_for", "check_lot", "needs", "shows_least", "_law_pot", "_law_take"]
def loose2 : List PySem.Str := ["_law_of", "_law_places", "_law_some", "_law_loads", "_law_drawn", "_law_room", "_law_right"]
abbrev loose : List PySem.Str := loose0 ++ loose1 ++ loose2
def tf : List He.Defn := []
abbrev errs : List Str := ["TapeError", "BadWear", "BadCopies", "BadLot"]
def sub (x y : Str) : Bool := decide (x = y) || [(("BadWear" : Str), ("TapeError" : Str)), (("BadCopies" : Str), ("TapeError" : Str)), (("BadLot" : Str), ("TapeError" : Str))].any fun p => decide (p.1 = x) && decide (p.2 = y)
def ex (K : PySem.W.Frag) : Bool := VL.errsB errs sub K && VL.tabsNe tf K
abbrev hk : PySem.W.Hook := He.hookX 5 fa fn [] tf ex
def ob (s : PySem.W.SharedT) : He.AlX := He.obsX 5 fa fn [] tf ex (HandSHeadRun.getT s)
theorem ob_eq (s : PySem.W.SharedT) : ob s = hk.obs s.abs := He.obsX_eq (HandSHeadRun.getT_eq s)
theorem run (w : World) : HandSHeadRun.RunEq R (PySem.W.view R.prog [43]) hk ob 4000 loose w := by
  intro os
  kernel_rfl
end HD
namespace LW
open PySem PySem.Spec PyProof.Rows L2 VL HD
variable {P : Program} {w : World} {K : PySem.W.Frag} {mg : Str → Option Value} {base : Heap}
abbrev TT (K : PySem.W.Frag) : List (Addr × Str) := tf.map fun p => ((He.cT K p).2, p.1 ++ ".<locals>." ++ "<lambda>")
theorem sc_init : FnScope ["self", "value"] ["self", "value"] (defScope s_TapeError___init__) := ⟨rfl, rfl, rfl, by decide +kernel, rfl, by decide +kernel, by decide +kernel⟩
theorem ok_init (E : HE fa fn K mg base) (ek : ErrsK errs sub K) : OkI P w K mg base 1 := by
  obtain ⟨fd, F⟩ := E.c.def_ 31 (d := d_TapeError___init__) rfl
  refine ⟨fd, F.ok (N := ["self", "value"]) sc_init (fun vs H Q E h => by obtain ⟨a, C, y, rfl, _⟩ := h; rfl) (fun cdv A outer s H vs Q Ex hr h => init_body rfl rfl (.inl rfl) (.inl rfl) rfl (E.free 35 rfl) ek.vV h ⟨_, rfl⟩ rfl rfl), ?_⟩
  exact FunD.bindsN (ps := ["self", "value"]) F (fun _ _ _ _ _ _ us hl => match us, hl with | [_, _], _ => rfl)
theorem errAll (E : HE fa fn K mg base) (ek : ErrsK errs sub K) : ErrAll errs sub P w K mg base :=
  ⟨ek, (List.forall_mem_cons.mpr ⟨(E.glo 31 rfl), (List.forall_mem_cons.mpr ⟨(E.glo 32 rfl), (List.forall_mem_cons.mpr ⟨(E.glo 33 rfl), (List.forall_mem_cons.mpr ⟨(E.glo 34 rfl), (fun _ h => nomatch h)⟩)⟩)⟩)⟩), (E.glo 31 rfl), ok_init E ek⟩

abbrev N__law_places : List Str := ["script", "most"]
theorem sc__law_places : FnScope N__law_places ["script", "most"] (defScope s__law_places) := ⟨rfl, rfl, rfl, by decide +kernel, rfl, by decide +kernel, by decide +kernel⟩
abbrev S__law_places_0 : M Fl := (dRet (dListRange (d2i max2 (dC (.int 1)) (d2i min2 (dVar 1) (dC1 lenV (dSlot 0))))))
abbrev D__law_places : M Fl := S__law_places_0
abbrev F__law_places : Fn := dFn false N__law_places.length D__law_places
theorem ok__law_places (E : HE fa fn K mg base) (EA : ErrAll errs sub P w K mg base) (C : CloT) (T : List (Addr × Str)) : OkD P w K mg base 3 "_law_places" false 2 C T F__law_places := by
  obtain ⟨fd, F⟩ := E.c.def_ 24 (d := d__law_places) rfl
  exact okV (N := N__law_places) (ps := ["script", "most"]) F (E.glo 24 rfl) sc__law_places rfl (fun _ _ _ _ _ _ us hl => match us, hl with | [_, _], _ => rfl) fun cdv A outer s H Ex B hC hT v po =>
   (pxb_one (pxs_ret (PF.px (pf_listRange v.calm rfl (E.free 43 rfl) rfl (E.free 46 rfl) (px_max2 v.calm rfl (E.free 44 rfl) px_int (px_min2 v.calm rfl (E.free 45 rfl) (px_var (i := 1) rfl (.inl rfl)) (px_b1 c1_len n1_len rfl (E.free 42 rfl) (by decide +kernel) (pxc_slot (i := 0) rfl (.inl rfl)))))))))

abbrev N__law_pot : List Str := ["script", "place", "cell", "own", "small"]
theorem sc__law_pot : FnScope N__law_pot ["script", "place"] (defScope s__law_pot) := ⟨rfl, rfl, rfl, by decide +kernel, rfl, by decide +kernel, by decide +kernel⟩
abbrev S__law_pot_0 : M Fl := (dAsg (gNm 2) (dIfE (dTst (dBin ltV (dVar 1) (dC1 lenV (dSlot 0)))) (dGet (dSlot 0) (dVar 1)) (dBin addV (dBin addV (dBin modV (dC1 sumL (dVal (dCut (dSlot 0) dNo (dPart (dC (.int 1)))))) (dC (.int 1000003))) (dBin mulV (dC (.int 10345)) (dVar 1))) (dC (.int 493)))))
abbrev S__law_pot_1 : M Fl := (dAsg (gNm 3) (dBin mulV (dBin modV (dC1 intV (dVal (dC1 absV' (dSlot 2)))) (dBin powV (dBin powV (dC (.int 10)) (dC (.int 60))) (dC (.int 5)))) (dC1 intV (dVal (dBin geV (dC1 absV' (dSlot 2)) (dBin powV (dC (.int 10)) (dC (.int 18))))))))
abbrev S__law_pot_2 : M Fl := (dAsg (gNm 4) (dBin modV (dC1 intV (dSlot 2)) (dC (.int 2305843009213693951))))
abbrev S__law_pot_3 : M Fl := (dRetF (dLst (dCons (dVar 3) (dCons (dBin modV (dC1 intV (dVal (dBin addV (dBin addV (dBin mulV (dVar 4) (dC (.int 98211))) (dBin mulV (dBin mulV (dC (.int 14871)) (dVar 1)) (dVar 1))) (dC (.int 900))))) (dC (.int 2305843009213693921))) (dCons (dC (.int 0)) dNil)))))
abbrev D__law_pot : M Fl := (dSeq S__law_pot_0
  (dSeq S__law_pot_1
  (dSeq S__law_pot_2
  S__law_pot_3)))
abbrev F__law_pot : Fn := dFn false N__law_pot.length D__law_pot
theorem ok__law_pot (E : HE fa fn K mg base) (EA : ErrAll errs sub P w K mg base) (C : CloT) (T : List (Addr × Str)) : OkD P w K mg base 3 "_law_pot" false 2 C T F__law_pot := by
  obtain ⟨fd, F⟩ := E.c.def_ 21 (d := d__law_pot) rfl
  exact okV (N := N__law_pot) (ps := ["script", "place"]) F (E.glo 21 rfl) sc__law_pot rfl (fun _ _ _ _ _ _ us hl => match us, hl with | [_, _], _ => rfl) fun cdv A outer s H Ex B hC hT v po =>
   (pxb_cons (pxs_set (i := 2) sc__law_pot.nd rfl (.inl rfl) (px_ife (pxt_cmp (opv_lt v.room.units) ne_lt (px_var (i := 1) rfl (.inl rfl)) (px_b1 c1_len n1_len rfl (E.free 42 rfl) (by decide +kernel) (pxc_slot (i := 0) rfl (.inl rfl))) (nomark _)) (px_get (u1 v.room.units) (pxc_slot (i := 0) rfl (.inl rfl)) (px_var (i := 1) rfl (.inl rfl)) (fun _ _ => rfl)) (px_bin opv_add ne_add (px_bin opv_add ne_add (px_bin opv_mod ne_mod (px_b1 (c1_sum' v.calm) n1_sum' rfl (E.free 50 rfl) (by decide +kernel) (pxc_val (px_cut (pxc_slot (i := 0) rfl (.inl rfl)) pxo_none (pxo_some px_int)))) px_int) (px_bin opv_mul ne_mul px_int (px_var (i := 1) rfl (.inl rfl)))) px_int)))
  (pxb_cons (pxs_set (i := 3) sc__law_pot.nd rfl (.inl rfl) (px_bin opv_mul ne_mul (px_bin opv_mod ne_mod (px_t1 c1_int n1_int rfl (E.free 40 rfl) (by decide +kernel) (pxc_val (px_b1 c1_abs n1_abs rfl (E.free 36 rfl) (by decide +kernel) (pxc_slot (i := 2) rfl (.inl rfl))))) (px_bin opv_pow ne_pow (px_bin opv_pow ne_pow px_int px_int) px_int)) (px_t1 c1_int n1_int rfl (E.free 40 rfl) (by decide +kernel) (pxc_val (px_cmp (opv_ge v.room.units) ne_ge (px_b1 c1_abs n1_abs rfl (E.free 36 rfl) (by decide +kernel) (pxc_slot (i := 2) rfl (.inl rfl))) (px_bin opv_pow ne_pow px_int px_int) (nomark _))))))
  (pxb_cons (pxs_set (i := 4) sc__law_pot.nd rfl (.inl rfl) (px_bin opv_mod ne_mod (px_t1 c1_int n1_int rfl (E.free 40 rfl) (by decide +kernel) (pxc_slot (i := 2) rfl (.inl rfl))) px_int))
  (pxb_one (pxs_retF (pf_lst (pxa_cons (px_var (i := 3) rfl (.inl rfl)) (pxa_cons (px_bin opv_mod ne_mod (px_t1 c1_int n1_int rfl (E.free 40 rfl) (by decide +kernel) (pxc_val (px_bin opv_add ne_add (px_bin opv_add ne_add (px_bin opv_mul ne_mul (px_var (i := 4) rfl (.inl rfl)) px_int) (px_bin opv_mul ne_mul (px_bin opv_mul ne_mul px_int (px_var (i := 1) rfl (.inl rfl))) (px_var (i := 1) rfl (.inl rfl)))) px_int))) px_int) (pxa_cons px_int pxa_nil)))))))))

abbrev N__law_take : List Str := ["pot", "upto", "digit", "prime", "blend"]
theorem sc__law_take : FnScope N__law_take ["pot", "upto"] (defScope s__law_take) := ⟨rfl, rfl, rfl, by decide +kernel, rfl, by decide +kernel, by decide +kernel⟩
abbrev S__law_take_0 : M Fl := (dIf (dTst (dBin gtV (dGet (dSlot 0) (dC (.int 0))) (dC (.int 0)))) (dSeq (dAsg (gNm 2) (dBin modV (dC1 intV (dVal (dGet (dSlot 0) (dC (.int 0))))) (dVar 1)))
  (dSeq (dPut 0 (dC (.int 0)) (dBin fdivV (dGet (dSlot 0) (dC (.int 0))) (dVar 1)))
  (dRet (dVar 2)))) dNx)
abbrev S__law_take_1 : M Fl := (dPut 0 (dC (.int 2)) (dBin addV (dGet (dSlot 0) (dC (.int 2))) (dC (.int 1))))
abbrev S__law_take_2 : M Fl := (dAsg (gNm 3) (dGet (dVal (dLst (dCons (dC (.int 2147483647)) (dCons (dC (.int 2147483629)) (dCons (dC (.int 2147483587)) (dCons (dC (.int 2147483579)) (dCons (dC (.int 2147483563)) dNil))))))) (dBin modV (dC1 intV (dVal (dGet (dSlot 0) (dC (.int 2))))) (dC (.int 5)))))
abbrev S__law_take_3 : M Fl := (dAsg (gNm 4) (dBin modV (dC1 intV (dVal (dBin powV (dC1 intV (dVal (dBin addV (dBin addV (dGet (dSlot 0) (dC (.int 1))) (dBin mulV (dBin mulV (dC (.int 94868)) (dGet (dSlot 0) (dC (.int 2)))) (dGet (dSlot 0) (dC (.int 2))))) (dC (.int 700))))) (dC (.int 3))))) (dVar 3)))
abbrev S__law_take_4 : M Fl := (dAsg (gNm 4) (dBin modV (dC1 intV (dVal (dBin mulV (dVar 4) (dBin addV (dBin modV (dC1 intV (dSlot 4)) (dC (.int 10259))) (dBin mulV (dC (.int 122)) (dGet (dSlot 0) (dC (.int 2)))))))) (dC (.int 2305843009213693907))))
abbrev S__law_take_5 : M Fl := (dRet (dBin modV (dC1 intV (dVal (dBin fdivV (dVar 4) (dC (.int 152))))) (dVar 1)))
abbrev D__law_take : M Fl := (dSeq S__law_take_0
  (dSeq S__law_take_1
  (dSeq S__law_take_2
  (dSeq S__law_take_3
  (dSeq S__law_take_4
  S__law_take_5)))))
abbrev F__law_take : Fn := dFn true N__law_take.length D__law_take
theorem ok__law_take (E : HE fa fn K mg base) (EA : ErrAll errs sub P w K mg base) (C : CloT) (T : List (Addr × Str)) : OkD P w K mg base 3 "_law_take" true 2 C T F__law_take := by
  obtain ⟨fd, F⟩ := E.c.def_ 22 (d := d__law_take) rfl
  exact okV (N := N__law_take) (ps := ["pot", "upto"]) F (E.glo 22 rfl) sc__law_take rfl (fun _ _ _ _ _ _ us hl => match us, hl with | [_, _], _ => rfl) fun cdv A outer s H Ex B hC hT v po =>
   (pxb_cons (pxs_if (pxt_cmp (opv_gt v.room.units) ne_gt (px_get (u1 v.room.units) (pxc_slot (i := 0) rfl (.inl rfl)) px_int (fun _ _ => rfl)) px_int (nomark _)) (pxb_cons (pxs_set (i := 2) sc__law_take.nd rfl (.inl rfl) (px_bin opv_mod ne_mod (px_t1 c1_int n1_int rfl (E.free 40 rfl) (by decide +kernel) (pxc_val (px_get (u1 v.room.units) (pxc_slot (i := 0) rfl (.inl rfl)) px_int (fun _ _ => rfl)))) (px_var (i := 1) rfl (.inl rfl))))
  (pxb_cons (pxs_put (i := 0) (u1 v.room.units) rfl (.inl rfl) px_int (px_bin opv_fdiv ne_fdiv (px_get (u1 v.room.units) (pxc_slot (i := 0) rfl (.inl rfl)) px_int (fun _ _ => rfl)) (px_var (i := 1) rfl (.inl rfl))))
  (pxb_one (pxs_ret (px_var (i := 2) rfl (.inl rfl)))))) pxb_nil)
  (pxb_cons (pxs_put (i := 0) (u1 v.room.units) rfl (.inl rfl) px_int (px_bin opv_add ne_add (px_get (u1 v.room.units) (pxc_slot (i := 0) rfl (.inl rfl)) px_int (fun _ _ => rfl)) px_int))
  (pxb_cons (pxs_set (i := 3) sc__law_take.nd rfl (.inl rfl) (px_get (u1 v.room.units) (pxc_val (PF.px (pf_lst (pxa_cons px_int (pxa_cons px_int (pxa_cons px_int (pxa_cons px_int (pxa_cons px_int pxa_nil)))))))) (px_bin opv_mod ne_mod (px_t1 c1_int n1_int rfl (E.free 40 rfl) (by decide +kernel) (pxc_val (px_get (u1 v.room.units) (pxc_slot (i := 0) rfl (.inl rfl)) px_int (fun _ _ => rfl)))) px_int) (fun _ _ => rfl)))
  (pxb_cons (pxs_set (i := 4) sc__law_take.nd rfl (.inl rfl) (px_bin opv_mod ne_mod (px_t1 c1_int n1_int rfl (E.free 40 rfl) (by decide +kernel) (pxc_val (px_bin opv_pow ne_pow (px_t1 c1_int n1_int rfl (E.free 40 rfl) (by decide +kernel) (pxc_val (px_bin opv_add ne_add (px_bin opv_add ne_add (px_get (u1 v.room.units) (pxc_slot (i := 0) rfl (.inl rfl)) px_int (fun _ _ => rfl)) (px_bin opv_mul ne_mul (px_bin opv_mul ne_mul px_int (px_get (u1 v.room.units) (pxc_slot (i := 0) rfl (.inl rfl)) px_int (fun _ _ => rfl))) (px_get (u1 v.room.units) (pxc_slot (i := 0) rfl (.inl rfl)) px_int (fun _ _ => rfl)))) px_int))) px_int))) (px_var (i := 3) rfl (.inl rfl))))
  (pxb_cons (pxs_set (i := 4) sc__law_take.nd rfl (.inl rfl) (px_bin opv_mod ne_mod (px_t1 c1_int n1_int rfl (E.free 40 rfl) (by decide +kernel) (pxc_val (px_bin opv_mul ne_mul (px_var (i := 4) rfl (.inl rfl)) (px_bin opv_add ne_add (px_bin opv_mod ne_mod (px_t1 c1_int n1_int rfl (E.free 40 rfl) (by decide +kernel) (pxc_slot (i := 4) rfl (.inl rfl))) px_int) (px_bin opv_mul ne_mul px_int (px_get (u1 v.room.units) (pxc_slot (i := 0) rfl (.inl rfl)) px_int (fun _ _ => rfl))))))) px_int))
  (pxb_one (pxs_ret (px_bin opv_mod ne_mod (px_t1 c1_int n1_int rfl (E.free 40 rfl) (by decide +kernel) (pxc_val (px_bin opv_fdiv ne_fdiv (px_var (i := 4) rfl (.inl rfl)) px_int))) (px_var (i := 1) rfl (.inl rfl))))))))))

abbrev N__law_of : List Str := ["pot", "some"]
theorem sc__law_of : FnScope N__law_of ["pot", "some"] (defScope s__law_of) := ⟨rfl, rfl, rfl, by decide +kernel, rfl, by decide +kernel, by decide +kernel⟩
abbrev S__law_of_0 : M Fl := (dRet (dGet (dSlot 1) (asSh (dCallI 0 2 F__law_take (dCons (dC1 lenV (dSlot 1)) dNil)))))
abbrev D__law_of : M Fl := S__law_of_0
abbrev F__law_of : Fn := dFn true N__law_of.length D__law_of
theorem ok__law_of (E : HE fa fn K mg base) (EA : ErrAll errs sub P w K mg base) (C : CloT) (T : List (Addr × Str)) : OkD P w K mg base 4 "_law_of" true 2 C T F__law_of := by
  obtain ⟨fd, F⟩ := E.c.def_ 23 (d := d__law_of) rfl
  exact okV (N := N__law_of) (ps := ["pot", "some"]) F (E.glo 23 rfl) sc__law_of rfl (fun _ _ _ _ _ _ us hl => match us, hl with | [_, _], _ => rfl) fun cdv A outer s H Ex B hC hT v po =>
   (pxb_one (pxs_ret (px_get (u1 v.room.units) (pxc_slot (i := 1) rfl (.inl rfl)) (PXL.sh (pxl_callI (i := 0) (OkD.dn (ok__law_take E EA B.C B.T) rfl) v (by decide) rfl (.inl rfl) (pxa_cons (px_b1 c1_len n1_len rfl (E.free 42 rfl) (by decide +kernel) (pxc_slot (i := 1) rfl (.inl rfl))) pxa_nil))) (fun _ _ => rfl))))

abbrev N__law_some : List Str := ["pot", "pool", "many", "rests", "found", "lap"]
theorem sc__law_some : FnScope N__law_some ["pot", "pool", "many"] (defScope s__law_some) := ⟨rfl, rfl, rfl, by decide +kernel, rfl, by decide +kernel, by decide +kernel⟩
abbrev B__law_some_0 : M Fl := (dExpr (dApp 4 (dPop 3 (asSh (dCallI 0 2 F__law_take (dCons (dC1 lenV (dSlot 3)) dNil))))))
abbrev S__law_some_0 : M Fl := (dPar 3 4 (dFr (dC1F listV (dSlot 1))) (dFr (dLst dNil)))
abbrev S__law_some_1 : M Fl := (dFor (dRange1 (dVar 2)) (gNm 5) B__law_some_0)
abbrev S__law_some_2 : M Fl := (dRet (dVar 4))
abbrev D__law_some : M Fl := (dSeq S__law_some_0
  (dSeq S__law_some_1
  S__law_some_2))
abbrev F__law_some : Fn := dFn true N__law_some.length D__law_some
theorem ok__law_some (E : HE fa fn K mg base) (EA : ErrAll errs sub P w K mg base) (C : CloT) (T : List (Addr × Str)) : OkD P w K mg base 4 "_law_some" true 3 C T F__law_some := by
  obtain ⟨fd, F⟩ := E.c.def_ 25 (d := d__law_some) rfl
  exact okV (N := N__law_some) (ps := ["pot", "pool", "many"]) F (E.glo 25 rfl) sc__law_some rfl (fun _ _ _ _ _ _ us hl => match us, hl with | [_, _, _], _ => rfl) fun cdv A outer s H Ex B hC hT v po =>
   (pxb_cons (pxs_par (i := 3) (j := 4) v.calm sc__law_some.nd rfl rfl (by decide) rfl rfl (pxl_fr (pf_t1 c1_list n1_list rfl (E.free 43 rfl) (by decide +kernel) (pxc_slot (i := 1) rfl (.inl rfl)))) (fun _ => (pxl_fr (pf_lst pxa_nil))) rfl)
  (pxb_cons (pxs_for po v.calm nog_nm (pxi_range1 rfl (E.free 46 rfl) (px_var (i := 2) rfl (.inl rfl))) (pxg_name (i := 5) sc__law_some.nd rfl (.inl rfl)) (pxb_one (pxs_expr (px_app (i := 4) rfl (.inl rfl) (px_pop (i := 3) rfl (.inl rfl) (PXL.sh (pxl_callI (i := 0) (OkD.dn (ok__law_take E EA B.C B.T) rfl) v (by decide) rfl (.inl rfl) (pxa_cons (px_b1 c1_len n1_len rfl (E.free 42 rfl) (by decide +kernel) (pxc_slot (i := 3) rfl (.inl rfl))) pxa_nil))))))))
  (pxb_one (pxs_ret (px_var (i := 4) rfl (.inl rfl))))))

abbrev N__law_drawn : List Str := ["pot", "wear", "copies", "ask", "tape"]
theorem sc__law_drawn : FnScope N__law_drawn ["pot"] (defScope s__law_drawn) := ⟨rfl, rfl, rfl, by decide +kernel, rfl, by decide +kernel, by decide +kernel⟩
abbrev E__law_drawn_0 : M PV := (asSh (dCallI 0 2 F__law_take (dCons (asSh (dCallI 0 2 F__law_of (dCons (dLst (dCons (dC (.int 2)) (dCons (dC (.int 6)) dNil))) dNil))) dNil)))
abbrev B__law_drawn_0 : M Fl := (dExpr (dApp 2 (dC1 tupleV (dVal (dC1F sortL (dVal (asSh (dCallI 0 3 F__law_some (dCons (dListRange (asSh (dCallI 0 2 F__law_of (dCons (dLst (dCons (dC (.int 3)) (dCons (dC (.int 12)) dNil))) dNil)))) (dCons (dBin addV (dC (.int 1)) (asSh (dCallI 0 2 F__law_take (dCons (dC (.int 3)) dNil)))) dNil))))))))))
abbrev S__law_drawn_0 : M Fl := (dAsg (gNm 1) (dC1 tupleV (dVal (dLc [4] (dRange1 (dC (.int 12))) (gNm 4) dYes E__law_drawn_0))))
abbrev S__law_drawn_1 : M Fl := (dOwn 2 (dLst dNil))
abbrev S__law_drawn_2 : M Fl := (dFor (dRange1 (dC (.int 20))) (gNm 3) B__law_drawn_0)
abbrev S__law_drawn_3 : M Fl := (dRet (dTup (dCons (dVar 1) (dCons (dC1 tupleV (dSlot 2)) dNil))))
abbrev D__law_drawn : M Fl := (dSeq S__law_drawn_0
  (dSeq S__law_drawn_1
  (dSeq S__law_drawn_2
  S__law_drawn_3)))
abbrev F__law_drawn : Fn := dFn true N__law_drawn.length D__law_drawn
theorem ok__law_drawn (E : HE fa fn K mg base) (EA : ErrAll errs sub P w K mg base) (C : CloT) (T : List (Addr × Str)) : OkD P w K mg base 5 "_law_drawn" true 1 C T F__law_drawn := by
  obtain ⟨fd, F⟩ := E.c.def_ 27 (d := d__law_drawn) rfl
  exact okV (N := N__law_drawn) (ps := ["pot"]) F (E.glo 27 rfl) sc__law_drawn rfl (fun _ _ _ _ _ _ us hl => match us, hl with | [_], _ => rfl) fun cdv A outer s H Ex B hC hT v po =>
   (pxb_cons (pxs_set (i := 1) sc__law_drawn.nd rfl (.inl rfl) (px_t1 c1_tuple n1_tuple rfl (E.free 51 rfl) (by decide +kernel) (pxc_val (PF.px (pf_lc (own := [("tape", 4)]) v.calm sc__law_drawn.nd (pxi_range1 rfl (E.free 46 rfl) px_int) (blkOk_by (by kernel_rfl)) (fun _ _ _ _ _ _ => (pxh_name (i := 4) (by decide) sc__law_drawn.nd rfl (.inl rfl))) (fun _ _ _ _ _ _ => pxts_nil) (fun _ _ _ _ _ _ => (PXL.sh (pxl_callI (i := 0) (OkD.dn (ok__law_take E EA B.C B.T) rfl) (v.blk _ _ _ _ _ _) (by decide) rfl (.inr (.inl rfl)) (pxa_cons (PXL.sh (pxl_callI (i := 0) (OkD.dn (ok__law_of E EA B.C B.T) rfl) (v.blk _ _ _ _ _ _) (by decide) rfl (.inr (.inl rfl)) (pxa_cons (PF.px (pf_lst (pxa_cons px_int (pxa_cons px_int pxa_nil)))) pxa_nil))) pxa_nil)))))))))
  (pxb_cons (pxs_own (i := 2) sc__law_drawn.nd rfl (.inl rfl) (pf_lst pxa_nil))
  (pxb_cons (pxs_for po v.calm nog_nm (pxi_range1 rfl (E.free 46 rfl) px_int) (pxg_name (i := 3) sc__law_drawn.nd rfl (.inl rfl)) (pxb_one (pxs_expr (px_app (i := 2) rfl (.inl rfl) (px_t1 c1_tuple n1_tuple rfl (E.free 51 rfl) (by decide +kernel) (pxc_val (PF.px (pf_b1 (c1_sorted' v.room.units) n1_sorted' rfl (E.free 49 rfl) (by decide +kernel) (pxc_val (PXL.sh (pxl_callI (i := 0) (OkD.dn (ok__law_some E EA B.C B.T) rfl) v (by decide) rfl (.inr (.inl rfl)) (pxa_cons (PF.px (pf_listRange v.calm rfl (E.free 43 rfl) rfl (E.free 46 rfl) (PXL.sh (pxl_callI (i := 0) (OkD.dn (ok__law_of E EA B.C B.T) rfl) v (by decide) rfl (.inr (.inl rfl)) (pxa_cons (PF.px (pf_lst (pxa_cons px_int (pxa_cons px_int pxa_nil)))) pxa_nil))))) (pxa_cons (px_bin opv_add ne_add px_int (PXL.sh (pxl_callI (i := 0) (OkD.dn (ok__law_take E EA B.C B.T) rfl) v (by decide) rfl (.inr (.inl rfl)) (pxa_cons px_int pxa_nil)))) pxa_nil)))))))))))))
  (pxb_one (pxs_ret (px_tup (pxa_cons (px_var (i := 1) rfl (.inl rfl)) (pxa_cons (px_t1 c1_tuple n1_tuple rfl (E.free 51 rfl) (by decide +kernel) (pxc_slot (i := 2) rfl (.inl rfl))) pxa_nil))))))))

abbrev N__law_loads : List Str := ["wear", "choice", "found", "tape"]
theorem sc__law_loads : FnScope N__law_loads ["wear", "choice"] (defScope s__law_loads) := ⟨rfl, rfl, rfl, by decide +kernel, rfl, by decide +kernel, by decide +kernel⟩
abbrev B__law_loads_0 : M Fl := (dPut 2 (dVar 3) (dBin addV (dGet (dSlot 2) (dVar 3)) (dC (.int 1))))
abbrev S__law_loads_0 : M Fl := (dOwn 2 (dC1F listV (dSlot 0)))
abbrev S__law_loads_1 : M Fl := (dFor (dWalk (dVar 1)) (gNm 3) B__law_loads_0)
abbrev S__law_loads_2 : M Fl := (dRet (dVar 2))
abbrev D__law_loads : M Fl := (dSeq S__law_loads_0
  (dSeq S__law_loads_1
  S__law_loads_2))
abbrev F__law_loads : Fn := dFn false N__law_loads.length D__law_loads
theorem ok__law_loads (E : HE fa fn K mg base) (EA : ErrAll errs sub P w K mg base) (C : CloT) (T : List (Addr × Str)) : OkD P w K mg base 3 "_law_loads" false 2 C T F__law_loads := by
  obtain ⟨fd, F⟩ := E.c.def_ 26 (d := d__law_loads) rfl
  exact okV (N := N__law_loads) (ps := ["wear", "choice"]) F (E.glo 26 rfl) sc__law_loads rfl (fun _ _ _ _ _ _ us hl => match us, hl with | [_, _], _ => rfl) fun cdv A outer s H Ex B hC hT v po =>
   (pxb_cons (pxs_own (i := 2) sc__law_loads.nd rfl (.inl rfl) (pf_t1 c1_list n1_list rfl (E.free 43 rfl) (by decide +kernel) (pxc_slot (i := 0) rfl (.inl rfl))))
  (pxb_cons (pxs_for po v.calm nog_nm (pxi_walk (px_var (i := 1) rfl (.inl rfl))) (pxg_name (i := 3) sc__law_loads.nd rfl (.inl rfl)) (pxb_one (pxs_put (i := 2) (u1 v.room.units) rfl (.inl rfl) (px_var (i := 3) rfl (.inl rfl)) (px_bin opv_add ne_add (px_get (u1 v.room.units) (pxc_slot (i := 2) rfl (.inl rfl)) (px_var (i := 3) rfl (.inl rfl)) (fun _ _ => rfl)) px_int))))
  (pxb_one (pxs_ret (px_var (i := 2) rfl (.inl rfl))))))

abbrev N__law_room : List Str := ["wear", "copies", "lot", "some", "ask", "level", "tape"]
theorem sc__law_room : FnScope N__law_room ["wear", "copies", "lot"] (defScope s__law_room) := ⟨rfl, rfl, rfl, by decide +kernel, rfl, by decide +kernel, by decide +kernel⟩
abbrev B__law_room_0 : M Fl := (dExpr (dExt 3 (dC1F listV (dVal (dGet (dSlot 1) (dVar 4))))))
abbrev E__law_room_0 : M PV := (d2i max2 (dC (.int 0)) (dBin subV (dVar 5) (dGet (dSlot 0) (dVar 6))))
abbrev W__law_room_0 : M Fl := (dAsg (gNm 5) (dBin addV (dVar 5) (dC (.int 1))))
abbrev WT__law_room_0 : M Bool := (dTst (dBin ltV (dC1 sumL (dVal (dLc [6] (dWalk (dSortSet (dVar 3))) (gNm 6) dYes E__law_room_0))) (dC1 lenV (dSlot 2))))
abbrev S__law_room_0 : M Fl := (dOwn 3 (dLst dNil))
abbrev S__law_room_1 : M Fl := (dFor (dWalk (dVar 2)) (gNm 4) B__law_room_0)
abbrev S__law_room_2 : M Fl := (dAsg (gNm 5) (dC (.int 0)))
abbrev S__law_room_3 : M Fl := (fun s => dWhl WT__law_room_0 W__law_room_0 (4611686018427387904) s)
abbrev S__law_room_4 : M Fl := (dRet (dVar 5))
abbrev D__law_room : M Fl := (dSeq S__law_room_0
  (dSeq S__law_room_1
  (dSeq S__law_room_2
  (dSeq S__law_room_3
  S__law_room_4))))
abbrev F__law_room : Fn := dFn false N__law_room.length D__law_room
theorem ok__law_room (E : HE fa fn K mg base) (EA : ErrAll errs sub P w K mg base) (C : CloT) (T : List (Addr × Str)) : OkD P w K mg base 3 "_law_room" false 3 C T F__law_room := by
  obtain ⟨fd, F⟩ := E.c.def_ 28 (d := d__law_room) rfl
  exact okV (N := N__law_room) (ps := ["wear", "copies", "lot"]) F (E.glo 28 rfl) sc__law_room rfl (fun _ _ _ _ _ _ us hl => match us, hl with | [_, _, _], _ => rfl) fun cdv A outer s H Ex B hC hT v po =>
   (pxb_cons (pxs_own (i := 3) sc__law_room.nd rfl (.inl rfl) (pf_lst pxa_nil))
  (pxb_cons (pxs_for po v.calm nog_nm (pxi_walk (px_var (i := 2) rfl (.inl rfl))) (pxg_name (i := 4) sc__law_room.nd rfl (.inl rfl)) (pxb_one (pxs_expr (px_ext (i := 3) rfl (.inl rfl) (pf_t1 c1_list n1_list rfl (E.free 43 rfl) (by decide +kernel) (pxc_val (px_get (u1 v.room.units) (pxc_slot (i := 1) rfl (.inl rfl)) (px_var (i := 4) rfl (.inl rfl)) (fun _ _ => rfl))))))))
  (pxb_cons (pxs_set (i := 5) sc__law_room.nd rfl (.inr rfl) px_int)
  (pxb_cons (pxs_while (fun _ => 4611686018427387904) po (pxt_cmp (opv_lt v.room.units) ne_lt (px_b1 (c1_sum' v.calm) n1_sum' rfl (E.free 50 rfl) (by decide +kernel) (pxc_val (PF.px (pf_lc (own := [("tape", 6)]) v.calm sc__law_room.nd (pxi_walk (PF.px (pf_sortSet v.calm rfl (E.free 49 rfl) rfl (E.free 48 rfl) (px_var (i := 3) rfl (.inl rfl))))) (blkOk_by (by kernel_rfl)) (fun _ _ _ _ _ _ => (pxh_name (i := 6) (by decide) sc__law_room.nd rfl (.inl rfl))) (fun _ _ _ _ _ _ => pxts_nil) (fun _ _ _ _ _ _ => (px_max2 (v.blk _ _ _ _ _ _).calm rfl (E.free 44 rfl) px_int (px_bin opv_sub ne_sub (px_var (i := 5) rfl (.inr (.inl rfl))) (px_get (u1 (v.blk _ _ _ _ _ _).room.units) (pxc_slot (i := 0) rfl (.inr (.inl rfl))) (px_var (i := 6) rfl (.inl rfl)) (fun _ _ => rfl))))))))) (px_b1 c1_len n1_len rfl (E.free 42 rfl) (by decide +kernel) (pxc_slot (i := 2) rfl (.inl rfl))) (nomark _)) (pxb_one (pxs_set (i := 5) sc__law_room.nd rfl (.inr rfl) (px_bin opv_add ne_add (px_var (i := 5) rfl (.inr (.inl rfl))) px_int))))
  (pxb_one (pxs_ret (px_var (i := 5) rfl (.inr (.inl rfl)))))))))

abbrev N_loads : List Str := ["wear", "choice", "found", "tape"]
theorem sc_loads : FnScope N_loads ["wear", "choice"] (defScope s_loads) := ⟨rfl, rfl, rfl, by decide +kernel, rfl, by decide +kernel, by decide +kernel⟩
abbrev B_loads_0 : M Fl := (dPut 2 (dVar 3) (dBin addV (dGet (dSlot 2) (dVar 3)) (dC (.int 1))))
abbrev S_loads_0 : M Fl := (dOwn 2 (dC1F listV (dSlot 0)))
abbrev S_loads_1 : M Fl := (dFor (dWalk (dVar 1)) (gNm 3) B_loads_0)
abbrev S_loads_2 : M Fl := (dRet (dVar 2))
abbrev D_loads : M Fl := (dSeq S_loads_0
  (dSeq S_loads_1
  S_loads_2))
abbrev F_loads : Fn := dFn false N_loads.length D_loads
theorem ok_loads (E : HE fa fn K mg base) (EA : ErrAll errs sub P w K mg base) (C : CloT) (T : List (Addr × Str)) : OkD P w K mg base 3 "loads" false 2 C T F_loads := by
  obtain ⟨fd, F⟩ := E.c.def_ 7 (d := d_loads) rfl
  exact okV (N := N_loads) (ps := ["wear", "choice"]) F (E.glo 7 rfl) sc_loads rfl (fun _ _ _ _ _ _ us hl => match us, hl with | [_, _], _ => rfl) fun cdv A outer s H Ex B hC hT v po =>
   (pxb_cons (pxs_own (i := 2) sc_loads.nd rfl (.inl rfl) (pf_t1 c1_list n1_list rfl (E.free 43 rfl) (by decide +kernel) (pxc_slot (i := 0) rfl (.inl rfl))))
  (pxb_cons (pxs_for po v.calm nog_nm (pxi_walk (px_var (i := 1) rfl (.inl rfl))) (pxg_name (i := 3) sc_loads.nd rfl (.inl rfl)) (pxb_one (pxs_put (i := 2) (u1 v.room.units) rfl (.inl rfl) (px_var (i := 3) rfl (.inl rfl)) (px_bin opv_add ne_add (px_get (u1 v.room.units) (pxc_slot (i := 2) rfl (.inl rfl)) (px_var (i := 3) rfl (.inl rfl)) (fun _ _ => rfl)) px_int))))
  (pxb_one (pxs_ret (px_var (i := 2) rfl (.inl rfl))))))

abbrev N_moved : List Str := ["choice", "found", "tape", "new", "ask", "ahead"]
theorem sc_moved : FnScope N_moved ["choice", "found", "tape"] (defScope s_moved) := ⟨rfl, rfl, rfl, by decide +kernel, rfl, by decide +kernel, by decide +kernel⟩
abbrev W_moved_0 : M Fl := (dSeq (dAsg (gTp 2 (gCs (gNm 4) (gCs (gNm 5) gNl))) (dGet (dSlot 1) (dVar 2)))
  (dSeq (dPut 3 (dVar 4) (dVar 2))
  (dAsg (gNm 2) (dVar 5))))
abbrev WT_moved_0 : M Bool := (dTst (dBin isntV (dGet (dSlot 1) (dVar 2)) (dC .non)))
abbrev S_moved_0 : M Fl := (dOwn 3 (dC1F listV (dSlot 0)))
abbrev S_moved_1 : M Fl := (fun s => dWhl WT_moved_0 W_moved_0 (4611686018427387904) s)
abbrev S_moved_2 : M Fl := (dRet (dC1 tupleV (dSlot 3)))
abbrev D_moved : M Fl := (dSeq S_moved_0
  (dSeq S_moved_1
  S_moved_2))
abbrev F_moved : Fn := dFn false N_moved.length D_moved
theorem ok_moved (E : HE fa fn K mg base) (EA : ErrAll errs sub P w K mg base) (C : CloT) (T : List (Addr × Str)) : OkD P w K mg base 3 "moved" false 3 C T F_moved := by
  obtain ⟨fd, F⟩ := E.c.def_ 9 (d := d_moved) rfl
  exact okV (N := N_moved) (ps := ["choice", "found", "tape"]) F (E.glo 9 rfl) sc_moved rfl (fun _ _ _ _ _ _ us hl => match us, hl with | [_, _, _], _ => rfl) fun cdv A outer s H Ex B hC hT v po =>
   (pxb_cons (pxs_own (i := 3) sc_moved.nd rfl (.inl rfl) (pf_t1 c1_list n1_list rfl (E.free 43 rfl) (by decide +kernel) (pxc_slot (i := 0) rfl (.inl rfl))))
  (pxb_cons (pxs_while (fun _ => 4611686018427387904) po (pxt_cmp opv_isnt ne_isnt (px_get (u1 v.room.units) (pxc_slot (i := 1) rfl (.inl rfl)) (px_var (i := 2) rfl (.inl rfl)) (fun _ _ => rfl)) px_non (nomark _)) (pxb_cons (pxs_asg (nog_tp (nog_cs nog_nm (nog_cs nog_nm nog_nl))) (px_get (u1 v.room.units) (pxc_slot (i := 1) rfl (.inl rfl)) (px_var (i := 2) rfl (.inl rfl)) (fun _ _ => rfl)) (pxg_tup v.calm (pxg_cons (pxg_name (i := 4) sc_moved.nd rfl (.inl rfl)) (pxg_cons (pxg_name (i := 5) sc_moved.nd rfl (.inl rfl)) pxg_nil))))
  (pxb_cons (pxs_put (i := 3) (u1 v.room.units) rfl (.inl rfl) (px_var (i := 4) rfl (.inl rfl)) (px_var (i := 2) rfl (.inl rfl)))
  (pxb_one (pxs_set (i := 2) sc_moved.nd rfl (.inl rfl) (px_var (i := 5) rfl (.inl rfl)))))))
  (pxb_one (pxs_ret (px_t1 c1_tuple n1_tuple rfl (E.free 51 rfl) (by decide +kernel) (pxc_slot (i := 3) rfl (.inl rfl)))))))

abbrev N_reached : List Str := ["copies", "choice", "tape", "found", "waiting", "here", "ask", "own", "other"]
theorem sc_reached : FnScope N_reached ["copies", "choice", "tape"] (defScope s_reached) := ⟨rfl, rfl, rfl, by decide +kernel, rfl, by decide +kernel, by decide +kernel⟩
abbrev B_reached_0 : M Fl := (dIf (dTst (dNotInK (dVar 8) (dSlot 3))) (dSeq (dPut 3 (dVar 8) (dTup (dCons (dVar 6) (dCons (dVar 5) dNil))))
  (dExpr (dApp 4 (dVar 8)))) dNx)
abbrev B_reached_1 : M Fl := (dIf (dTst (dBin eqV' (dVar 7) (dVar 5))) (dFor (dWalk (dGet (dSlot 0) (dVar 6))) (gNm 8) B_reached_0) dNx)
abbrev W_reached_0 : M Fl := (dSeq (dAsg (gNm 5) (dPop 4 (dC (.int 0))))
  (dFor (dEnum (dVar 1)) (gTp 2 (gCs (gNm 6) (gCs (gNm 7) gNl))) B_reached_1))
abbrev WT_reached_0 : M Bool := (dNeC (dSlot 4) (dLst dNil))
abbrev S_reached_0 : M Fl := (dPar 3 4 (dFr (dDispK (dVar 2) (dC .non))) (dFr (dLst (dCons (dVar 2) dNil))))
abbrev S_reached_1 : M Fl := (fun s => dWhl WT_reached_0 W_reached_0 (4611686018427387904) s)
abbrev S_reached_2 : M Fl := (dRet (dVar 3))
abbrev D_reached : M Fl := (dSeq S_reached_0
  (dSeq S_reached_1
  S_reached_2))
abbrev F_reached : Fn := dFn false N_reached.length D_reached
theorem ok_reached (E : HE fa fn K mg base) (EA : ErrAll errs sub P w K mg base) (C : CloT) (T : List (Addr × Str)) : OkD P w K mg base 3 "reached" false 3 C T F_reached := by
  obtain ⟨fd, F⟩ := E.c.def_ 8 (d := d_reached) rfl
  exact okV (N := N_reached) (ps := ["copies", "choice", "tape"]) F (E.glo 8 rfl) sc_reached rfl (fun _ _ _ _ _ _ us hl => match us, hl with | [_, _, _], _ => rfl) fun cdv A outer s H Ex B hC hT v po =>
   (pxb_cons (pxs_par (i := 3) (j := 4) v.calm sc_reached.nd rfl rfl (by decide) rfl rfl (pxl_fr (pf_dispK (fun _ => (px_var (i := 2) rfl (.inl rfl))) (fun _ => px_non))) (fun _ => (pxl_fr (pf_lst (pxa_cons (px_var (i := 2) rfl (.inl rfl)) pxa_nil)))) rfl)
  (pxb_cons (pxs_while (fun _ => 4611686018427387904) po (pxt_neC v.room.units (pxc_slot (i := 4) rfl (.inl rfl)) (PF.px (pf_lst pxa_nil)) (nomark _)) (pxb_cons (pxs_set (i := 5) sc_reached.nd rfl (.inl rfl) (px_pop (i := 4) rfl (.inl rfl) px_int))
  (pxb_one (pxs_for po v.calm (nog_tp (nog_cs nog_nm (nog_cs nog_nm nog_nl))) (pxi_enum rfl (E.free 39 rfl) (px_var (i := 1) rfl (.inl rfl))) (pxg_tup v.calm (pxg_cons (pxg_name (i := 6) sc_reached.nd rfl (.inl rfl)) (pxg_cons (pxg_name (i := 7) sc_reached.nd rfl (.inl rfl)) pxg_nil))) (pxb_one (pxs_if (pxt_cmp (opv_eq v.room.units) ne_eq' (px_var (i := 7) rfl (.inl rfl)) (px_var (i := 5) rfl (.inl rfl)) (nomark _)) (pxb_one (pxs_for po v.calm nog_nm (pxi_walk (px_get (u1 v.room.units) (pxc_slot (i := 0) rfl (.inl rfl)) (px_var (i := 6) rfl (.inl rfl)) (fun _ _ => rfl))) (pxg_name (i := 8) sc_reached.nd rfl (.inl rfl)) (pxb_one (pxs_if (pxt_notInK (u1 v.room.units) (px_var (i := 8) rfl (.inl rfl)) (pxc_slot (i := 3) rfl (.inl rfl))) (pxb_cons (pxs_put (i := 3) (u1 v.room.units) rfl (.inl rfl) (px_var (i := 8) rfl (.inl rfl)) (px_tup (pxa_cons (px_var (i := 6) rfl (.inl rfl)) (pxa_cons (px_var (i := 5) rfl (.inl rfl)) pxa_nil))))
  (pxb_one (pxs_expr (px_app (i := 4) rfl (.inl rfl) (px_var (i := 8) rfl (.inl rfl)))))) pxb_nil)))) pxb_nil))))))
  (pxb_one (pxs_ret (px_var (i := 3) rfl (.inl rfl))))))

abbrev N_better : List Str := ["wear", "copies", "choice", "now", "tape", "found", "some", "other"]
theorem sc_better : FnScope N_better ["wear", "copies", "choice"] (defScope s_better) := ⟨rfl, rfl, rfl, by decide +kernel, rfl, by decide +kernel, by decide +kernel⟩
abbrev E_better_0 : M PV := (dVar 7)
abbrev T_better_0 : M Bool := (dTst (dBin ltV (dBin addV (dGet (dSlot 3) (dVar 7)) (dC (.int 1))) (dGet (dSlot 3) (dVar 4))))
abbrev B_better_0 : M Fl := (dSeq (dAsg (gNm 5) (asSh (dCall 3 F_reached (dCons (dVar 1) (dCons (dVar 2) (dCons (dVar 4) dNil))))))
  (dSeq (dOwn 6 (dLc [7] (dWalk (dC1F sortK (dSlot 5))) (gNm 7) T_better_0 E_better_0))
  (dIf (dTst (dBin neV (dVar 6) (dLst dNil))) (dRet (asSh (dCall 3 F_moved (dCons (dVar 2) (dCons (dVar 5) (dCons (dGet (dSlot 6) (dC (.int 0))) dNil)))))) dNx)))
abbrev S_better_0 : M Fl := (dAsg (gNm 3) (asSh (dCall 2 F_loads (dCons (dVar 0) (dCons (dVar 2) dNil)))))
abbrev S_better_1 : M Fl := (dFor (dRange1 (dC1 lenV (dSlot 0))) (gNm 4) B_better_0)
abbrev S_better_2 : M Fl := (dRet (dC .non))
abbrev D_better : M Fl := (dSeq S_better_0
  (dSeq S_better_1
  S_better_2))
abbrev F_better : Fn := dFn false N_better.length D_better
theorem ok_better (E : HE fa fn K mg base) (EA : ErrAll errs sub P w K mg base) (C : CloT) (T : List (Addr × Str)) : OkD P w K mg base 4 "better" false 3 C T F_better := by
  obtain ⟨fd, F⟩ := E.c.def_ 10 (d := d_better) rfl
  exact okV (N := N_better) (ps := ["wear", "copies", "choice"]) F (E.glo 10 rfl) sc_better rfl (fun _ _ _ _ _ _ us hl => match us, hl with | [_, _, _], _ => rfl) fun cdv A outer s H Ex B hC hT v po =>
   (pxb_cons (pxs_set (i := 3) sc_better.nd rfl (.inr rfl) (PXL.sh (pxl_call (OkD.dn (ok_loads E EA B.C B.T) rfl) v (by decide) (pxa_cons (px_var (i := 0) rfl (.inl rfl)) (pxa_cons (px_var (i := 2) rfl (.inl rfl)) pxa_nil)))))
  (pxb_cons (pxs_for po v.calm nog_nm (pxi_range1 rfl (E.free 46 rfl) (px_b1 c1_len n1_len rfl (E.free 42 rfl) (by decide +kernel) (pxc_slot (i := 0) rfl (.inl rfl)))) (pxg_name (i := 4) sc_better.nd rfl (.inr rfl)) (pxb_cons (pxs_set (i := 5) sc_better.nd rfl (.inl rfl) (PXL.sh (pxl_call (OkD.dn (ok_reached E EA B.C B.T) rfl) v (by decide) (pxa_cons (px_var (i := 1) rfl (.inl rfl)) (pxa_cons (px_var (i := 2) rfl (.inl rfl)) (pxa_cons (px_var (i := 4) rfl (.inr (.inl rfl))) pxa_nil))))))
  (pxb_cons (pxs_setLc (i := 6) (own := [("other", 7)]) v.calm sc_better.nd rfl rfl (sw_true rfl rfl rfl (by decide +kernel)) (pxi_walk (PF.px (pf_b1 (c1_sortK v.calm) n1_sortK rfl (E.free 49 rfl) (by decide +kernel) (pxc_slot (i := 5) rfl (.inl rfl))))) (blkOk_by (by kernel_rfl)) (fun _ _ _ _ _ _ => (pxh_name (i := 7) (by decide) sc_better.nd rfl (.inl rfl))) (fun _ _ _ _ _ _ => (pxts_one (pxt_cmp (opv_lt (v.blk _ _ _ _ _ _).room.units) ne_lt (px_bin opv_add ne_add (px_get (u1 (v.blk _ _ _ _ _ _).room.units) (pxc_slot (i := 3) rfl (.inr (.inl rfl))) (px_var (i := 7) rfl (.inl rfl)) (fun _ _ => rfl)) px_int) (px_get (u1 (v.blk _ _ _ _ _ _).room.units) (pxc_slot (i := 3) rfl (.inr (.inl rfl))) (px_var (i := 4) rfl (.inr (.inl rfl))) (fun _ _ => rfl)) (nomark _)))) (fun _ _ _ _ _ _ => (px_var (i := 7) rfl (.inl rfl))))
  (pxb_one (pxs_if (pxt_cmp (opv_ne v.room.units) ne_ne (px_var (i := 6) rfl (.inl rfl)) (PF.px (pf_lst pxa_nil)) (nomark _)) (pxb_one (pxs_ret (PXL.sh (pxl_call (OkD.dn (ok_moved E EA B.C B.T) rfl) v (by decide) (pxa_cons (px_var (i := 2) rfl (.inl rfl)) (pxa_cons (px_var (i := 5) rfl (.inl rfl)) (pxa_cons (px_get (u1 v.room.units) (pxc_slot (i := 6) rfl (.inl rfl)) px_int (fun _ _ => rfl)) pxa_nil))))))) pxb_nil)))))
  (pxb_one (pxs_ret px_non))))

abbrev N_is_whole : List Str := ["value"]
theorem sc_is_whole : FnScope N_is_whole ["value"] (defScope s_is_whole) := ⟨rfl, rfl, rfl, by decide +kernel, rfl, by decide +kernel, by decide +kernel⟩
abbrev S_is_whole_0 : M Fl := (dRet (dAndV (dIsT .int (dVar 0)) (dBl (dNot (dTru (dVal (dIsT .bool (dVar 0))))))))
abbrev D_is_whole : M Fl := S_is_whole_0
abbrev F_is_whole : Fn := dFn false N_is_whole.length D_is_whole
theorem ok_is_whole (E : HE fa fn K mg base) (EA : ErrAll errs sub P w K mg base) (C : CloT) (T : List (Addr × Str)) : OkD P w K mg base 3 "is_whole" false 1 C T F_is_whole := by
  obtain ⟨fd, F⟩ := E.c.def_ 1 (d := d_is_whole) rfl
  exact okV (N := N_is_whole) (ps := ["value"]) F (E.glo 1 rfl) sc_is_whole rfl (fun _ _ _ _ _ _ us hl => match us, hl with | [_], _ => rfl) fun cdv A outer s H Ex B hC hT v po =>
   (pxb_one (pxs_ret (px_and (px_isT .int rfl (E.free 41 rfl) rfl (E.free 40 rfl) (px_var (i := 0) rfl (.inl rfl)) (by decide +kernel)) (px_one (px_not (pxc_val (px_isT .bool rfl (E.free 41 rfl) rfl (E.free 38 rfl) (px_var (i := 0) rfl (.inl rfl)) (by decide +kernel))))))))

abbrev N_is_integer : List Str := ["value", "low", "high"]
theorem sc_is_integer : FnScope N_is_integer ["value", "low", "high"] (defScope s_is_integer) := ⟨rfl, rfl, rfl, by decide +kernel, rfl, by decide +kernel, by decide +kernel⟩
abbrev S_is_integer_0 : M Fl := (dRet (dAndV (asSh (dCall 1 F_is_whole (dCons (dVar 0) dNil))) (dChain leV leV (dVar 1) (dVar 0) (dVar 2))))
abbrev D_is_integer : M Fl := S_is_integer_0
abbrev F_is_integer : Fn := dFn false N_is_integer.length D_is_integer
theorem ok_is_integer (E : HE fa fn K mg base) (EA : ErrAll errs sub P w K mg base) (C : CloT) (T : List (Addr × Str)) : OkD P w K mg base 4 "is_integer" false 3 C T F_is_integer := by
  obtain ⟨fd, F⟩ := E.c.def_ 2 (d := d_is_integer) rfl
  exact okV (N := N_is_integer) (ps := ["value", "low", "high"]) F (E.glo 2 rfl) sc_is_integer rfl (fun _ _ _ _ _ _ us hl => match us, hl with | [_, _, _], _ => rfl) fun cdv A outer s H Ex B hC hT v po =>
   (pxb_one (pxs_ret (px_and (PXL.sh (pxl_call (OkD.dn (ok_is_whole E EA B.C B.T) rfl) v (by decide) (pxa_cons (px_var (i := 0) rfl (.inl rfl)) pxa_nil))) (px_one (px_chain (opv_le v.room.units) ne_le (opv_le v.room.units) ne_le (px_var (i := 1) rfl (.inl rfl)) (px_var (i := 0) rfl (.inl rfl)) (px_var (i := 2) rfl (.inl rfl)))))))

abbrev N_is_rising : List Str := ["values", "one", "other"]
theorem sc_is_rising : FnScope N_is_rising ["values"] (defScope s_is_rising) := ⟨rfl, rfl, rfl, by decide +kernel, rfl, by decide +kernel, by decide +kernel⟩
abbrev E_is_rising_0 : M PV := (dBin ltV (dVar 1) (dVar 2))
abbrev S_is_rising_0 : M Fl := (dRet (dC1 allV (dVal (dLc [1, 2] (dZip (dVar 0) (dCut (dSlot 0) (dPart (dC (.int 1))) dNo)) (gTp 2 (gCs (gNm 1) (gCs (gNm 2) gNl))) dYes E_is_rising_0))))
abbrev D_is_rising : M Fl := S_is_rising_0
abbrev F_is_rising : Fn := dFn false N_is_rising.length D_is_rising
theorem ok_is_rising (E : HE fa fn K mg base) (EA : ErrAll errs sub P w K mg base) (C : CloT) (T : List (Addr × Str)) : OkD P w K mg base 3 "is_rising" false 1 C T F_is_rising := by
  obtain ⟨fd, F⟩ := E.c.def_ 3 (d := d_is_rising) rfl
  exact okV (N := N_is_rising) (ps := ["values"]) F (E.glo 3 rfl) sc_is_rising rfl (fun _ _ _ _ _ _ us hl => match us, hl with | [_], _ => rfl) fun cdv A outer s H Ex B hC hT v po =>
   (pxb_one (pxs_ret (px_b1 (c1_all v.calm) n1_all rfl (E.free 37 rfl) (by decide +kernel) (pxc_val (PF.px (pf_lc (own := [("one", 1), ("other", 2)]) v.calm sc_is_rising.nd (pxi_zip rfl (E.free 52 rfl) (px_var (i := 0) rfl (.inl rfl)) (px_cut (pxc_slot (i := 0) rfl (.inl rfl)) (pxo_some px_int) pxo_none)) (blkOk_by (by kernel_rfl)) (fun _ _ _ _ _ _ => (pxh_tup (v.blk _ _ _ _ _ _).calm (pxh_cons (pxh_name (i := 1) (by decide) sc_is_rising.nd rfl (.inl rfl)) (pxh_cons (pxh_name (i := 2) (by decide) sc_is_rising.nd rfl (.inl rfl)) pxh_nil)))) (fun _ _ _ _ _ _ => pxts_nil) (fun _ _ _ _ _ _ => (px_cmp (opv_lt (v.blk _ _ _ _ _ _).room.units) ne_lt (px_var (i := 1) rfl (.inl rfl)) (px_var (i := 2) rfl (.inl rfl)) (nomark _)))))))))

abbrev N_is_tuple : List Str := ["value", "least", "most"]
theorem sc_is_tuple : FnScope N_is_tuple ["value", "least", "most"] (defScope s_is_tuple) := ⟨rfl, rfl, rfl, by decide +kernel, rfl, by decide +kernel, by decide +kernel⟩
abbrev S_is_tuple_0 : M Fl := (dRet (dAndV (dIsT .tuple (dVar 0)) (dChain leV leV (dVar 1) (dC1 lenV (dSlot 0)) (dVar 2))))
abbrev D_is_tuple : M Fl := S_is_tuple_0
abbrev F_is_tuple : Fn := dFn false N_is_tuple.length D_is_tuple
theorem ok_is_tuple (E : HE fa fn K mg base) (EA : ErrAll errs sub P w K mg base) (C : CloT) (T : List (Addr × Str)) : OkD P w K mg base 3 "is_tuple" false 3 C T F_is_tuple := by
  obtain ⟨fd, F⟩ := E.c.def_ 0 (d := d_is_tuple) rfl
  exact okV (N := N_is_tuple) (ps := ["value", "least", "most"]) F (E.glo 0 rfl) sc_is_tuple rfl (fun _ _ _ _ _ _ us hl => match us, hl with | [_, _, _], _ => rfl) fun cdv A outer s H Ex B hC hT v po =>
   (pxb_one (pxs_ret (px_and (px_isT .tuple rfl (E.free 41 rfl) rfl (E.free 51 rfl) (px_var (i := 0) rfl (.inl rfl)) (by decide +kernel)) (px_one (px_chain (opv_le v.room.units) ne_le (opv_le v.room.units) ne_le (px_var (i := 1) rfl (.inl rfl)) (px_b1 c1_len n1_len rfl (E.free 42 rfl) (by decide +kernel) (pxc_slot (i := 0) rfl (.inl rfl))) (px_var (i := 2) rfl (.inl rfl)))))))

abbrev N_is_copy : List Str := ["wear", "value", "one"]
theorem sc_is_copy : FnScope N_is_copy ["wear", "value"] (defScope s_is_copy) := ⟨rfl, rfl, rfl, by decide +kernel, rfl, by decide +kernel, by decide +kernel⟩
abbrev E_is_copy_0 : M PV := (asSh (dCall 3 F_is_integer (dCons (dVar 2) (dCons (dC (.int 0)) (dCons (dBin subV (dC1 lenV (dSlot 0)) (dC (.int 1))) dNil)))))
abbrev S_is_copy_0 : M Fl := (dIf (dOr (dNot (dTru (dVal (asSh (dCall 3 F_is_tuple (dCons (dVar 1) (dCons (dC (.int 1)) (dCons (dC1 lenV (dSlot 0)) dNil)))))))) (dNot (dTru (dVal (dC1 allV (dVal (dLc [2] (dWalk (dVar 1)) (gNm 2) dYes E_is_copy_0))))))) (dRet (dC (.bl false))) dNx)
abbrev S_is_copy_1 : M Fl := (dRet (asSh (dCall 1 F_is_rising (dCons (dVar 1) dNil))))
abbrev D_is_copy : M Fl := (dSeq S_is_copy_0
  S_is_copy_1)
abbrev F_is_copy : Fn := dFn false N_is_copy.length D_is_copy
theorem ok_is_copy (E : HE fa fn K mg base) (EA : ErrAll errs sub P w K mg base) (C : CloT) (T : List (Addr × Str)) : OkD P w K mg base 5 "is_copy" false 2 C T F_is_copy := by
  obtain ⟨fd, F⟩ := E.c.def_ 4 (d := d_is_copy) rfl
  exact okV (N := N_is_copy) (ps := ["wear", "value"]) F (E.glo 4 rfl) sc_is_copy rfl (fun _ _ _ _ _ _ us hl => match us, hl with | [_, _], _ => rfl) fun cdv A outer s H Ex B hC hT v po =>
   (pxb_cons (pxs_if (PXW.t (pxw_or (pxt_not (pxt_tru (pxc_val (PXL.sh (pxl_call (OkD.dn (ok_is_tuple E EA B.C B.T) rfl) v (by decide) (pxa_cons (px_var (i := 1) rfl (.inl rfl)) (pxa_cons px_int (pxa_cons (px_b1 c1_len n1_len rfl (E.free 42 rfl) (by decide +kernel) (pxc_slot (i := 0) rfl (.inr (.inl rfl)))) pxa_nil)))))))) (pxw_or1 (pxt_not (pxt_tru (pxc_val (px_b1 (c1_all v.calm) n1_all rfl (E.free 37 rfl) (by decide +kernel) (pxc_val (PF.px (pf_lc (own := [("one", 2)]) v.calm sc_is_copy.nd (pxi_walk (px_var (i := 1) rfl (.inl rfl))) (blkOk_by (by kernel_rfl)) (fun _ _ _ _ _ _ => (pxh_name (i := 2) (by decide) sc_is_copy.nd rfl (.inl rfl))) (fun _ _ _ _ _ _ => pxts_nil) (fun _ _ _ _ _ _ => (PXL.sh (pxl_call (OkD.dn (ok_is_integer E EA B.C B.T) rfl) (v.blk _ _ _ _ _ _) (by decide) (pxa_cons (px_var (i := 2) rfl (.inl rfl)) (pxa_cons px_int (pxa_cons (px_bin opv_sub ne_sub (px_b1 c1_len n1_len rfl (E.free 42 rfl) (by decide +kernel) (pxc_slot (i := 0) rfl (.inr (.inl rfl)))) px_int) pxa_nil)))))))))))))))) (pxb_one (pxs_ret px_bl)) pxb_nil)
  (pxb_one (pxs_ret (PXL.sh (pxl_call (OkD.dn (ok_is_rising E EA B.C B.T) rfl) v (by decide) (pxa_cons (px_var (i := 1) rfl (.inl rfl)) pxa_nil))))))

abbrev N_check_wear : List Str := ["wear", "copies", "one"]
theorem sc_check_wear : FnScope N_check_wear ["wear", "copies"] (defScope s_check_wear) := ⟨rfl, rfl, rfl, by decide +kernel, rfl, by decide +kernel, by decide +kernel⟩
abbrev E_check_wear_0 : M PV := (asSh (dCall 3 F_is_integer (dCons (dVar 2) (dCons (dC (.int 0)) (dCons (dC (.int 1000000)) dNil)))))
abbrev E_check_wear_1 : M PV := (asSh (dCall 2 F_is_copy (dCons (dVar 0) (dCons (dVar 2) dNil))))
abbrev S_check_wear_0 : M Fl := (dIf (dOr (dNot (dTru (dVal (asSh (dCall 3 F_is_tuple (dCons (dVar 0) (dCons (dC (.int 1)) (dCons (dC (.int 12)) dNil)))))))) (dNot (dTru (dVal (dC1 allV (dVal (dLc [2] (dWalk (dVar 0)) (gNm 2) dYes E_check_wear_0))))))) (dRaise "BadWear" (dVar 0)) dNx)
abbrev S_check_wear_1 : M Fl := (dIf (dOr (dNot (dTru (dVal (asSh (dCall 3 F_is_tuple (dCons (dVar 1) (dCons (dC (.int 0)) (dCons (dC (.int 20)) dNil)))))))) (dNot (dTru (dVal (dC1 allV (dVal (dLc [2] (dWalk (dVar 1)) (gNm 2) dYes E_check_wear_1))))))) (dRaise "BadCopies" (dVar 1)) dNx)
abbrev D_check_wear : M Fl := (dSeq S_check_wear_0
  S_check_wear_1)
abbrev F_check_wear : Fn := dFn false N_check_wear.length D_check_wear
theorem ok_check_wear (E : HE fa fn K mg base) (EA : ErrAll errs sub P w K mg base) (C : CloT) (T : List (Addr × Str)) : OkD P w K mg base 6 "check_wear" false 2 C T F_check_wear := by
  obtain ⟨fd, F⟩ := E.c.def_ 5 (d := d_check_wear) rfl
  exact okV (N := N_check_wear) (ps := ["wear", "copies"]) F (E.glo 5 rfl) sc_check_wear rfl (fun _ _ _ _ _ _ us hl => match us, hl with | [_, _], _ => rfl) fun cdv A outer s H Ex B hC hT v po =>
   (pxb_cons (pxs_if (PXW.t (pxw_or (pxt_not (pxt_tru (pxc_val (PXL.sh (pxl_call (OkD.dn (ok_is_tuple E EA B.C B.T) rfl) v (by decide) (pxa_cons (px_var (i := 0) rfl (.inr (.inl rfl))) (pxa_cons px_int (pxa_cons (px_gint rfl (E.int 53 rfl)) pxa_nil)))))))) (pxw_or1 (pxt_not (pxt_tru (pxc_val (px_b1 (c1_all v.calm) n1_all rfl (E.free 37 rfl) (by decide +kernel) (pxc_val (PF.px (pf_lc (own := [("one", 2)]) v.calm sc_check_wear.nd (pxi_walk (px_var (i := 0) rfl (.inr (.inl rfl)))) (blkOk_by (by kernel_rfl)) (fun _ _ _ _ _ _ => (pxh_name (i := 2) (by decide) sc_check_wear.nd rfl (.inl rfl))) (fun _ _ _ _ _ _ => pxts_nil) (fun _ _ _ _ _ _ => (PXL.sh (pxl_call (OkD.dn (ok_is_integer E EA B.C B.T) rfl) (v.blk _ _ _ _ _ _) (by decide) (pxa_cons (px_var (i := 2) rfl (.inl rfl)) (pxa_cons px_int (pxa_cons (px_gint rfl (E.int 55 rfl)) pxa_nil)))))))))))))))) (pxb_one (pxs_raise (EA.c rfl) v (by decide) (px_var (i := 0) rfl (.inr (.inl rfl))))) pxb_nil)
  (pxb_one (pxs_if (PXW.t (pxw_or (pxt_not (pxt_tru (pxc_val (PXL.sh (pxl_call (OkD.dn (ok_is_tuple E EA B.C B.T) rfl) v (by decide) (pxa_cons (px_var (i := 1) rfl (.inl rfl)) (pxa_cons px_int (pxa_cons (px_gint rfl (E.int 54 rfl)) pxa_nil)))))))) (pxw_or1 (pxt_not (pxt_tru (pxc_val (px_b1 (c1_all v.calm) n1_all rfl (E.free 37 rfl) (by decide +kernel) (pxc_val (PF.px (pf_lc (own := [("one", 2)]) v.calm sc_check_wear.nd (pxi_walk (px_var (i := 1) rfl (.inl rfl))) (blkOk_by (by kernel_rfl)) (fun _ _ _ _ _ _ => (pxh_name (i := 2) (by decide) sc_check_wear.nd rfl (.inl rfl))) (fun _ _ _ _ _ _ => pxts_nil) (fun _ _ _ _ _ _ => (PXL.sh (pxl_call (OkD.dn (ok_is_copy E EA B.C B.T) rfl) (v.blk _ _ _ _ _ _) (by decide) (pxa_cons (px_var (i := 0) rfl (.inr (.inl rfl))) (pxa_cons (px_var (i := 2) rfl (.inl rfl)) pxa_nil))))))))))))))) (pxb_one (pxs_raise (EA.c rfl) v (by decide) (px_var (i := 1) rfl (.inl rfl)))) pxb_nil)))

abbrev N_is_choice : List Str := ["copies", "value", "one", "some"]
theorem sc_is_choice : FnScope N_is_choice ["copies", "value"] (defScope s_is_choice) := ⟨rfl, rfl, rfl, by decide +kernel, rfl, by decide +kernel, by decide +kernel⟩
abbrev E_is_choice_0 : M PV := (dAndV (asSh (dCall 3 F_is_integer (dCons (dVar 2) (dCons (dC (.int 0)) (dCons (dC (.int 12)) dNil))))) (dBin inV (dVar 2) (dVar 3)))
abbrev S_is_choice_0 : M Fl := (dIf (dNot (dTru (dVal (asSh (dCall 3 F_is_tuple (dCons (dVar 1) (dCons (dC1 lenV (dSlot 0)) (dCons (dC1 lenV (dSlot 0)) dNil)))))))) (dRet (dC (.bl false))) dNx)
abbrev S_is_choice_1 : M Fl := (dRet (dC1 allV (dVal (dLc [2, 3] (dZip (dVar 1) (dVar 0)) (gTp 2 (gCs (gNm 2) (gCs (gNm 3) gNl))) dYes E_is_choice_0))))
abbrev D_is_choice : M Fl := (dSeq S_is_choice_0
  S_is_choice_1)
abbrev F_is_choice : Fn := dFn false N_is_choice.length D_is_choice
theorem ok_is_choice (E : HE fa fn K mg base) (EA : ErrAll errs sub P w K mg base) (C : CloT) (T : List (Addr × Str)) : OkD P w K mg base 5 "is_choice" false 2 C T F_is_choice := by
  obtain ⟨fd, F⟩ := E.c.def_ 6 (d := d_is_choice) rfl
  exact okV (N := N_is_choice) (ps := ["copies", "value"]) F (E.glo 6 rfl) sc_is_choice rfl (fun _ _ _ _ _ _ us hl => match us, hl with | [_, _], _ => rfl) fun cdv A outer s H Ex B hC hT v po =>
   (pxb_cons (pxs_if (pxt_not (pxt_tru (pxc_val (PXL.sh (pxl_call (OkD.dn (ok_is_tuple E EA B.C B.T) rfl) v (by decide) (pxa_cons (px_var (i := 1) rfl (.inl rfl)) (pxa_cons (px_b1 c1_len n1_len rfl (E.free 42 rfl) (by decide +kernel) (pxc_slot (i := 0) rfl (.inl rfl))) (pxa_cons (px_b1 c1_len n1_len rfl (E.free 42 rfl) (by decide +kernel) (pxc_slot (i := 0) rfl (.inl rfl))) pxa_nil)))))))) (pxb_one (pxs_ret px_bl)) pxb_nil)
  (pxb_one (pxs_ret (px_b1 (c1_all v.calm) n1_all rfl (E.free 37 rfl) (by decide +kernel) (pxc_val (PF.px (pf_lc (own := [("one", 2), ("some", 3)]) v.calm sc_is_choice.nd (pxi_zip rfl (E.free 52 rfl) (px_var (i := 1) rfl (.inl rfl)) (px_var (i := 0) rfl (.inl rfl))) (blkOk_by (by kernel_rfl)) (fun _ _ _ _ _ _ => (pxh_tup (v.blk _ _ _ _ _ _).calm (pxh_cons (pxh_name (i := 2) (by decide) sc_is_choice.nd rfl (.inl rfl)) (pxh_cons (pxh_name (i := 3) (by decide) sc_is_choice.nd rfl (.inl rfl)) pxh_nil)))) (fun _ _ _ _ _ _ => pxts_nil) (fun _ _ _ _ _ _ => (px_and (PXL.sh (pxl_call (OkD.dn (ok_is_integer E EA B.C B.T) rfl) (v.blk _ _ _ _ _ _) (by decide) (pxa_cons (px_var (i := 2) rfl (.inl rfl)) (pxa_cons px_int (pxa_cons (px_gint rfl (E.int 53 rfl)) pxa_nil))))) (px_one (px_cmp (opv_in (v.blk _ _ _ _ _ _).room.units) ne_in (px_var (i := 2) rfl (.inl rfl)) (px_var (i := 3) rfl (.inl rfl)) rfl)))))))))))

abbrev N_chain : List Str := ["wear", "copies", "value"]
theorem sc_chain : FnScope N_chain ["wear", "copies", "value"] (defScope s_chain) := ⟨rfl, rfl, rfl, by decide +kernel, rfl, by decide +kernel, by decide +kernel⟩
abbrev S_chain_0 : M Fl := (dExpr (asSh (dCall 2 F_check_wear (dCons (dVar 0) (dCons (dVar 1) dNil)))))
abbrev S_chain_1 : M Fl := (dIf (dNot (dTru (dVal (asSh (dCall 2 F_is_choice (dCons (dVar 1) (dCons (dVar 2) dNil))))))) (dRaise "BadLot" (dVar 2)) dNx)
abbrev S_chain_2 : M Fl := (dRet (asSh (dCall 3 F_better (dCons (dVar 0) (dCons (dVar 1) (dCons (dVar 2) dNil))))))
abbrev D_chain : M Fl := (dSeq S_chain_0
  (dSeq S_chain_1
  S_chain_2))
abbrev F_chain : Fn := dFn false N_chain.length D_chain
theorem ok_chain (E : HE fa fn K mg base) (EA : ErrAll errs sub P w K mg base) (C : CloT) (T : List (Addr × Str)) : OkD P w K mg base 7 "chain" false 3 C T F_chain := by
  obtain ⟨fd, F⟩ := E.c.def_ 14 (d := d_chain) rfl
  exact okV (N := N_chain) (ps := ["wear", "copies", "value"]) F (E.glo 14 rfl) sc_chain rfl (fun _ _ _ _ _ _ us hl => match us, hl with | [_, _, _], _ => rfl) fun cdv A outer s H Ex B hC hT v po =>
   (pxb_cons (pxs_expr (PXL.sh (pxl_call (OkD.dn (ok_check_wear E EA B.C B.T) rfl) v (by decide) (pxa_cons (px_var (i := 0) rfl (.inl rfl)) (pxa_cons (px_var (i := 1) rfl (.inl rfl)) pxa_nil)))))
  (pxb_cons (pxs_if (pxt_not (pxt_tru (pxc_val (PXL.sh (pxl_call (OkD.dn (ok_is_choice E EA B.C B.T) rfl) v (by decide) (pxa_cons (px_var (i := 1) rfl (.inl rfl)) (pxa_cons (px_var (i := 2) rfl (.inl rfl)) pxa_nil))))))) (pxb_one (pxs_raise (EA.c rfl) v (by decide) (px_var (i := 2) rfl (.inl rfl)))) pxb_nil)
  (pxb_one (pxs_ret (PXL.sh (pxl_call (OkD.dn (ok_better E EA B.C B.T) rfl) v (by decide) (pxa_cons (px_var (i := 0) rfl (.inl rfl)) (pxa_cons (px_var (i := 1) rfl (.inl rfl)) (pxa_cons (px_var (i := 2) rfl (.inl rfl)) pxa_nil)))))))))

abbrev N_even_of : List Str := ["wear", "copies", "choice", "ask", "some", "now", "new", "tape"]
theorem sc_even_of : FnScope N_even_of ["wear", "copies"] (defScope s_even_of) := ⟨rfl, rfl, rfl, by decide +kernel, rfl, by decide +kernel, by decide +kernel⟩
abbrev E_even_of_0 : M PV := (dTup (dCons (dGet (dSlot 5) (dVar 7)) (dCons (dVar 7) dNil)))
abbrev B_even_of_0 : M Fl := (dSeq (dAsg (gNm 5) (asSh (dCall 2 F_loads (dCons (dVar 0) (dCons (dVar 2) dNil)))))
  (dAsg (gNm 2) (dTup (dStar (dSlot 2) (dCons (dGet (dVal (dC1 minV (dVal (dLc [7] (dWalk (dVar 4)) (gNm 7) dYes E_even_of_0)))) (dC (.int 1))) dNil)))))
abbrev W_even_of_0 : M Fl := (dPar 2 6 (dSh (dVar 6)) (dSh (asSh (dCall 3 F_better (dCons (dVar 0) (dCons (dVar 1) (dCons (dVar 6) dNil)))))))
abbrev WT_even_of_0 : M Bool := (dTst (dBin isntV (dVar 6) (dC .non)))
abbrev S_even_of_0 : M Fl := (dAsg (gNm 2) (dTup dNil))
abbrev S_even_of_1 : M Fl := (dFor (dEnum (dVar 1)) (gTp 2 (gCs (gNm 3) (gCs (gNm 4) gNl))) B_even_of_0)
abbrev S_even_of_2 : M Fl := (dAsg (gNm 6) (asSh (dCall 3 F_better (dCons (dVar 0) (dCons (dVar 1) (dCons (dVar 2) dNil))))))
abbrev S_even_of_3 : M Fl := (fun s => dWhl WT_even_of_0 W_even_of_0 (4611686018427387904) s)
abbrev S_even_of_4 : M Fl := (dRet (dVar 2))
abbrev D_even_of : M Fl := (dSeq S_even_of_0
  (dSeq S_even_of_1
  (dSeq S_even_of_2
  (dSeq S_even_of_3
  S_even_of_4))))
abbrev F_even_of : Fn := dFn false N_even_of.length D_even_of
theorem ok_even_of (E : HE fa fn K mg base) (EA : ErrAll errs sub P w K mg base) (C : CloT) (T : List (Addr × Str)) : OkD P w K mg base 5 "even_of" false 2 C T F_even_of := by
  obtain ⟨fd, F⟩ := E.c.def_ 11 (d := d_even_of) rfl
  exact okV (N := N_even_of) (ps := ["wear", "copies"]) F (E.glo 11 rfl) sc_even_of rfl (fun _ _ _ _ _ _ us hl => match us, hl with | [_, _], _ => rfl) fun cdv A outer s H Ex B hC hT v po =>
   (pxb_cons (pxs_set (i := 2) sc_even_of.nd rfl (.inl rfl) (px_tup pxa_nil))
  (pxb_cons (pxs_for po v.calm (nog_tp (nog_cs nog_nm (nog_cs nog_nm nog_nl))) (pxi_enum rfl (E.free 39 rfl) (px_var (i := 1) rfl (.inl rfl))) (pxg_tup v.calm (pxg_cons (pxg_name (i := 3) sc_even_of.nd rfl (.inl rfl)) (pxg_cons (pxg_name (i := 4) sc_even_of.nd rfl (.inl rfl)) pxg_nil))) (pxb_cons (pxs_set (i := 5) sc_even_of.nd rfl (.inr rfl) (PXL.sh (pxl_call (OkD.dn (ok_loads E EA B.C B.T) rfl) v (by decide) (pxa_cons (px_var (i := 0) rfl (.inl rfl)) (pxa_cons (px_var (i := 2) rfl (.inl rfl)) pxa_nil)))))
  (pxb_one (pxs_set (i := 2) sc_even_of.nd rfl (.inl rfl) (px_tup (pxa_star (pxc_slot (i := 2) rfl (.inl rfl)) (pxa_cons (px_get (u1 v.room.units) (pxc_val (px_b1 (c1_min v.calm v.room.units) n1_min rfl (E.free 45 rfl) (by decide +kernel) (pxc_val (PF.px (pf_lc (own := [("tape", 7)]) v.calm sc_even_of.nd (pxi_walk (px_var (i := 4) rfl (.inl rfl))) (blkOk_by (by kernel_rfl)) (fun _ _ _ _ _ _ => (pxh_name (i := 7) (by decide) sc_even_of.nd rfl (.inl rfl))) (fun _ _ _ _ _ _ => pxts_nil) (fun _ _ _ _ _ _ => (px_tup (pxa_cons (px_get (u1 (v.blk _ _ _ _ _ _).room.units) (pxc_slot (i := 5) rfl (.inr (.inl rfl))) (px_var (i := 7) rfl (.inl rfl)) (fun _ _ => rfl)) (pxa_cons (px_var (i := 7) rfl (.inl rfl)) pxa_nil))))))))) px_int (fun _ _ => rfl)) pxa_nil)))))))
  (pxb_cons (pxs_set (i := 6) sc_even_of.nd rfl (.inl rfl) (PXL.sh (pxl_call (OkD.dn (ok_better E EA B.C B.T) rfl) v (by decide) (pxa_cons (px_var (i := 0) rfl (.inl rfl)) (pxa_cons (px_var (i := 1) rfl (.inl rfl)) (pxa_cons (px_var (i := 2) rfl (.inl rfl)) pxa_nil))))))
  (pxb_cons (pxs_while (fun _ => 4611686018427387904) po (pxt_cmp opv_isnt ne_isnt (px_var (i := 6) rfl (.inl rfl)) px_non (nomark _)) (pxb_one (pxs_par (i := 2) (j := 6) v.calm sc_even_of.nd rfl rfl (by decide) rfl rfl (pxl_sh (px_var (i := 6) rfl (.inl rfl))) (fun _ => (pxl_sh (PXL.sh (pxl_call (OkD.dn (ok_better E EA B.C B.T) rfl) v (by decide) (pxa_cons (px_var (i := 0) rfl (.inl rfl)) (pxa_cons (px_var (i := 1) rfl (.inl rfl)) (pxa_cons (px_var (i := 6) rfl (.inl rfl)) pxa_nil))))))) rfl)))
  (pxb_one (pxs_ret (px_var (i := 2) rfl (.inl rfl))))))))

abbrev N_even_choice : List Str := ["wear", "copies"]
theorem sc_even_choice : FnScope N_even_choice ["wear", "copies"] (defScope s_even_choice) := ⟨rfl, rfl, rfl, by decide +kernel, rfl, by decide +kernel, by decide +kernel⟩
abbrev S_even_choice_0 : M Fl := (dExpr (asSh (dCall 2 F_check_wear (dCons (dVar 0) (dCons (dVar 1) dNil)))))
abbrev S_even_choice_1 : M Fl := (dRet (asSh (dCall 2 F_even_of (dCons (dVar 0) (dCons (dVar 1) dNil)))))
abbrev D_even_choice : M Fl := (dSeq S_even_choice_0
  S_even_choice_1)
abbrev F_even_choice : Fn := dFn false N_even_choice.length D_even_choice
theorem ok_even_choice (E : HE fa fn K mg base) (EA : ErrAll errs sub P w K mg base) (C : CloT) (T : List (Addr × Str)) : OkD P w K mg base 7 "even_choice" false 2 C T F_even_choice := by
  obtain ⟨fd, F⟩ := E.c.def_ 12 (d := d_even_choice) rfl
  exact okV (N := N_even_choice) (ps := ["wear", "copies"]) F (E.glo 12 rfl) sc_even_choice rfl (fun _ _ _ _ _ _ us hl => match us, hl with | [_, _], _ => rfl) fun cdv A outer s H Ex B hC hT v po =>
   (pxb_cons (pxs_expr (PXL.sh (pxl_call (OkD.dn (ok_check_wear E EA B.C B.T) rfl) v (by decide) (pxa_cons (px_var (i := 0) rfl (.inl rfl)) (pxa_cons (px_var (i := 1) rfl (.inl rfl)) pxa_nil)))))
  (pxb_one (pxs_ret (PXL.sh (pxl_call (OkD.dn (ok_even_of E EA B.C B.T) rfl) v (by decide) (pxa_cons (px_var (i := 0) rfl (.inl rfl)) (pxa_cons (px_var (i := 1) rfl (.inl rfl)) pxa_nil)))))))

abbrev N_is_even : List Str := ["wear", "copies", "value"]
theorem sc_is_even : FnScope N_is_even ["wear", "copies", "value"] (defScope s_is_even) := ⟨rfl, rfl, rfl, by decide +kernel, rfl, by decide +kernel, by decide +kernel⟩
abbrev S_is_even_0 : M Fl := (dExpr (asSh (dCall 2 F_check_wear (dCons (dVar 0) (dCons (dVar 1) dNil)))))
abbrev S_is_even_1 : M Fl := (dRet (dAndV (asSh (dCall 2 F_is_choice (dCons (dVar 1) (dCons (dVar 2) dNil)))) (dBin isV (asSh (dCall 3 F_better (dCons (dVar 0) (dCons (dVar 1) (dCons (dVar 2) dNil))))) (dC .non))))
abbrev D_is_even : M Fl := (dSeq S_is_even_0
  S_is_even_1)
abbrev F_is_even : Fn := dFn false N_is_even.length D_is_even
theorem ok_is_even (E : HE fa fn K mg base) (EA : ErrAll errs sub P w K mg base) (C : CloT) (T : List (Addr × Str)) : OkD P w K mg base 7 "is_even" false 3 C T F_is_even := by
  obtain ⟨fd, F⟩ := E.c.def_ 13 (d := d_is_even) rfl
  exact okV (N := N_is_even) (ps := ["wear", "copies", "value"]) F (E.glo 13 rfl) sc_is_even rfl (fun _ _ _ _ _ _ us hl => match us, hl with | [_, _, _], _ => rfl) fun cdv A outer s H Ex B hC hT v po =>
   (pxb_cons (pxs_expr (PXL.sh (pxl_call (OkD.dn (ok_check_wear E EA B.C B.T) rfl) v (by decide) (pxa_cons (px_var (i := 0) rfl (.inl rfl)) (pxa_cons (px_var (i := 1) rfl (.inl rfl)) pxa_nil)))))
  (pxb_one (pxs_ret (px_and (PXL.sh (pxl_call (OkD.dn (ok_is_choice E EA B.C B.T) rfl) v (by decide) (pxa_cons (px_var (i := 1) rfl (.inl rfl)) (pxa_cons (px_var (i := 2) rfl (.inl rfl)) pxa_nil)))) (px_one (px_cmp opv_is ne_is (PXL.sh (pxl_call (OkD.dn (ok_better E EA B.C B.T) rfl) v (by decide) (pxa_cons (px_var (i := 0) rfl (.inl rfl)) (pxa_cons (px_var (i := 1) rfl (.inl rfl)) (pxa_cons (px_var (i := 2) rfl (.inl rfl)) pxa_nil))))) px_non (nomark _)))))))

abbrev N_lot_for : List Str := ["wear", "copies", "choice", "now", "tapes", "ask", "tape"]
theorem sc_lot_for : FnScope N_lot_for ["wear", "copies", "choice"] (defScope s_lot_for) := ⟨rfl, rfl, rfl, by decide +kernel, rfl, by decide +kernel, by decide +kernel⟩
abbrev E_lot_for_0 : M PV := (dVar 5)
abbrev T_lot_for_0 : M Bool := (dTst (dInK (dVar 6) (dSlot 4)))
abbrev S_lot_for_0 : M Fl := (dAsg (gNm 3) (asSh (dCall 2 F_loads (dCons (dVar 0) (dCons (dVar 2) dNil)))))
abbrev S_lot_for_1 : M Fl := (dIf (dTst (dBin eqV' (dC1 maxV (dSlot 3)) (dC1 maxV (dSlot 0)))) (dRet (dTup dNil)) dNx)
abbrev S_lot_for_2 : M Fl := (dAsg (gNm 4) (asSh (dCall 3 F_reached (dCons (dVar 1) (dCons (dVar 2) (dCons (dIdx 3 (dC1 maxV (dSlot 3))) dNil))))))
abbrev S_lot_for_3 : M Fl := (dRet (dC1 tupleV (dVal (dLc [5, 6] (dEnum (dVar 2)) (gTp 2 (gCs (gNm 5) (gCs (gNm 6) gNl))) T_lot_for_0 E_lot_for_0))))
abbrev D_lot_for : M Fl := (dSeq S_lot_for_0
  (dSeq S_lot_for_1
  (dSeq S_lot_for_2
  S_lot_for_3)))
abbrev F_lot_for : Fn := dFn false N_lot_for.length D_lot_for
theorem ok_lot_for (E : HE fa fn K mg base) (EA : ErrAll errs sub P w K mg base) (C : CloT) (T : List (Addr × Str)) : OkD P w K mg base 4 "lot_for" false 3 C T F_lot_for := by
  obtain ⟨fd, F⟩ := E.c.def_ 15 (d := d_lot_for) rfl
  exact okV (N := N_lot_for) (ps := ["wear", "copies", "choice"]) F (E.glo 15 rfl) sc_lot_for rfl (fun _ _ _ _ _ _ us hl => match us, hl with | [_, _, _], _ => rfl) fun cdv A outer s H Ex B hC hT v po =>
   (pxb_cons (pxs_set (i := 3) sc_lot_for.nd rfl (.inl rfl) (PXL.sh (pxl_call (OkD.dn (ok_loads E EA B.C B.T) rfl) v (by decide) (pxa_cons (px_var (i := 0) rfl (.inl rfl)) (pxa_cons (px_var (i := 2) rfl (.inl rfl)) pxa_nil)))))
  (pxb_cons (pxs_if (pxt_cmp (opv_eq v.room.units) ne_eq' (px_b1 (c1_max v.calm v.room.units) n1_max rfl (E.free 44 rfl) (by decide +kernel) (pxc_slot (i := 3) rfl (.inl rfl))) (px_b1 (c1_max v.calm v.room.units) n1_max rfl (E.free 44 rfl) (by decide +kernel) (pxc_slot (i := 0) rfl (.inl rfl))) (nomark _)) (pxb_one (pxs_ret (px_tup pxa_nil))) pxb_nil)
  (pxb_cons (pxs_set (i := 4) sc_lot_for.nd rfl (.inr rfl) (PXL.sh (pxl_call (OkD.dn (ok_reached E EA B.C B.T) rfl) v (by decide) (pxa_cons (px_var (i := 1) rfl (.inl rfl)) (pxa_cons (px_var (i := 2) rfl (.inl rfl)) (pxa_cons (px_idx (i := 3) rfl (.inl rfl) (px_b1 (c1_max v.calm v.room.units) n1_max rfl (E.free 44 rfl) (by decide +kernel) (pxc_slot (i := 3) rfl (.inl rfl)))) pxa_nil))))))
  (pxb_one (pxs_ret (px_t1 c1_tuple n1_tuple rfl (E.free 51 rfl) (by decide +kernel) (pxc_val (PF.px (pf_lc (own := [("ask", 5), ("tape", 6)]) v.calm sc_lot_for.nd (pxi_enum rfl (E.free 39 rfl) (px_var (i := 2) rfl (.inl rfl))) (blkOk_by (by kernel_rfl)) (fun _ _ _ _ _ _ => (pxh_tup (v.blk _ _ _ _ _ _).calm (pxh_cons (pxh_name (i := 5) (by decide) sc_lot_for.nd rfl (.inl rfl)) (pxh_cons (pxh_name (i := 6) (by decide) sc_lot_for.nd rfl (.inl rfl)) pxh_nil)))) (fun _ _ _ _ _ _ => (pxts_one (pxt_inK (u1 (v.blk _ _ _ _ _ _).room.units) (px_var (i := 6) rfl (.inl rfl)) (pxc_slot (i := 4) rfl (.inr (.inl rfl)))))) (fun _ _ _ _ _ _ => (px_var (i := 5) rfl (.inl rfl))))))))))))

abbrev N_least_wear : List Str := ["wear", "copies", "choice"]
theorem sc_least_wear : FnScope N_least_wear ["wear", "copies"] (defScope s_least_wear) := ⟨rfl, rfl, rfl, by decide +kernel, rfl, by decide +kernel, by decide +kernel⟩
abbrev S_least_wear_0 : M Fl := (dAsg (gNm 2) (asSh (dCall 2 F_even_choice (dCons (dVar 0) (dCons (dVar 1) dNil)))))
abbrev S_least_wear_1 : M Fl := (dRet (dTup (dCons (dC1 maxV (dVal (asSh (dCall 2 F_loads (dCons (dVar 0) (dCons (dVar 2) dNil)))))) (dCons (dVar 2) (dCons (asSh (dCall 3 F_lot_for (dCons (dVar 0) (dCons (dVar 1) (dCons (dVar 2) dNil))))) dNil)))))
abbrev D_least_wear : M Fl := (dSeq S_least_wear_0
  S_least_wear_1)
abbrev F_least_wear : Fn := dFn false N_least_wear.length D_least_wear
theorem ok_least_wear (E : HE fa fn K mg base) (EA : ErrAll errs sub P w K mg base) (C : CloT) (T : List (Addr × Str)) : OkD P w K mg base 8 "least_wear" false 2 C T F_least_wear := by
  obtain ⟨fd, F⟩ := E.c.def_ 16 (d := d_least_wear) rfl
  exact okV (N := N_least_wear) (ps := ["wear", "copies"]) F (E.glo 16 rfl) sc_least_wear rfl (fun _ _ _ _ _ _ us hl => match us, hl with | [_, _], _ => rfl) fun cdv A outer s H Ex B hC hT v po =>
   (pxb_cons (pxs_set (i := 2) sc_least_wear.nd rfl (.inl rfl) (PXL.sh (pxl_call (OkD.dn (ok_even_choice E EA B.C B.T) rfl) v (by decide) (pxa_cons (px_var (i := 0) rfl (.inl rfl)) (pxa_cons (px_var (i := 1) rfl (.inl rfl)) pxa_nil)))))
  (pxb_one (pxs_ret (px_tup (pxa_cons (px_b1 (c1_max v.calm v.room.units) n1_max rfl (E.free 44 rfl) (by decide +kernel) (pxc_val (PXL.sh (pxl_call (OkD.dn (ok_loads E EA B.C B.T) rfl) v (by decide) (pxa_cons (px_var (i := 0) rfl (.inl rfl)) (pxa_cons (px_var (i := 2) rfl (.inl rfl)) pxa_nil)))))) (pxa_cons (px_var (i := 2) rfl (.inl rfl)) (pxa_cons (PXL.sh (pxl_call (OkD.dn (ok_lot_for E EA B.C B.T) rfl) v (by decide) (pxa_cons (px_var (i := 0) rfl (.inl rfl)) (pxa_cons (px_var (i := 1) rfl (.inl rfl)) (pxa_cons (px_var (i := 2) rfl (.inl rfl)) pxa_nil))))) pxa_nil)))))))

abbrev N_asks_for : List Str := ["wear", "copies", "lot", "tapes", "ask", "some", "left", "level", "tape", "one"]
theorem sc_asks_for : FnScope N_asks_for ["wear", "copies", "lot"] (defScope s_asks_for) := ⟨rfl, rfl, rfl, by decide +kernel, rfl, by decide +kernel, by decide +kernel⟩
abbrev B_asks_for_0 : M Fl := (dExpr (dUpd 3 (dDc [8] (dWalk (dGet (dSlot 1) (dVar 4))) (gNm 8) dYes (dVar 8) (dC (.bl true)))))
abbrev E_asks_for_0 : M PV := (dGet (dSlot 0) (dVar 8))
abbrev E_asks_for_1 : M PV := (dBin subV (dVar 7) (dVar 9))
abbrev T_asks_for_0 : M Bool := (dTst (dBin ltV (dVar 9) (dVar 7)))
abbrev W_asks_for_0 : M Fl := (dSeq (dAsg (gNm 7) (dBin addV (dVar 7) (dC (.int 1))))
  (dAsg (gNm 6) (dBin subV (dC1 lenV (dSlot 2)) (dC1 sumL (dVal (dLc [9] (dWalk (dVar 5)) (gNm 9) T_asks_for_0 E_asks_for_1))))))
abbrev WT_asks_for_0 : M Bool := (dTst (dBin gtV (dVar 6) (dC (.int 0))))
abbrev S_asks_for_0 : M Fl := (dOwn 3 dEmp)
abbrev S_asks_for_1 : M Fl := (dFor (dWalk (dVar 2)) (gNm 4) B_asks_for_0)
abbrev S_asks_for_2 : M Fl := (dPar 5 6 (dSh (dLc [8] (dWalk (dVar 3)) (gNm 8) dYes E_asks_for_0)) (dSh (dC1 lenV (dSlot 2))))
abbrev S_asks_for_3 : M Fl := (dAsg (gNm 7) (dIfE (dTst (dBin neV (dVar 5) (dLst dNil))) (dC1 minV (dSlot 5)) (dC (.int 0))))
abbrev S_asks_for_4 : M Fl := (fun s => dWhl WT_asks_for_0 W_asks_for_0 (4611686018427387904) s)
abbrev S_asks_for_5 : M Fl := (dRet (dVar 7))
abbrev D_asks_for : M Fl := (dSeq S_asks_for_0
  (dSeq S_asks_for_1
  (dSeq S_asks_for_2
  (dSeq S_asks_for_3
  (dSeq S_asks_for_4
  S_asks_for_5)))))
abbrev F_asks_for : Fn := dFn false N_asks_for.length D_asks_for
theorem ok_asks_for (E : HE fa fn K mg base) (EA : ErrAll errs sub P w K mg base) (C : CloT) (T : List (Addr × Str)) : OkD P w K mg base 3 "asks_for" false 3 C T F_asks_for := by
  obtain ⟨fd, F⟩ := E.c.def_ 17 (d := d_asks_for) rfl
  exact okV (N := N_asks_for) (ps := ["wear", "copies", "lot"]) F (E.glo 17 rfl) sc_asks_for rfl (fun _ _ _ _ _ _ us hl => match us, hl with | [_, _, _], _ => rfl) fun cdv A outer s H Ex B hC hT v po =>
   (pxb_cons (pxs_own (i := 3) sc_asks_for.nd rfl (.inl rfl) pf_dict)
  (pxb_cons (pxs_for po v.calm nog_nm (pxi_walk (px_var (i := 2) rfl (.inl rfl))) (pxg_name (i := 4) sc_asks_for.nd rfl (.inl rfl)) (pxb_one (pxs_expr (px_upd (i := 3) rfl (.inl rfl) (pf_dc (own := [("tape", 8)]) v.calm sc_asks_for.nd (pxi_walk (px_get (u1 v.room.units) (pxc_slot (i := 1) rfl (.inl rfl)) (px_var (i := 4) rfl (.inl rfl)) (fun _ _ => rfl))) (blkOk_by (by kernel_rfl)) (fun _ _ _ _ _ _ => (pxh_name (i := 8) (by decide) sc_asks_for.nd rfl (.inl rfl))) (fun _ _ _ _ _ _ => pxts_nil) (fun _ _ _ _ _ _ => (px_var (i := 8) rfl (.inl rfl))) (fun _ _ _ _ _ _ => px_bl))))))
  (pxb_cons (pxs_par (i := 5) (j := 6) v.calm sc_asks_for.nd rfl rfl (by decide) rfl rfl (pxl_sh (PF.px (pf_lc (own := [("tape", 8)]) v.calm sc_asks_for.nd (pxi_walk (px_var (i := 3) rfl (.inl rfl))) (blkOk_by (by kernel_rfl)) (fun _ _ _ _ _ _ => (pxh_name (i := 8) (by decide) sc_asks_for.nd rfl (.inl rfl))) (fun _ _ _ _ _ _ => pxts_nil) (fun _ _ _ _ _ _ => (px_get (u1 (v.blk _ _ _ _ _ _).room.units) (pxc_slot (i := 0) rfl (.inr (.inl rfl))) (px_var (i := 8) rfl (.inl rfl)) (fun _ _ => rfl)))))) (fun _ => (pxl_sh (px_b1 c1_len n1_len rfl (E.free 42 rfl) (by decide +kernel) (pxc_slot (i := 2) rfl (.inl rfl))))) rfl)
  (pxb_cons (pxs_set (i := 7) sc_asks_for.nd rfl (.inr rfl) (px_ife (pxt_cmp (opv_ne v.room.units) ne_ne (px_var (i := 5) rfl (.inl rfl)) (PF.px (pf_lst pxa_nil)) (nomark _)) (px_b1 (c1_min v.calm v.room.units) n1_min rfl (E.free 45 rfl) (by decide +kernel) (pxc_slot (i := 5) rfl (.inl rfl))) px_int))
  (pxb_cons (pxs_while (fun _ => 4611686018427387904) po (pxt_cmp (opv_gt v.room.units) ne_gt (px_var (i := 6) rfl (.inl rfl)) px_int (nomark _)) (pxb_cons (pxs_set (i := 7) sc_asks_for.nd rfl (.inr rfl) (px_bin opv_add ne_add (px_var (i := 7) rfl (.inr (.inl rfl))) px_int))
  (pxb_one (pxs_set (i := 6) sc_asks_for.nd rfl (.inl rfl) (px_bin opv_sub ne_sub (px_b1 c1_len n1_len rfl (E.free 42 rfl) (by decide +kernel) (pxc_slot (i := 2) rfl (.inl rfl))) (px_b1 (c1_sum' v.calm) n1_sum' rfl (E.free 50 rfl) (by decide +kernel) (pxc_val (PF.px (pf_lc (own := [("one", 9)]) v.calm sc_asks_for.nd (pxi_walk (px_var (i := 5) rfl (.inl rfl))) (blkOk_by (by kernel_rfl)) (fun _ _ _ _ _ _ => (pxh_name (i := 9) (by decide) sc_asks_for.nd rfl (.inl rfl))) (fun _ _ _ _ _ _ => (pxts_one (pxt_cmp (opv_lt (v.blk _ _ _ _ _ _).room.units) ne_lt (px_var (i := 9) rfl (.inl rfl)) (px_var (i := 7) rfl (.inr (.inl rfl))) (nomark _)))) (fun _ _ _ _ _ _ => (px_bin opv_sub ne_sub (px_var (i := 7) rfl (.inr (.inl rfl))) (px_var (i := 9) rfl (.inl rfl)))))))))))))
  (pxb_one (pxs_ret (px_var (i := 7) rfl (.inr (.inl rfl))))))))))

abbrev N_check_lot : List Str := ["copies", "value", "one"]
theorem sc_check_lot : FnScope N_check_lot ["copies", "value"] (defScope s_check_lot) := ⟨rfl, rfl, rfl, by decide +kernel, rfl, by decide +kernel, by decide +kernel⟩
abbrev E_check_lot_0 : M PV := (asSh (dCall 3 F_is_integer (dCons (dVar 2) (dCons (dC (.int 0)) (dCons (dBin subV (dC1 lenV (dSlot 0)) (dC (.int 1))) dNil)))))
abbrev S_check_lot_0 : M Fl := (dIf (dOr (dNot (dTru (dVal (asSh (dCall 3 F_is_tuple (dCons (dVar 1) (dCons (dC (.int 0)) (dCons (dC1 lenV (dSlot 0)) dNil)))))))) (dNot (dTru (dVal (dC1 allV (dVal (dLc [2] (dWalk (dVar 1)) (gNm 2) dYes E_check_lot_0))))))) (dRaise "BadLot" (dVar 1)) dNx)
abbrev S_check_lot_1 : M Fl := (dIf (dNot (dTru (dVal (asSh (dCall 1 F_is_rising (dCons (dVar 1) dNil)))))) (dRaise "BadLot" (dVar 1)) dNx)
abbrev D_check_lot : M Fl := (dSeq S_check_lot_0
  S_check_lot_1)
abbrev F_check_lot : Fn := dFn false N_check_lot.length D_check_lot
theorem ok_check_lot (E : HE fa fn K mg base) (EA : ErrAll errs sub P w K mg base) (C : CloT) (T : List (Addr × Str)) : OkD P w K mg base 5 "check_lot" false 2 C T F_check_lot := by
  obtain ⟨fd, F⟩ := E.c.def_ 18 (d := d_check_lot) rfl
  exact okV (N := N_check_lot) (ps := ["copies", "value"]) F (E.glo 18 rfl) sc_check_lot rfl (fun _ _ _ _ _ _ us hl => match us, hl with | [_, _], _ => rfl) fun cdv A outer s H Ex B hC hT v po =>
   (pxb_cons (pxs_if (PXW.t (pxw_or (pxt_not (pxt_tru (pxc_val (PXL.sh (pxl_call (OkD.dn (ok_is_tuple E EA B.C B.T) rfl) v (by decide) (pxa_cons (px_var (i := 1) rfl (.inl rfl)) (pxa_cons px_int (pxa_cons (px_b1 c1_len n1_len rfl (E.free 42 rfl) (by decide +kernel) (pxc_slot (i := 0) rfl (.inr (.inl rfl)))) pxa_nil)))))))) (pxw_or1 (pxt_not (pxt_tru (pxc_val (px_b1 (c1_all v.calm) n1_all rfl (E.free 37 rfl) (by decide +kernel) (pxc_val (PF.px (pf_lc (own := [("one", 2)]) v.calm sc_check_lot.nd (pxi_walk (px_var (i := 1) rfl (.inl rfl))) (blkOk_by (by kernel_rfl)) (fun _ _ _ _ _ _ => (pxh_name (i := 2) (by decide) sc_check_lot.nd rfl (.inl rfl))) (fun _ _ _ _ _ _ => pxts_nil) (fun _ _ _ _ _ _ => (PXL.sh (pxl_call (OkD.dn (ok_is_integer E EA B.C B.T) rfl) (v.blk _ _ _ _ _ _) (by decide) (pxa_cons (px_var (i := 2) rfl (.inl rfl)) (pxa_cons px_int (pxa_cons (px_bin opv_sub ne_sub (px_b1 c1_len n1_len rfl (E.free 42 rfl) (by decide +kernel) (pxc_slot (i := 0) rfl (.inr (.inl rfl)))) px_int) pxa_nil)))))))))))))))) (pxb_one (pxs_raise (EA.c rfl) v (by decide) (px_var (i := 1) rfl (.inl rfl)))) pxb_nil)
  (pxb_one (pxs_if (pxt_not (pxt_tru (pxc_val (PXL.sh (pxl_call (OkD.dn (ok_is_rising E EA B.C B.T) rfl) v (by decide) (pxa_cons (px_var (i := 1) rfl (.inl rfl)) pxa_nil)))))) (pxb_one (pxs_raise (EA.c rfl) v (by decide) (px_var (i := 1) rfl (.inl rfl)))) pxb_nil)))

abbrev N_needs : List Str := ["wear", "copies", "lot"]
theorem sc_needs : FnScope N_needs ["wear", "copies", "lot"] (defScope s_needs) := ⟨rfl, rfl, rfl, by decide +kernel, rfl, by decide +kernel, by decide +kernel⟩
abbrev S_needs_0 : M Fl := (dExpr (asSh (dCall 2 F_check_wear (dCons (dVar 0) (dCons (dVar 1) dNil)))))
abbrev S_needs_1 : M Fl := (dExpr (asSh (dCall 2 F_check_lot (dCons (dVar 1) (dCons (dVar 2) dNil)))))
abbrev S_needs_2 : M Fl := (dRet (asSh (dCall 3 F_asks_for (dCons (dVar 0) (dCons (dVar 1) (dCons (dVar 2) dNil))))))
abbrev D_needs : M Fl := (dSeq S_needs_0
  (dSeq S_needs_1
  S_needs_2))
abbrev F_needs : Fn := dFn false N_needs.length D_needs
theorem ok_needs (E : HE fa fn K mg base) (EA : ErrAll errs sub P w K mg base) (C : CloT) (T : List (Addr × Str)) : OkD P w K mg base 7 "needs" false 3 C T F_needs := by
  obtain ⟨fd, F⟩ := E.c.def_ 19 (d := d_needs) rfl
  exact okV (N := N_needs) (ps := ["wear", "copies", "lot"]) F (E.glo 19 rfl) sc_needs rfl (fun _ _ _ _ _ _ us hl => match us, hl with | [_, _, _], _ => rfl) fun cdv A outer s H Ex B hC hT v po =>
   (pxb_cons (pxs_expr (PXL.sh (pxl_call (OkD.dn (ok_check_wear E EA B.C B.T) rfl) v (by decide) (pxa_cons (px_var (i := 0) rfl (.inl rfl)) (pxa_cons (px_var (i := 1) rfl (.inl rfl)) pxa_nil)))))
  (pxb_cons (pxs_expr (PXL.sh (pxl_call (OkD.dn (ok_check_lot E EA B.C B.T) rfl) v (by decide) (pxa_cons (px_var (i := 1) rfl (.inl rfl)) (pxa_cons (px_var (i := 2) rfl (.inl rfl)) pxa_nil)))))
  (pxb_one (pxs_ret (PXL.sh (pxl_call (OkD.dn (ok_asks_for E EA B.C B.T) rfl) v (by decide) (pxa_cons (px_var (i := 0) rfl (.inl rfl)) (pxa_cons (px_var (i := 1) rfl (.inl rfl)) (pxa_cons (px_var (i := 2) rfl (.inl rfl)) pxa_nil)))))))))

abbrev N_shows_least : List Str := ["wear", "copies", "value", "most", "choice", "lot", "one"]
theorem sc_shows_least : FnScope N_shows_least ["wear", "copies", "value"] (defScope s_shows_least) := ⟨rfl, rfl, rfl, by decide +kernel, rfl, by decide +kernel, by decide +kernel⟩
abbrev E_shows_least_0 : M PV := (asSh (dCall 3 F_is_integer (dCons (dVar 6) (dCons (dC (.int 0)) (dCons (dBin subV (dC1 lenV (dSlot 1)) (dC (.int 1))) dNil)))))
abbrev S_shows_least_0 : M Fl := (dExpr (asSh (dCall 2 F_check_wear (dCons (dVar 0) (dCons (dVar 1) dNil)))))
abbrev S_shows_least_1 : M Fl := (dIf (dOr (dNot (dTru (dVal (asSh (dCall 3 F_is_tuple (dCons (dVar 2) (dCons (dC (.int 3)) (dCons (dC (.int 3)) dNil)))))))) (dNot (dTru (dVal (asSh (dCall 3 F_is_integer (dCons (dGet (dSlot 2) (dC (.int 0))) (dCons (dC (.int 0)) (dCons (dBin mulV (dC (.int 2)) (dC (.int 1000000))) dNil))))))))) (dRet (dC (.bl false))) dNx)
abbrev S_shows_least_2 : M Fl := (dAsg (gTp 3 (gCs (gNm 3) (gCs (gNm 4) (gCs (gNm 5) gNl)))) (dVar 2))
abbrev S_shows_least_3 : M Fl := (dIf (dOr (dNot (dTru (dVal (asSh (dCall 2 F_is_choice (dCons (dVar 1) (dCons (dVar 4) dNil))))))) (dTst (dBin neV (dC1 maxV (dVal (asSh (dCall 2 F_loads (dCons (dVar 0) (dCons (dVar 4) dNil)))))) (dVar 3)))) (dRet (dC (.bl false))) dNx)
abbrev S_shows_least_4 : M Fl := (dIf (dOr (dNot (dTru (dVal (asSh (dCall 3 F_is_tuple (dCons (dVar 5) (dCons (dC (.int 0)) (dCons (dC1 lenV (dSlot 1)) dNil)))))))) (dNot (dTru (dVal (dC1 allV (dVal (dLc [6] (dWalk (dVar 5)) (gNm 6) dYes E_shows_least_0))))))) (dRet (dC (.bl false))) dNx)
abbrev S_shows_least_5 : M Fl := (dIf (dNot (dTru (dVal (asSh (dCall 1 F_is_rising (dCons (dVar 5) dNil)))))) (dRet (dC (.bl false))) dNx)
abbrev S_shows_least_6 : M Fl := (dRet (dIfE (dTst (dBin eqV' (dVar 5) (dTup dNil))) (dBin eqV' (dVar 3) (dC1 maxV (dSlot 0))) (dBin eqV' (asSh (dCall 3 F_asks_for (dCons (dVar 0) (dCons (dVar 1) (dCons (dVar 5) dNil))))) (dVar 3))))
abbrev D_shows_least : M Fl := (dSeq S_shows_least_0
  (dSeq S_shows_least_1
  (dSeq S_shows_least_2
  (dSeq S_shows_least_3
  (dSeq S_shows_least_4
  (dSeq S_shows_least_5
  S_shows_least_6))))))
abbrev F_shows_least : Fn := dFn false N_shows_least.length D_shows_least
theorem ok_shows_least (E : HE fa fn K mg base) (EA : ErrAll errs sub P w K mg base) (C : CloT) (T : List (Addr × Str)) : OkD P w K mg base 7 "shows_least" false 3 C T F_shows_least := by
  obtain ⟨fd, F⟩ := E.c.def_ 20 (d := d_shows_least) rfl
  exact okV (N := N_shows_least) (ps := ["wear", "copies", "value"]) F (E.glo 20 rfl) sc_shows_least rfl (fun _ _ _ _ _ _ us hl => match us, hl with | [_, _, _], _ => rfl) fun cdv A outer s H Ex B hC hT v po =>
   (pxb_cons (pxs_expr (PXL.sh (pxl_call (OkD.dn (ok_check_wear E EA B.C B.T) rfl) v (by decide) (pxa_cons (px_var (i := 0) rfl (.inl rfl)) (pxa_cons (px_var (i := 1) rfl (.inr (.inl rfl))) pxa_nil)))))
  (pxb_cons (pxs_if (PXW.t (pxw_or (pxt_not (pxt_tru (pxc_val (PXL.sh (pxl_call (OkD.dn (ok_is_tuple E EA B.C B.T) rfl) v (by decide) (pxa_cons (px_var (i := 2) rfl (.inl rfl)) (pxa_cons (px_gint rfl (E.int 57 rfl)) (pxa_cons (px_gint rfl (E.int 57 rfl)) pxa_nil)))))))) (pxw_or1 (pxt_not (pxt_tru (pxc_val (PXL.sh (pxl_call (OkD.dn (ok_is_integer E EA B.C B.T) rfl) v (by decide) (pxa_cons (px_get (u1 v.room.units) (pxc_slot (i := 2) rfl (.inl rfl)) px_int (fun _ _ => rfl)) (pxa_cons px_int (pxa_cons (px_bin opv_mul ne_mul (px_gint rfl (E.int 56 rfl)) (px_gint rfl (E.int 55 rfl))) pxa_nil))))))))))) (pxb_one (pxs_ret px_bl)) pxb_nil)
  (pxb_cons (pxs_asg (nog_tp (nog_cs nog_nm (nog_cs nog_nm (nog_cs nog_nm nog_nl)))) (px_var (i := 2) rfl (.inl rfl)) (pxg_tup v.calm (pxg_cons (pxg_name (i := 3) sc_shows_least.nd rfl (.inl rfl)) (pxg_cons (pxg_name (i := 4) sc_shows_least.nd rfl (.inl rfl)) (pxg_cons (pxg_name (i := 5) sc_shows_least.nd rfl (.inl rfl)) pxg_nil)))))
  (pxb_cons (pxs_if (PXW.t (pxw_or (pxt_not (pxt_tru (pxc_val (PXL.sh (pxl_call (OkD.dn (ok_is_choice E EA B.C B.T) rfl) v (by decide) (pxa_cons (px_var (i := 1) rfl (.inr (.inl rfl))) (pxa_cons (px_var (i := 4) rfl (.inl rfl)) pxa_nil))))))) (pxw_or1 (pxt_cmp (opv_ne v.room.units) ne_ne (px_b1 (c1_max v.calm v.room.units) n1_max rfl (E.free 44 rfl) (by decide +kernel) (pxc_val (PXL.sh (pxl_call (OkD.dn (ok_loads E EA B.C B.T) rfl) v (by decide) (pxa_cons (px_var (i := 0) rfl (.inl rfl)) (pxa_cons (px_var (i := 4) rfl (.inl rfl)) pxa_nil)))))) (px_var (i := 3) rfl (.inl rfl)) (nomark _))))) (pxb_one (pxs_ret px_bl)) pxb_nil)
  (pxb_cons (pxs_if (PXW.t (pxw_or (pxt_not (pxt_tru (pxc_val (PXL.sh (pxl_call (OkD.dn (ok_is_tuple E EA B.C B.T) rfl) v (by decide) (pxa_cons (px_var (i := 5) rfl (.inl rfl)) (pxa_cons px_int (pxa_cons (px_b1 c1_len n1_len rfl (E.free 42 rfl) (by decide +kernel) (pxc_slot (i := 1) rfl (.inr (.inl rfl)))) pxa_nil)))))))) (pxw_or1 (pxt_not (pxt_tru (pxc_val (px_b1 (c1_all v.calm) n1_all rfl (E.free 37 rfl) (by decide +kernel) (pxc_val (PF.px (pf_lc (own := [("one", 6)]) v.calm sc_shows_least.nd (pxi_walk (px_var (i := 5) rfl (.inl rfl))) (blkOk_by (by kernel_rfl)) (fun _ _ _ _ _ _ => (pxh_name (i := 6) (by decide) sc_shows_least.nd rfl (.inl rfl))) (fun _ _ _ _ _ _ => pxts_nil) (fun _ _ _ _ _ _ => (PXL.sh (pxl_call (OkD.dn (ok_is_integer E EA B.C B.T) rfl) (v.blk _ _ _ _ _ _) (by decide) (pxa_cons (px_var (i := 6) rfl (.inl rfl)) (pxa_cons px_int (pxa_cons (px_bin opv_sub ne_sub (px_b1 c1_len n1_len rfl (E.free 42 rfl) (by decide +kernel) (pxc_slot (i := 1) rfl (.inr (.inl rfl)))) px_int) pxa_nil)))))))))))))))) (pxb_one (pxs_ret px_bl)) pxb_nil)
  (pxb_cons (pxs_if (pxt_not (pxt_tru (pxc_val (PXL.sh (pxl_call (OkD.dn (ok_is_rising E EA B.C B.T) rfl) v (by decide) (pxa_cons (px_var (i := 5) rfl (.inl rfl)) pxa_nil)))))) (pxb_one (pxs_ret px_bl)) pxb_nil)
  (pxb_one (pxs_ret (px_ife (pxt_cmp (opv_eq v.room.units) ne_eq' (px_var (i := 5) rfl (.inl rfl)) (px_tup pxa_nil) (nomark _)) (px_cmp (opv_eq v.room.units) ne_eq' (px_var (i := 3) rfl (.inl rfl)) (px_b1 (c1_max v.calm v.room.units) n1_max rfl (E.free 44 rfl) (by decide +kernel) (pxc_slot (i := 0) rfl (.inl rfl))) (nomark _)) (px_cmp (opv_eq v.room.units) ne_eq' (PXL.sh (pxl_call (OkD.dn (ok_asks_for E EA B.C B.T) rfl) v (by decide) (pxa_cons (px_var (i := 0) rfl (.inl rfl)) (pxa_cons (px_var (i := 1) rfl (.inr (.inl rfl))) (pxa_cons (px_var (i := 5) rfl (.inl rfl)) pxa_nil))))) (px_var (i := 3) rfl (.inl rfl)) (nomark _)))))))))))

abbrev N__law_right : List Str := ["pot", "wear", "copies", "most", "choice", "lot", "names", "other", "its", "tape", "name", "fewer", "much", "even", "loads_v", "here", "steps", "new", "some", "one", "two"]
theorem sc__law_right : FnScope N__law_right ["pot"] (defScope s__law_right) := ⟨rfl, rfl, rfl, by decide +kernel, rfl, by decide +kernel, by decide +kernel⟩
abbrev E__law_right_0 : M PV := (dBin inV (dVar 9) (dVar 18))
abbrev E__law_right_1 : M PV := (dGet (dSlot 6) (dVar 9))
abbrev E__law_right_2 : M PV := (dC1 tupleV (dVal (dC1F sortL (dVal (dLc [9] (dWalk (dVar 18)) (gNm 9) dYes E__law_right_1)))))
abbrev B__law_right_0 : M Fl := (dPut 8 (dVar 10) (dGet (dSlot 1) (dVar 9)))
abbrev E__law_right_3 : M PV := (dBin addV (dVar 19) (dVar 12))
abbrev E__law_right_4 : M PV := (asSh (dCallI 0 2 F__law_of (dCons (dVar 18) dNil)))
abbrev E__law_right_5 : M PV := (dC (.int 1))
abbrev T__law_right_0 : M Bool := (dTst (dBin neV (dVar 19) (dVar 20)))
abbrev W__law_right_0 : M Fl := (dSeq (dIf (dTst (dBin ltV (dC1 lenV (dVal (dLc [19, 20] (dZip (dVar 15) (dVar 17)) (gTp 2 (gCs (gNm 19) (gCs (gNm 20) gNl))) T__law_right_0 E__law_right_5))) (dC (.int 1)))) (dRet (dC (.bl false))) dNx)
  (dSeq (dPar 15 16 (dSh (dVar 17)) (dSh (dBin addV (dVar 16) (dC (.int 1)))))
  (dAsg (gNm 17) (asSh (dCall 3 F_chain (dCons (dVar 1) (dCons (dVar 2) (dCons (dVar 15) dNil))))))))
abbrev WT__law_right_0 : M Bool := (dAnd (dTst (dBin isntV (dVar 17) (dC .non))) (dTst (dBin ltV (dVar 16) (dC (.int 200)))))
abbrev S__law_right_0 : M Fl := (dAsg (gTp 2 (gCs (gNm 1) (gCs (gNm 2) gNl))) (asSh (dCallI 0 1 F__law_drawn dNil)))
abbrev S__law_right_1 : M Fl := (dAsg (gTp 3 (gCs (gNm 3) (gCs (gNm 4) (gCs (gNm 5) gNl)))) (asSh (dCall 2 F_least_wear (dCons (dVar 1) (dCons (dVar 2) dNil)))))
abbrev S__law_right_2 : M Fl := (dIf (dOr (dTst (dBin neV (dC1 maxV (dVal (asSh (dCall 2 F__law_loads (dCons (dVar 1) (dCons (dVar 4) dNil)))))) (dVar 3))) (dNot (dTru (dVal (dC1 allV (dVal (dLc [9, 18] (dZip (dVar 4) (dVar 2)) (gTp 2 (gCs (gNm 9) (gCs (gNm 18) gNl))) dYes E__law_right_0))))))) (dRet (dC (.bl false))) dNx)
abbrev S__law_right_3 : M Fl := (dIf (dOr (dAnd (dTst (dBin eqV' (dVar 5) (dTup dNil))) (dTst (dBin neV (dVar 3) (dC1 maxV (dSlot 1))))) (dAnd (dTst (dBin neV (dVar 5) (dTup dNil))) (dTst (dBin neV (asSh (dCall 3 F__law_room (dCons (dVar 1) (dCons (dVar 2) (dCons (dVar 5) dNil))))) (dVar 3))))) (dRet (dC (.bl false))) dNx)
abbrev S__law_right_4 : M Fl := (dIf (dOr (dTst (dBin isntV (asSh (dCall 3 F_shows_least (dCons (dVar 1) (dCons (dVar 2) (dCons (dTup (dCons (dVar 3) (dCons (dVar 4) (dCons (dVar 5) dNil)))) dNil))))) (dC (.bl true)))) (dAnd (dTst (dBin neV (dVar 5) (dTup dNil))) (dTst (dBin neV (asSh (dCall 3 F_needs (dCons (dVar 1) (dCons (dVar 2) (dCons (dVar 5) dNil))))) (dVar 3))))) (dRet (dC (.bl false))) dNx)
abbrev S__law_right_5 : M Fl := (dAsg (gNm 6) (asSh (dCallI 0 3 F__law_some (dCons (dListRange (dC (.int 12))) (dCons (dC (.int 12)) dNil)))))
abbrev S__law_right_6 : M Fl := (dAsg (gNm 7) (dC1 tupleV (dVal (dLc [18] (dWalk (dVar 2)) (gNm 18) dYes E__law_right_2))))
abbrev S__law_right_7 : M Fl := (dOwn 8 (dMulC (dCons (dC (.int 0)) dNil) 12))
abbrev S__law_right_8 : M Fl := (dFor (dEnum (dVar 6)) (gTp 2 (gCs (gNm 9) (gCs (gNm 10) gNl))) B__law_right_0)
abbrev S__law_right_9 : M Fl := (dIf (dTst (dBin neV (dGet (dVal (asSh (dCall 2 F_least_wear (dCons (dC1 tupleV (dSlot 8)) (dCons (dVar 7) dNil))))) (dC (.int 0))) (dVar 3))) (dRet (dC (.bl false))) dNx)
abbrev S__law_right_10 : M Fl := (dAsg (gNm 11) (dGet (dVal (asSh (dCall 2 F_least_wear (dCons (dVar 1) (dCons (dCut (dSlot 2) (dPart (dC (.int 1))) dNo) dNil))))) (dC (.int 0))))
abbrev S__law_right_11 : M Fl := (dIf (dNot (dTst (dChain leV leV (dBin subV (dVar 3) (dC (.int 1))) (dVar 11) (dVar 3)))) (dRet (dC (.bl false))) dNx)
abbrev S__law_right_12 : M Fl := (dAsg (gNm 12) (asSh (dCallI 0 2 F__law_take (dCons (dC (.int 1000)) dNil))))
abbrev S__law_right_13 : M Fl := (dIf (dTst (dBin neV (dGet (dVal (asSh (dCall 2 F_least_wear (dCons (dC1 tupleV (dVal (dLc [19] (dWalk (dVar 1)) (gNm 19) dYes E__law_right_3))) (dCons (dVar 2) dNil))))) (dC (.int 0))) (dBin addV (dVar 3) (dVar 12)))) (dRet (dC (.bl false))) dNx)
abbrev S__law_right_14 : M Fl := (dAsg (gNm 13) (asSh (dCall 2 F_even_choice (dCons (dVar 1) (dCons (dVar 2) dNil)))))
abbrev S__law_right_15 : M Fl := (dAsg (gNm 14) (dC1F sortL (dVal (asSh (dCall 2 F__law_loads (dCons (dVar 1) (dCons (dVar 13) dNil)))))))
abbrev S__law_right_16 : M Fl := (dIf (dOr (dTst (dBin neV (dGet (dSlot 14) (dNeg (dC (.int 1)))) (dVar 3))) (dTst (dBin isntV (asSh (dCall 3 F_is_even (dCons (dVar 1) (dCons (dVar 2) (dCons (dVar 13) dNil))))) (dC (.bl true))))) (dRet (dC (.bl false))) dNx)
abbrev S__law_right_17 : M Fl := (dPar 15 16 (dSh (dC1 tupleV (dVal (dLc [18] (dWalk (dVar 2)) (gNm 18) dYes E__law_right_4)))) (dSh (dC (.int 0))))
abbrev S__law_right_18 : M Fl := (dAsg (gNm 17) (asSh (dCall 3 F_chain (dCons (dVar 1) (dCons (dVar 2) (dCons (dVar 15) dNil))))))
abbrev S__law_right_19 : M Fl := (fun s => dWhl WT__law_right_0 W__law_right_0 (4611686018427387904) s)
abbrev S__law_right_20 : M Fl := (dRet (dAndV (dBin isV (dVar 17) (dC .non)) (dBin eqV' (dC1F sortL (dVal (asSh (dCall 2 F__law_loads (dCons (dVar 1) (dCons (dVar 15) dNil)))))) (dVar 14))))
abbrev D__law_right : M Fl := (dSeq S__law_right_0
  (dSeq S__law_right_1
  (dSeq S__law_right_2
  (dSeq S__law_right_3
  (dSeq S__law_right_4
  (dSeq S__law_right_5
  (dSeq S__law_right_6
  (dSeq S__law_right_7
  (dSeq S__law_right_8
  (dSeq S__law_right_9
  (dSeq S__law_right_10
  (dSeq S__law_right_11
  (dSeq S__law_right_12
  (dSeq S__law_right_13
  (dSeq S__law_right_14
  (dSeq S__law_right_15
  (dSeq S__law_right_16
  (dSeq S__law_right_17
  (dSeq S__law_right_18
  (dSeq S__law_right_19
  S__law_right_20))))))))))))))))))))
abbrev F__law_right : Fn := dFn true N__law_right.length D__law_right
theorem ok__law_right (E : HE fa fn K mg base) (EA : ErrAll errs sub P w K mg base) (C : CloT) (T : List (Addr × Str)) : OkD P w K mg base 9 "_law_right" true 1 C T F__law_right := by
  obtain ⟨fd, F⟩ := E.c.def_ 29 (d := d__law_right) rfl
  exact okV (N := N__law_right) (ps := ["pot"]) F (E.glo 29 rfl) sc__law_right rfl (fun _ _ _ _ _ _ us hl => match us, hl with | [_], _ => rfl) fun cdv A outer s H Ex B hC hT v po =>
   (pxb_cons (pxs_asg (nog_tp (nog_cs nog_nm (nog_cs nog_nm nog_nl))) (PXL.sh (pxl_callI (i := 0) (OkD.dn (ok__law_drawn E EA B.C B.T) rfl) v (by decide) rfl (.inr (.inl rfl)) pxa_nil)) (pxg_tup v.calm (pxg_cons (pxg_name (i := 1) sc__law_right.nd rfl (.inl rfl)) (pxg_cons (pxg_name (i := 2) sc__law_right.nd rfl (.inl rfl)) pxg_nil))))
  (pxb_cons (pxs_asg (nog_tp (nog_cs nog_nm (nog_cs nog_nm (nog_cs nog_nm nog_nl)))) (PXL.sh (pxl_call (OkD.dn (ok_least_wear E EA B.C B.T) rfl) v (by decide) (pxa_cons (px_var (i := 1) rfl (.inl rfl)) (pxa_cons (px_var (i := 2) rfl (.inl rfl)) pxa_nil)))) (pxg_tup v.calm (pxg_cons (pxg_name (i := 3) sc__law_right.nd rfl (.inl rfl)) (pxg_cons (pxg_name (i := 4) sc__law_right.nd rfl (.inl rfl)) (pxg_cons (pxg_name (i := 5) sc__law_right.nd rfl (.inl rfl)) pxg_nil)))))
  (pxb_cons (pxs_if (PXW.t (pxw_or (pxt_cmp (opv_ne v.room.units) ne_ne (px_b1 (c1_max v.calm v.room.units) n1_max rfl (E.free 44 rfl) (by decide +kernel) (pxc_val (PXL.sh (pxl_call (OkD.dn (ok__law_loads E EA B.C B.T) rfl) v (by decide) (pxa_cons (px_var (i := 1) rfl (.inl rfl)) (pxa_cons (px_var (i := 4) rfl (.inl rfl)) pxa_nil)))))) (px_var (i := 3) rfl (.inl rfl)) (nomark _)) (pxw_or1 (pxt_not (pxt_tru (pxc_val (px_b1 (c1_all v.calm) n1_all rfl (E.free 37 rfl) (by decide +kernel) (pxc_val (PF.px (pf_lc (own := [("tape", 9), ("some", 18)]) v.calm sc__law_right.nd (pxi_zip rfl (E.free 52 rfl) (px_var (i := 4) rfl (.inl rfl)) (px_var (i := 2) rfl (.inl rfl))) (blkOk_by (by kernel_rfl)) (fun _ _ _ _ _ _ => (pxh_tup (v.blk _ _ _ _ _ _).calm (pxh_cons (pxh_name (i := 9) (by decide) sc__law_right.nd rfl (.inl rfl)) (pxh_cons (pxh_name (i := 18) (by decide) sc__law_right.nd rfl (.inl rfl)) pxh_nil)))) (fun _ _ _ _ _ _ => pxts_nil) (fun _ _ _ _ _ _ => (px_cmp (opv_in (v.blk _ _ _ _ _ _).room.units) ne_in (px_var (i := 9) rfl (.inl rfl)) (px_var (i := 18) rfl (.inl rfl)) rfl)))))))))))) (pxb_one (pxs_ret px_bl)) pxb_nil)
  (pxb_cons (pxs_if (PXW.t (pxw_or (PXW.t (pxw_and (pxt_cmp (opv_eq v.room.units) ne_eq' (px_var (i := 5) rfl (.inl rfl)) (px_tup pxa_nil) (nomark _)) (pxw_and1 (pxt_cmp (opv_ne v.room.units) ne_ne (px_var (i := 3) rfl (.inl rfl)) (px_b1 (c1_max v.calm v.room.units) n1_max rfl (E.free 44 rfl) (by decide +kernel) (pxc_slot (i := 1) rfl (.inl rfl))) (nomark _))))) (pxw_or1 (PXW.t (pxw_and (pxt_cmp (opv_ne v.room.units) ne_ne (px_var (i := 5) rfl (.inl rfl)) (px_tup pxa_nil) (nomark _)) (pxw_and1 (pxt_cmp (opv_ne v.room.units) ne_ne (PXL.sh (pxl_call (OkD.dn (ok__law_room E EA B.C B.T) rfl) v (by decide) (pxa_cons (px_var (i := 1) rfl (.inl rfl)) (pxa_cons (px_var (i := 2) rfl (.inl rfl)) (pxa_cons (px_var (i := 5) rfl (.inl rfl)) pxa_nil))))) (px_var (i := 3) rfl (.inl rfl)) (nomark _)))))))) (pxb_one (pxs_ret px_bl)) pxb_nil)
  (pxb_cons (pxs_if (PXW.t (pxw_or (pxt_cmp opv_isnt ne_isnt (PXL.sh (pxl_call (OkD.dn (ok_shows_least E EA B.C B.T) rfl) v (by decide) (pxa_cons (px_var (i := 1) rfl (.inl rfl)) (pxa_cons (px_var (i := 2) rfl (.inl rfl)) (pxa_cons (px_tup (pxa_cons (px_var (i := 3) rfl (.inl rfl)) (pxa_cons (px_var (i := 4) rfl (.inl rfl)) (pxa_cons (px_var (i := 5) rfl (.inl rfl)) pxa_nil)))) pxa_nil))))) px_bl (nomark _)) (pxw_or1 (PXW.t (pxw_and (pxt_cmp (opv_ne v.room.units) ne_ne (px_var (i := 5) rfl (.inl rfl)) (px_tup pxa_nil) (nomark _)) (pxw_and1 (pxt_cmp (opv_ne v.room.units) ne_ne (PXL.sh (pxl_call (OkD.dn (ok_needs E EA B.C B.T) rfl) v (by decide) (pxa_cons (px_var (i := 1) rfl (.inl rfl)) (pxa_cons (px_var (i := 2) rfl (.inl rfl)) (pxa_cons (px_var (i := 5) rfl (.inl rfl)) pxa_nil))))) (px_var (i := 3) rfl (.inl rfl)) (nomark _)))))))) (pxb_one (pxs_ret px_bl)) pxb_nil)
  (pxb_cons (pxs_set (i := 6) sc__law_right.nd rfl (.inr rfl) (PXL.sh (pxl_callI (i := 0) (OkD.dn (ok__law_some E EA B.C B.T) rfl) v (by decide) rfl (.inr (.inl rfl)) (pxa_cons (PF.px (pf_listRange v.calm rfl (E.free 43 rfl) rfl (E.free 46 rfl) px_int)) (pxa_cons px_int pxa_nil)))))
  (pxb_cons (pxs_set (i := 7) sc__law_right.nd rfl (.inl rfl) (px_t1 c1_tuple n1_tuple rfl (E.free 51 rfl) (by decide +kernel) (pxc_val (PF.px (pf_lc (own := [("some", 18)]) v.calm sc__law_right.nd (pxi_walk (px_var (i := 2) rfl (.inl rfl))) (blkOk_by (by kernel_rfl)) (fun _ _ _ _ _ _ => (pxh_name (i := 18) (by decide) sc__law_right.nd rfl (.inl rfl))) (fun _ _ _ _ _ _ => pxts_nil) (fun _ _ _ _ _ _ => (px_t1 c1_tuple n1_tuple rfl (E.free 51 rfl) (by decide +kernel) (pxc_val (PF.px (pf_b1 (c1_sorted' (v.blk _ _ _ _ _ _).room.units) n1_sorted' rfl (E.free 49 rfl) (by decide +kernel) (pxc_val (PF.px (pf_lc (own := [("tape", 9)]) (v.blk _ _ _ _ _ _).calm sc__law_right.nd (pxi_walk (px_var (i := 18) rfl (.inl rfl))) (blkOk_by (by kernel_rfl)) (fun _ _ _ _ _ _ => (pxh_name (i := 9) (by decide) sc__law_right.nd rfl (.inl rfl))) (fun _ _ _ _ _ _ => pxts_nil) (fun _ _ _ _ _ _ => (px_get (u1 ((v.blk _ _ _ _ _ _).blk _ _ _ _ _ _).room.units) (pxc_slot (i := 6) rfl (.inr (.inl rfl))) (px_var (i := 9) rfl (.inl rfl)) (fun _ _ => rfl))))))))))))))))
  (pxb_cons (pxs_own (i := 8) sc__law_right.nd rfl (.inl rfl) (pf_mulC (pxa_cons px_int pxa_nil)))
  (pxb_cons (pxs_for po v.calm (nog_tp (nog_cs nog_nm (nog_cs nog_nm nog_nl))) (pxi_enum rfl (E.free 39 rfl) (px_var (i := 6) rfl (.inr (.inl rfl)))) (pxg_tup v.calm (pxg_cons (pxg_name (i := 9) sc__law_right.nd rfl (.inl rfl)) (pxg_cons (pxg_name (i := 10) sc__law_right.nd rfl (.inl rfl)) pxg_nil))) (pxb_one (pxs_put (i := 8) (u1 v.room.units) rfl (.inl rfl) (px_var (i := 10) rfl (.inl rfl)) (px_get (u1 v.room.units) (pxc_slot (i := 1) rfl (.inl rfl)) (px_var (i := 9) rfl (.inl rfl)) (fun _ _ => rfl)))))
  (pxb_cons (pxs_if (pxt_cmp (opv_ne v.room.units) ne_ne (px_get (u1 v.room.units) (pxc_val (PXL.sh (pxl_call (OkD.dn (ok_least_wear E EA B.C B.T) rfl) v (by decide) (pxa_cons (px_t1 c1_tuple n1_tuple rfl (E.free 51 rfl) (by decide +kernel) (pxc_slot (i := 8) rfl (.inl rfl))) (pxa_cons (px_var (i := 7) rfl (.inl rfl)) pxa_nil))))) px_int (fun _ _ => rfl)) (px_var (i := 3) rfl (.inl rfl)) (nomark _)) (pxb_one (pxs_ret px_bl)) pxb_nil)
  (pxb_cons (pxs_set (i := 11) sc__law_right.nd rfl (.inl rfl) (px_get (u1 v.room.units) (pxc_val (PXL.sh (pxl_call (OkD.dn (ok_least_wear E EA B.C B.T) rfl) v (by decide) (pxa_cons (px_var (i := 1) rfl (.inl rfl)) (pxa_cons (px_cut (pxc_slot (i := 2) rfl (.inl rfl)) (pxo_some px_int) pxo_none) pxa_nil))))) px_int (fun _ _ => rfl)))
  (pxb_cons (pxs_if (pxt_not (pxt_chain (opv_le v.room.units) ne_le (opv_le v.room.units) ne_le (px_bin opv_sub ne_sub (px_var (i := 3) rfl (.inl rfl)) px_int) (px_var (i := 11) rfl (.inl rfl)) (px_var (i := 3) rfl (.inl rfl)))) (pxb_one (pxs_ret px_bl)) pxb_nil)
  (pxb_cons (pxs_set (i := 12) sc__law_right.nd rfl (.inr rfl) (PXL.sh (pxl_callI (i := 0) (OkD.dn (ok__law_take E EA B.C B.T) rfl) v (by decide) rfl (.inr (.inl rfl)) (pxa_cons px_int pxa_nil))))
  (pxb_cons (pxs_if (pxt_cmp (opv_ne v.room.units) ne_ne (px_get (u1 v.room.units) (pxc_val (PXL.sh (pxl_call (OkD.dn (ok_least_wear E EA B.C B.T) rfl) v (by decide) (pxa_cons (px_t1 c1_tuple n1_tuple rfl (E.free 51 rfl) (by decide +kernel) (pxc_val (PF.px (pf_lc (own := [("one", 19)]) v.calm sc__law_right.nd (pxi_walk (px_var (i := 1) rfl (.inl rfl))) (blkOk_by (by kernel_rfl)) (fun _ _ _ _ _ _ => (pxh_name (i := 19) (by decide) sc__law_right.nd rfl (.inl rfl))) (fun _ _ _ _ _ _ => pxts_nil) (fun _ _ _ _ _ _ => (px_bin opv_add ne_add (px_var (i := 19) rfl (.inl rfl)) (px_var (i := 12) rfl (.inr (.inl rfl))))))))) (pxa_cons (px_var (i := 2) rfl (.inl rfl)) pxa_nil))))) px_int (fun _ _ => rfl)) (px_bin opv_add ne_add (px_var (i := 3) rfl (.inl rfl)) (px_var (i := 12) rfl (.inr (.inl rfl)))) (nomark _)) (pxb_one (pxs_ret px_bl)) pxb_nil)
  (pxb_cons (pxs_set (i := 13) sc__law_right.nd rfl (.inl rfl) (PXL.sh (pxl_call (OkD.dn (ok_even_choice E EA B.C B.T) rfl) v (by decide) (pxa_cons (px_var (i := 1) rfl (.inl rfl)) (pxa_cons (px_var (i := 2) rfl (.inl rfl)) pxa_nil)))))
  (pxb_cons (pxs_set (i := 14) sc__law_right.nd rfl (.inl rfl) (PF.px (pf_b1 (c1_sorted' v.room.units) n1_sorted' rfl (E.free 49 rfl) (by decide +kernel) (pxc_val (PXL.sh (pxl_call (OkD.dn (ok__law_loads E EA B.C B.T) rfl) v (by decide) (pxa_cons (px_var (i := 1) rfl (.inl rfl)) (pxa_cons (px_var (i := 13) rfl (.inl rfl)) pxa_nil))))))))
  (pxb_cons (pxs_if (PXW.t (pxw_or (pxt_cmp (opv_ne v.room.units) ne_ne (px_get (u1 v.room.units) (pxc_slot (i := 14) rfl (.inl rfl)) (px_neg px_int) (fun _ _ => rfl)) (px_var (i := 3) rfl (.inl rfl)) (nomark _)) (pxw_or1 (pxt_cmp opv_isnt ne_isnt (PXL.sh (pxl_call (OkD.dn (ok_is_even E EA B.C B.T) rfl) v (by decide) (pxa_cons (px_var (i := 1) rfl (.inl rfl)) (pxa_cons (px_var (i := 2) rfl (.inl rfl)) (pxa_cons (px_var (i := 13) rfl (.inl rfl)) pxa_nil))))) px_bl (nomark _))))) (pxb_one (pxs_ret px_bl)) pxb_nil)
  (pxb_cons (pxs_par (i := 15) (j := 16) v.calm sc__law_right.nd rfl rfl (by decide) rfl rfl (pxl_sh (px_t1 c1_tuple n1_tuple rfl (E.free 51 rfl) (by decide +kernel) (pxc_val (PF.px (pf_lc (own := [("some", 18)]) v.calm sc__law_right.nd (pxi_walk (px_var (i := 2) rfl (.inl rfl))) (blkOk_by (by kernel_rfl)) (fun _ _ _ _ _ _ => (pxh_name (i := 18) (by decide) sc__law_right.nd rfl (.inl rfl))) (fun _ _ _ _ _ _ => pxts_nil) (fun _ _ _ _ _ _ => (PXL.sh (pxl_callI (i := 0) (OkD.dn (ok__law_of E EA B.C B.T) rfl) (v.blk _ _ _ _ _ _) (by decide) rfl (.inr (.inl rfl)) (pxa_cons (px_var (i := 18) rfl (.inl rfl)) pxa_nil))))))))) (fun _ => (pxl_sh px_int)) rfl)
  (pxb_cons (pxs_set (i := 17) sc__law_right.nd rfl (.inl rfl) (PXL.sh (pxl_call (OkD.dn (ok_chain E EA B.C B.T) rfl) v (by decide) (pxa_cons (px_var (i := 1) rfl (.inl rfl)) (pxa_cons (px_var (i := 2) rfl (.inl rfl)) (pxa_cons (px_var (i := 15) rfl (.inl rfl)) pxa_nil))))))
  (pxb_cons (pxs_while (fun _ => 4611686018427387904) po (PXW.t (pxw_and (pxt_cmp opv_isnt ne_isnt (px_var (i := 17) rfl (.inl rfl)) px_non (nomark _)) (pxw_and1 (pxt_cmp (opv_lt v.room.units) ne_lt (px_var (i := 16) rfl (.inl rfl)) px_int (nomark _))))) (pxb_cons (pxs_if (pxt_cmp (opv_lt v.room.units) ne_lt (px_b1 c1_len n1_len rfl (E.free 42 rfl) (by decide +kernel) (pxc_val (PF.px (pf_lc (own := [("one", 19), ("two", 20)]) v.calm sc__law_right.nd (pxi_zip rfl (E.free 52 rfl) (px_var (i := 15) rfl (.inl rfl)) (px_var (i := 17) rfl (.inl rfl))) (blkOk_by (by kernel_rfl)) (fun _ _ _ _ _ _ => (pxh_tup (v.blk _ _ _ _ _ _).calm (pxh_cons (pxh_name (i := 19) (by decide) sc__law_right.nd rfl (.inl rfl)) (pxh_cons (pxh_name (i := 20) (by decide) sc__law_right.nd rfl (.inl rfl)) pxh_nil)))) (fun _ _ _ _ _ _ => (pxts_one (pxt_cmp (opv_ne (v.blk _ _ _ _ _ _).room.units) ne_ne (px_var (i := 19) rfl (.inl rfl)) (px_var (i := 20) rfl (.inl rfl)) (nomark _)))) (fun _ _ _ _ _ _ => px_int))))) px_int (nomark _)) (pxb_one (pxs_ret px_bl)) pxb_nil)
  (pxb_cons (pxs_par (i := 15) (j := 16) v.calm sc__law_right.nd rfl rfl (by decide) rfl rfl (pxl_sh (px_var (i := 17) rfl (.inl rfl))) (fun _ => (pxl_sh (px_bin opv_add ne_add (px_var (i := 16) rfl (.inl rfl)) px_int))) rfl)
  (pxb_one (pxs_set (i := 17) sc__law_right.nd rfl (.inl rfl) (PXL.sh (pxl_call (OkD.dn (ok_chain E EA B.C B.T) rfl) v (by decide) (pxa_cons (px_var (i := 1) rfl (.inl rfl)) (pxa_cons (px_var (i := 2) rfl (.inl rfl)) (pxa_cons (px_var (i := 15) rfl (.inl rfl)) pxa_nil))))))))))
  (pxb_one (pxs_ret (px_and (px_cmp opv_is ne_is (px_var (i := 17) rfl (.inl rfl)) px_non (nomark _)) (px_one (px_cmp (opv_eq v.room.units) ne_eq' (PF.px (pf_b1 (c1_sorted' v.room.units) n1_sorted' rfl (E.free 49 rfl) (by decide +kernel) (pxc_val (PXL.sh (pxl_call (OkD.dn (ok__law_loads E EA B.C B.T) rfl) v (by decide) (pxa_cons (px_var (i := 1) rfl (.inl rfl)) (pxa_cons (px_var (i := 15) rfl (.inl rfl)) pxa_nil))))))) (px_var (i := 14) rfl (.inl rfl)) (nomark _))))))))))))))))))))))))))

abbrev N_law : List Str := ["script", "place", "pot", "lap"]
theorem sc_law : FnScope N_law ["script"] (defScope s_law) := ⟨rfl, rfl, rfl, by decide +kernel, rfl, by decide +kernel, by decide +kernel⟩
abbrev E_law_0 : M PV := (asSh (dCallI 2 1 F__law_right dNil))
abbrev B_law_0 : M Fl := (dSeq (dOwn 2 (asOw (dCall 2 F__law_pot (dCons (dVar 0) (dCons (dVar 1) dNil)))))
  (dIf (dNot (dTru (dVal (dC1 allV (dVal (dLc [3] (dRange1 (dC (.int 2))) (gNm 3) dYes E_law_0)))))) (dRet (dC (.bl false))) dNx))
abbrev S_law_0 : M Fl := (dFor (dWalk (asSh (dCall 2 F__law_places (dCons (dVar 0) (dCons (dC (.int 3)) dNil))))) (gNm 1) B_law_0)
abbrev S_law_1 : M Fl := (dRet (dBin eqV' (dC1 reprV (dVal (asSh (dCall 2 F_least_wear (dCons (dTup (dCons (dC (.int 5)) dNil)) (dCons (dBin mulV (dTup (dCons (dTup (dCons (dC (.int 0)) dNil)) dNil)) (dC (.int 20))) dNil)))))) (dC1 reprV (dVal (dTup (dCons (dC (.int 25)) (dCons (dBin mulV (dTup (dCons (dC (.int 0)) dNil)) (dC (.int 20))) (dCons (dC1 tupleV (dVal (dListRange (dC (.int 20))))) dNil))))))))
abbrev D_law : M Fl := (dSeq S_law_0
  S_law_1)
abbrev F_law : Fn := dFn false N_law.length D_law
theorem fn_law (E : HE fa fn K mg base) (EA : ErrAll errs sub P w K mg base) (C : CloT) (T : List (Addr × Str)) {fd : FuncData} (F : FunD K "law" "law" (defArgs s_law) (defBody s_law) (defScope s_law) [] [] (He.ga K "law") fd) : VL.FnV P w K mg base (CX P w) 10 (He.ga K "law") fd ["script"] (spV mg K C T false 1 F_law) :=
  okVf (N := N_law) (ps := ["script"]) F sc_law fun cdv A outer s H Ex B hC hT v po => by
   exact (pxb_cons (pxs_for po v.calm nog_nm (pxi_walk (PXL.sh (pxl_call (OkD.dn (ok__law_places E EA B.C B.T) rfl) v (by decide) (pxa_cons (px_var (i := 0) rfl (.inl rfl)) (pxa_cons px_int pxa_nil))))) (pxg_name (i := 1) sc_law.nd rfl (.inl rfl)) (pxb_cons (pxs_own (i := 2) sc_law.nd rfl (.inr rfl) (PXL.ow (pxl_call (OkD.dn (ok__law_pot E EA B.C B.T) rfl) v (by decide) (pxa_cons (px_var (i := 0) rfl (.inl rfl)) (pxa_cons (px_var (i := 1) rfl (.inl rfl)) pxa_nil)))))
  (pxb_one (pxs_if (pxt_not (pxt_tru (pxc_val (px_b1 (c1_all v.calm) n1_all rfl (E.free 37 rfl) (by decide +kernel) (pxc_val (PF.px (pf_lc (own := [("lap", 3)]) v.calm sc_law.nd (pxi_range1 rfl (E.free 46 rfl) px_int) (blkOk_by (by kernel_rfl)) (fun _ _ _ _ _ _ => (pxh_name (i := 3) (by decide) sc_law.nd rfl (.inl rfl))) (fun _ _ _ _ _ _ => pxts_nil) (fun _ _ _ _ _ _ => (PXL.sh (pxl_callI (i := 2) (OkD.dn (ok__law_right E EA B.C B.T) rfl) (v.blk _ _ _ _ _ _) (by decide) rfl (.inr (.inl rfl)) pxa_nil)))))))))) (pxb_one (pxs_ret px_bl)) pxb_nil))))
  (pxb_one (pxs_ret (px_cmp (opv_eq v.room.units) ne_eq' (px_b1 (c1_repr v.grd v.room.units) n1_repr rfl (E.free 47 rfl) (by decide +kernel) (pxc_val (PXL.sh (pxl_call (OkD.dn (ok_least_wear E EA B.C B.T) rfl) v (by decide) (pxa_cons (px_tup (pxa_cons px_int pxa_nil)) (pxa_cons (px_bin opv_mul ne_mul (px_tup (pxa_cons (px_tup (pxa_cons px_int pxa_nil)) pxa_nil)) px_int) pxa_nil)))))) (px_b1 (c1_repr v.grd v.room.units) n1_repr rfl (E.free 47 rfl) (by decide +kernel) (pxc_val (px_tup (pxa_cons px_int (pxa_cons (px_bin opv_mul ne_mul (px_tup (pxa_cons px_int pxa_nil)) px_int) (pxa_cons (px_t1 c1_tuple n1_tuple rfl (E.free 51 rfl) (by decide +kernel) (pxc_val (PF.px (pf_listRange v.calm rfl (E.free 43 rfl) rfl (E.free 46 rfl) px_int)))) pxa_nil)))))) (nomark _)))))
end LW
set_option Elab.async false
set_option linter.all false
set_option maxRecDepth 100000
set_option maxHeartbeats 1000000
/-! P1: plain: sums; loads; even choices have the least of all; chains bring them nearer. -/
namespace LW
open PySem PySem.Spec PyProof.Rows L2 VL HD
def Sm : Nat → (Nat → Int) → Int
  | 0, _ => 0
  | n + 1, f => Sm n f + f n
theorem Sm_add (n : Nat) (f g : Nat → Int) : Sm n (fun i => f i + g i) = Sm n f + Sm n g := by
  induction n with
  | zero => rfl
  | succ n ih => simp only [Sm, ih]; omega
theorem Sm_sub (n : Nat) (f g : Nat → Int) : Sm n (fun i => f i - g i) = Sm n f - Sm n g := by
  induction n with
  | zero => rfl
  | succ n ih => simp only [Sm, ih]; omega
theorem Sm_mul (n : Nat) (c : Int) (f : Nat → Int) : Sm n (fun i => c * f i) = c * Sm n f := by
  induction n with
  | zero => simp [Sm]
  | succ n ih => simp only [Sm, ih, Int.mul_add]
theorem Sm_const (n : Nat) (c : Int) : Sm n (fun _ => c) = n * c := by
  induction n with
  | zero => simp [Sm]
  | succ n ih => simp only [Sm, ih]; rw [Int.natCast_succ, Int.add_mul]; omega
theorem Sm_le {n : Nat} {f g : Nat → Int} (h : ∀ i, i < n → f i ≤ g i) : Sm n f ≤ Sm n g := by
  induction n with
  | zero => exact Int.le_refl _
  | succ n ih =>
    have := ih fun i hi => h i (by omega)
    have := h n (by omega)
    simp only [Sm]; omega
theorem Sm_eq {n : Nat} {f g : Nat → Int} (h : ∀ i, i < n → f i = g i) : Sm n f = Sm n g := by
  have a := Sm_le (n := n) (f := f) (g := g) fun i hi => by rw [h i hi]; exact Int.le_refl _
  have b := Sm_le (n := n) (f := g) (g := f) fun i hi => by rw [h i hi]; exact Int.le_refl _
  omega
theorem Sm_one (n a : Nat) (v : Int) : Sm n (fun i => if i = a then v else 0) = if a < n then v else 0 := by
  induction n with
  | zero => rfl
  | succ n ih =>
    simp only [Sm, ih]
    by_cases h : a < n
    · rw [if_pos h, if_neg (by omega), if_pos (by omega)]; omega
    · rw [if_neg h]
      by_cases e : n = a
      · rw [if_pos e, if_pos (by omega)]; omega
      · rw [if_neg e, if_neg (by omega)]; omega
theorem Sm_lt {n a : Nat} {f g : Nat → Int} (h : ∀ i, i < n → f i ≤ g i) (ha : a < n) (hl : f a < g a) : Sm n f < Sm n g := by
  have := Sm_le (n := n) (f := fun i => f i + if i = a then 1 else 0) (g := g) fun i hi => by
    try dsimp only
    split
    · rename_i e; subst e; omega
    · have := h i hi; omega
  rw [Sm_add, Sm_one, if_pos ha] at this
  omega
theorem Sm_two {n a b : Nat} {f g : Nat → Int} {c : Int} (ha : a < n) (hb : b < n) (hab : a ≠ b) (h : ∀ i, i < n → i ≠ a → i ≠ b → f i ≤ g i) (h2 : f a + f b + c ≤ g a + g b) : Sm n f + c ≤ Sm n g := by
  have := Sm_le (n := n) (f := f) (g := fun i => g i + ((if i = a then f a - g a else 0) + if i = b then f b - g b else 0)) fun i hi => by
    try dsimp only
    by_cases e : i = a
    · subst e; rw [if_pos rfl, if_neg hab]; omega
    · by_cases e2 : i = b
      · subst e2; rw [if_neg e, if_pos rfl]; omega
      · rw [if_neg e, if_neg e2]; have := h i hi e e2; omega
  rw [Sm_add, Sm_add, Sm_one, Sm_one, if_pos ha, if_pos hb] at this
  omega
theorem Sm_nn {n : Nat} {f : Nat → Int} (h : ∀ i, i < n → 0 ≤ f i) : 0 ≤ Sm n f := by
  have := Sm_le (n := n) (f := fun _ => 0) (g := f) h
  rw [Sm_const] at this
  simpa using this
theorem Sm_zero {n : Nat} {f : Nat → Int} (h : ∀ i, i < n → 0 ≤ f i) (h0 : Sm n f ≤ 0) {i : Nat} (hi : i < n) : f i ≤ 0 := by
  by_cases e : f i ≤ 0
  · exact e
  · have := Sm_lt (n := n) (f := fun _ => 0) (g := f) h hi (by omega)
    rw [Sm_const] at this
    have e2 : (n : Int) * 0 = 0 := Int.mul_zero _
    omega
/-! how far loads are from one another -/
def Ph (n : Nat) (l : Nat → Int) : Int := Sm n fun i => Sm n fun j => ((l i - l j).natAbs : Int)
theorem Ph_step {n a b : Nat} {l l' : Nat → Int} (ha : a < n) (hb : b < n) (hl : l b + 2 ≤ l a) (e : ∀ i, i < n → l' i = l i - (if i = a then 1 else 0) + (if i = b then 1 else 0)) : Ph n l' + 4 ≤ Ph n l := by
  have hab : a ≠ b := fun z => by subst z; omega
  have ea := e a ha
  have eb := e b hb
  rw [if_pos rfl, if_neg hab] at ea
  rw [if_neg (Ne.symm hab), if_pos rfl] at eb
  have eo : ∀ i, i < n → i ≠ a → i ≠ b → l' i = l i := fun i hi h1 h2 => by have := e i hi; rw [if_neg h1, if_neg h2] at this; omega
  refine Sm_two ha hb hab (fun i hi h1 h2 => ?_) ?_
  · have := Sm_two (n := n) (f := fun j => ((l' i - l' j).natAbs : Int)) (g := fun j => ((l i - l j).natAbs : Int)) (c := 0) ha hb hab (fun j hj k1 k2 => by
      try dsimp only;
      rw [eo i hi h1 h2, eo j hj k1 k2]; exact Int.le_refl _) (by
      try dsimp only;
      rw [eo i hi h1 h2, ea, eb]; omega)
    omega
  · have := Sm_two (n := n) (f := fun j => ((l' a - l' j).natAbs : Int) + ((l' b - l' j).natAbs : Int)) (g := fun j => ((l a - l j).natAbs : Int) + ((l b - l j).natAbs : Int)) (c := 4) ha hb hab (fun j hj k1 k2 => by
      try dsimp only;
      rw [eo j hj k1 k2, ea, eb]; omega) (by
      try dsimp only;
      rw [ea, eb]; omega)
    rw [Sm_add, Sm_add] at this
    exact this
theorem Ph_nn (n : Nat) (l : Nat → Int) : 0 ≤ Ph n l := Sm_nn fun i hi => Sm_nn fun j hj => by omega
theorem abs_w {x y : Int} (hx : 0 ≤ x) (hx5 : x ≤ 5) (hy : 0 ≤ y) (hy5 : y ≤ 5) : 5 * ((x - y).natAbs : Int) ≤ 5 * x + 5 * y - 2 * (x * y) := by
  have h1 : 0 ≤ y * (5 - x) := Int.mul_nonneg hy (by omega)
  have h2 : 0 ≤ x * (5 - y) := Int.mul_nonneg hx (by omega)
  rw [Int.mul_sub] at h1 h2
  have e : y * x = x * y := Int.mul_comm _ _
  rw [e] at h1
  generalize x * y = p at *
  omega
theorem Ph_bound {w c : Nat → Int} (hw : ∀ i, i < 12 → 0 ≤ w i ∧ w i ≤ 5) (hc : ∀ i, i < 12 → 0 ≤ c i) (hs : Sm 12 c = 20) : Ph 12 (fun i => w i + c i) ≤ 800 := by
  have key : 5 * Ph 12 (fun i => w i + c i) ≤ Sm 12 fun i => Sm 12 fun j => (5 * w i + 5 * w j - 2 * (w i * w j)) + (5 * c i + 5 * c j - if j = i then 10 * c i else 0) := by
    unfold Ph
    rw [← Sm_mul]
    refine Sm_le fun i hi => ?_
    rw [← Sm_mul]
    refine Sm_le fun j hj => ?_
    try dsimp only
    have h1 := abs_w (hw i hi).1 (hw i hi).2 (hw j hj).1 (hw j hj).2
    have h2 := hc i hi
    have h3 := hc j hj
    split
    · rename_i e; subst e
      generalize w j * w j = p at *
      omega
    · generalize w i * w j = p at *
      omega
  have e : (Sm 12 fun i => Sm 12 fun j => (5 * w i + 5 * w j - 2 * (w i * w j)) + (5 * c i + 5 * c j - if j = i then 10 * c i else 0)) = 120 * Sm 12 w - 2 * (Sm 12 w * Sm 12 w) + 2200 := by
    have inner : ∀ i, i < 12 → (Sm 12 fun j => (5 * w i + 5 * w j - 2 * (w i * w j)) + (5 * c i + 5 * c j - if j = i then 10 * c i else 0)) = 60 * w i + 5 * Sm 12 w - 2 * (w i * Sm 12 w) + (60 * c i + 100 - 10 * c i) := fun i hi => by
      simp only [Sm_add, Sm_sub, Sm_const, Sm_mul, Sm_one, if_pos hi, hs]
      generalize w i * Sm 12 w = p
      generalize Sm 12 w = q
      omega
    rw [Sm_eq inner]
    have e : (Sm 12 fun i => w i * Sm 12 w) = Sm 12 w * Sm 12 w := by
      rw [← Sm_mul]
      exact Sm_eq fun i _ => Int.mul_comm _ _
    simp only [Sm_add, Sm_sub, Sm_const, Sm_mul, hs, e]
    generalize Sm 12 w * Sm 12 w = p
    generalize Sm 12 w = q
    omega
  rw [e] at key
  have sq : 0 ≤ (Sm 12 w - 30) * (Sm 12 w - 30) := by
    have : (Sm 12 w - 30) * (Sm 12 w - 30) = ((Sm 12 w - 30).natAbs * (Sm 12 w - 30).natAbs : Nat) := by rw [Int.natAbs_mul_self]
    omega
  rw [Int.sub_mul, Int.mul_sub] at sq
  generalize Sm 12 w * Sm 12 w = p at *
  generalize Sm 12 w = q at *
  omega
/-! choices -/
def lo (W : List Int) (X : List Nat) (t : Nat) : Int := W.getD t 0 + (X.count t : Nat)
inductive Ok : List (List Nat) → List Nat → Prop where
  | nil : Ok [] []
  | cons {c : List Nat} {t : Nat} {C : List (List Nat)} {X : List Nat} : t ∈ c → Ok C X → Ok (c :: C) (t :: X)
theorem Ok.len {C : List (List Nat)} {X : List Nat} (h : Ok C X) : X.length = C.length := by
  induction h with
  | nil => rfl
  | cons _ _ ih => simp [ih]
theorem Ok.at_ {C : List (List Nat)} {X : List Nat} (h : Ok C X) : ∀ {a u : Nat} {c : List Nat}, X[a]? = some u → C[a]? = some c → u ∈ c := by
  induction h with
  | nil => intro a u c h1 _; simp at h1
  | cons ht _ ih =>
    intro a u c h1 h2
    cases a with
    | zero => simp at h1 h2; subst h1 h2; exact ht
    | succ a => simp at h1 h2; exact ih h1 h2
theorem Ok.of : ∀ {C : List (List Nat)} {X : List Nat}, X.length = C.length → (∀ (a u : Nat) (c : List Nat), X[a]? = some u → C[a]? = some c → u ∈ c) → Ok C X
  | [], [], _, _ => .nil
  | [], _ :: _, h, _ => by simp at h
  | _ :: _, [], h, _ => by simp at h
  | c :: C, t :: X, h, k => .cons (k 0 t c rfl rfl) (Ok.of (by simpa using h) fun a u c h1 h2 => k (a + 1) u c (by simpa using h1) (by simpa using h2))
def CB (n : Nat) (C : List (List Nat)) : Prop := ∀ c ∈ C, ∀ t ∈ c, t < n
theorem Ok.lt {n : Nat} {C : List (List Nat)} {X : List Nat} (h : Ok C X) (hC : CB n C) : ∀ t ∈ X, t < n := by
  induction h with
  | nil => intro t h; cases h
  | cons ht _ ih =>
    intro t h
    rcases List.mem_cons.mp h with rfl | h
    · exact hC _ List.mem_cons_self _ ht
    · exact ih (fun c hc => hC c (List.mem_cons_of_mem _ hc)) t h
theorem ct_le {T : Nat → Bool} {C : List (List Nat)} {X X' : List Nat} (h : Ok C X) : Ok C X' → (∀ p ∈ C.zip X, T p.2 = true → ∀ o ∈ p.1, T o = true) → X.countP T ≤ X'.countP T := by
  induction h generalizing X' with
  | nil => intro h' _; cases h'; exact Nat.le_refl _
  | @cons c t C X ht _ ih =>
    intro h' k
    cases h' with
    | cons ht' h' =>
      have := ih h' fun p hp => k p (List.mem_cons_of_mem _ hp)
      have k0 := k (c, t) List.mem_cons_self
      simp only [List.countP_cons]
      by_cases e : T t = true
      · rw [if_pos e, if_pos (k0 e _ ht')]; omega
      · rw [if_neg e]; omega
theorem ct_sum {n : Nat} (T : Nat → Bool) : ∀ {X : List Nat}, (∀ t ∈ X, t < n) → Sm n (fun i => if T i = true then ((X.count i : Nat) : Int) else 0) = ((X.countP T : Nat) : Int)
  | [], _ => by
    have := Sm_eq (n := n) (f := fun i => if T i = true then ((([] : List Nat).count i : Nat) : Int) else 0) (g := fun _ => 0) fun i _ => by simp
    rw [this, Sm_const]; simp
  | x :: X, h => by
    have ih := ct_sum T (X := X) fun t ht => h t (List.mem_cons_of_mem _ ht)
    have e := Sm_eq (n := n) (f := fun i => if T i = true then (((x :: X).count i : Nat) : Int) else 0) (g := fun i => (if T i = true then ((X.count i : Nat) : Int) else 0) + if i = x then (if T x = true then 1 else 0) else 0) fun i _ => by
      try dsimp only
      rw [List.count_cons]
      by_cases e : i = x
      · subst e; simp; split <;> omega
      · have : (x == i) = false := by simp; exact fun z => e z.symm
        rw [this, if_neg e]; simp
    rw [e, Sm_add, Sm_one, if_pos (h x List.mem_cons_self), ih, List.countP_cons]
    split <;> simp
def pos (x : Int) : Int := if 0 ≤ x then x else 0
def Pk (n : Nat) (k : Int) (l : Nat → Int) : Int := Sm n fun i => pos (l i - k)
structure Even (n : Nat) (W : List Int) (C : List (List Nat)) (X : List Nat) : Prop where
  ev : ∀ t, t < n → ∃ T : Nat → Prop, T t ∧ (∀ p ∈ C.zip X, T p.2 → ∀ o ∈ p.1, T o) ∧ ∀ o, T o → o < n → lo W X t ≤ lo W X o + 1
open Classical in
theorem even_least {n : Nat} {W : List Int} {C : List (List Nat)} {X X' : List Nat} (hE : Even n W C X) (hC : CB n C) (h : Ok C X) (h' : Ok C X') (k : Int) : Pk n k (lo W X) ≤ Pk n k (lo W X') := by
  let T : Nat → Bool := fun o => decide (∃ t, ∃ ht : t < n, k < lo W X t ∧ (hE.ev t ht).choose o)
  have T1 : ∀ o, o < n → k < lo W X o → T o = true := fun o ho hk => decide_eq_true ⟨o, ho, hk, (hE.ev o ho).choose_spec.1⟩
  have T2 : ∀ o, o < n → T o = true → k ≤ lo W X o := fun o ho hT => by
    obtain ⟨t, ht, hk, hc⟩ := of_decide_eq_true hT
    have := (hE.ev t ht).choose_spec.2.2 o hc ho
    omega
  have T3 : ∀ p ∈ C.zip X, T p.2 = true → ∀ o ∈ p.1, T o = true := fun p hp hT o ho => by
    obtain ⟨t, ht, hk, hc⟩ := of_decide_eq_true hT
    exact decide_eq_true ⟨t, ht, hk, (hE.ev t ht).choose_spec.2.1 p hp hc o ho⟩
  have split : ∀ Y, Ok C Y → Sm n (fun i => if T i = true then lo W Y i - k else 0) = Sm n (fun i => if T i = true then W.getD i 0 - k else 0) + ((Y.countP T : Nat) : Int) := fun Y hY => by
    rw [← ct_sum T (hY.lt hC), ← Sm_add]
    exact Sm_eq fun i _ => by dsimp only [lo]; split <;> omega
  have e1 : Pk n k (lo W X) = Sm n (fun i => if T i = true then lo W X i - k else 0) := Sm_eq fun i hi => by
    by_cases e : T i = true
    · have := T2 i hi e
      rw [if_pos e]; unfold pos; rw [if_pos (by omega)]
    · have : lo W X i ≤ k := by
        by_cases z : lo W X i ≤ k
        · exact z
        · exact absurd (T1 i hi (by omega)) e
      rw [if_neg e]; unfold pos; split <;> omega
  have e2 : Sm n (fun i => if T i = true then lo W X' i - k else 0) ≤ Pk n k (lo W X') := Sm_le fun i hi => by
    dsimp only [pos]
    split <;> split <;> omega
  have := ct_le (T := T) h h' T3
  rw [e1, split X h]
  rw [split X' h'] at e2
  omega
/-! loads in their order -/
def lds (n : Nat) (W : List Int) (X : List Nat) : List Int := (List.range n).map (lo W X)
theorem cnt_sum (l : Nat → Int) (v : Int) : ∀ n : Nat, ((((List.range n).map l).count v : Nat) : Int) = Sm n fun i => if l i = v then 1 else 0
  | 0 => rfl
  | n + 1 => by
    rw [List.range_succ, List.map_append, List.count_append]
    simp only [Sm, ← cnt_sum l v n, List.map_cons, List.map_nil, List.count_cons, List.count_nil]
    by_cases e : l n = v
    · simp [e]
    · simp [e]
theorem cnt_Pk (n : Nat) (l : Nat → Int) (v : Int) : ((((List.range n).map l).count v : Nat) : Int) = Pk n (v - 1) l - Pk n v l - (Pk n v l - Pk n (v + 1) l) := by
  unfold Pk
  rw [cnt_sum, ← Sm_sub, ← Sm_sub, ← Sm_sub]
  refine Sm_eq fun i _ => ?_
  dsimp only [pos]
  split <;> split <;> split <;> split <;> omega
theorem srt_even {n : Nat} {W : List Int} {C : List (List Nat)} {X X' : List Nat} (hC : CB n C) (h : Ok C X) (hE : Even n W C X) (h' : Ok C X') (hE' : Even n W C X') : srtI (lds n W X) = srtI (lds n W X') := by
  have e : ∀ k, Pk n k (lo W X) = Pk n k (lo W X') := fun k => by
    have a := even_least hE hC h h' k
    have b := even_least hE' hC h' h k
    omega
  have p : (lds n W X).Perm (lds n W X') := by
    rw [List.perm_iff_count]
    intro v
    have a := cnt_Pk n (lo W X) v
    have b := cnt_Pk n (lo W X') v
    rw [e, e, e] at a
    unfold lds
    omega
  refine srtI_eq ((List.mergeSort_perm _ _).trans p) ?_
  have := List.pairwise_mergeSort (le := fun a b : Int => decide (a ≤ b)) (fun a b c h1 h2 => by simp at *; omega) (fun a b => by simp; omega) (lds n W X)
  exact this.imp fun h => by simpa using h
/-! the least of the most worn -/
structure Least (n : Nat) (W : List Int) (C : List (List Nat)) (m : Int) : Prop where
  ex : ∃ X, Ok C X ∧ ∀ i, i < n → lo W X i ≤ m
  le : ∀ X m', Ok C X → (∀ i, i < n → lo W X i ≤ m') → m ≤ m'
theorem Least.uniq {n : Nat} {W : List Int} {C : List (List Nat)} {m m' : Int} (h : Least n W C m) (h' : Least n W C m') : m = m' := by
  obtain ⟨X, o, l⟩ := h.ex
  obtain ⟨X', o', l'⟩ := h'.ex
  have a := h.le X' m' o' l'
  have b := h'.le X m o l
  omega
theorem even_max {n : Nat} {W : List Int} {C : List (List Nat)} {X : List Nat} {m : Int} (hE : Even n W C X) (hC : CB n C) (h : Ok C X) (hm : ∀ i, i < n → lo W X i ≤ m) {t : Nat} (ht : t < n) (e : lo W X t = m) : Least n W C m := by
  refine ⟨⟨X, h, hm⟩, fun X' m' h' k => ?_⟩
  have := even_least hE hC h h' m'
  have z : Pk n m' (lo W X') ≤ 0 := by
    have := Sm_le (n := n) (f := fun i => pos (lo W X' i - m')) (g := fun _ => 0) fun i hi => by
      have := k i hi
      dsimp only [pos]
      split <;> omega
    rw [Sm_const] at this
    have e0 : (n : Int) * 0 = 0 := Int.mul_zero _
    unfold Pk
    omega
  have := Sm_zero (n := n) (f := fun i => pos (lo W X i - m')) (fun i _ => by dsimp only [pos]; split <;> omega) (Int.le_trans this z) ht
  dsimp only [pos] at this
  split at this <;> omega
end LW
/-! P2: plain: other names, fewer asks, worn more; what a lot needs. -/
namespace LW
open PySem PySem.Spec PyProof.Rows L2 VL HD
theorem lo_much {W : List Int} {X : List Nat} {t : Nat} (k : Int) (ht : t < W.length) : lo (W.map (· + k)) X t = lo W X t + k := by
  unfold lo
  rw [List.getD_eq_getElem?_getD, List.getD_eq_getElem?_getD, List.getElem?_map, List.getElem?_eq_getElem ht]
  simp only [Option.map_some, Option.getD_some]
  omega
theorem Least.much {n : Nat} {W : List Int} {C : List (List Nat)} {m : Int} (k : Int) (hn : n ≤ W.length) (h : Least n W C m) : Least n (W.map (· + k)) C (m + k) := by
  obtain ⟨X, o, l⟩ := h.ex
  refine ⟨⟨X, o, fun i hi => by rw [lo_much k (by omega)]; have := l i hi; omega⟩, fun X' m' o' l' => ?_⟩
  have := h.le X' (m' - k) o' fun i hi => by
    have := l' i hi
    rw [lo_much k (by omega)] at this
    omega
  omega
theorem lo_cons (W : List Int) (X : List Nat) (t i : Nat) : lo W (t :: X) i = lo W X i + if i = t then 1 else 0 := by
  unfold lo
  rw [List.count_cons]
  by_cases e : i = t
  · subst e; simp; omega
  · have : (t == i) = false := by simp; exact fun z => e z.symm
    rw [this, if_neg e]; simp
theorem Least.fewer {n : Nat} {W : List Int} {c : List Nat} {C : List (List Nat)} {m m2 : Int} (h : Least n W (c :: C) m) (hc : c ≠ []) (h2 : Least n W C m2) : m - 1 ≤ m2 ∧ m2 ≤ m := by
  obtain ⟨X, o, l⟩ := h.ex
  obtain ⟨Y, o2, l2⟩ := h2.ex
  constructor
  · obtain ⟨t, ht⟩ := List.exists_mem_of_ne_nil c hc
    have := h.le (t :: Y) (m2 + 1) (.cons ht o2) fun i hi => by
      rw [lo_cons]
      have := l2 i hi
      split <;> omega
    omega
  · cases o with
    | cons ht o =>
      rename_i t X
      exact h2.le X m o fun i hi => by
        have := l i hi
        rw [lo_cons] at this
        split at this <;> omega
theorem sub_len : ∀ (b a : List Nat), a.Nodup → a ⊆ b → a.length ≤ b.length
  | [], a, _, h => by
    cases a with
    | nil => simp
    | cons x xs => have := h List.mem_cons_self; simp at this
  | y :: ys, a, hn, h => by
    have hs : a.erase y ⊆ ys := fun x hx => by
      have hx' := (hn.mem_erase_iff).mp hx
      rcases List.mem_cons.mp (h hx'.2) with e | e
      · exact absurd e hx'.1
      · exact e
    have := sub_len ys (a.erase y) (hn.erase y) hs
    have h2 : a.length ≤ (a.erase y).length + 1 := by
      by_cases hy : y ∈ a
      · have := List.length_erase_of_mem hy; omega
      · rw [List.erase_of_not_mem hy]; omega
    simp only [List.length_cons]
    omega
/-- other names -/
structure Nm (n : Nat) (s : List Nat) : Prop where
  len : s.length = n
  nd : s.Nodup
  lt : ∀ x ∈ s, x < n
theorem Nm.all {n : Nat} {s : List Nat} (h : Nm n s) {i : Nat} (hi : i < n) : ∃ t, ∃ ht : t < s.length, s[t] = i := by
  by_cases e : i ∈ s
  · obtain ⟨t, ht, e⟩ := List.getElem_of_mem e
    exact ⟨t, ht, e⟩
  · have := sub_len (List.range n) (i :: s) (List.nodup_cons.mpr ⟨e, h.nd⟩) fun x hx => by
      rcases List.mem_cons.mp hx with rfl | hx
      · exact List.mem_range.mpr hi
      · exact List.mem_range.mpr (h.lt x hx)
    simp [h.len] at this
    omega
theorem Nm.get {n : Nat} {s : List Nat} (h : Nm n s) {t : Nat} (ht : t < n) : s.getD t 0 < n := by
  rw [List.getD_eq_getElem?_getD, List.getElem?_eq_getElem (by rw [h.len]; exact ht)]
  exact h.lt _ (List.getElem_mem _)
theorem Nm.inj {n : Nat} {s : List Nat} (h : Nm n s) {t u : Nat} (ht : t < n) (hu : u < n) (e : s.getD t 0 = s.getD u 0) : t = u := by
  have ht' : t < s.length := by rw [h.len]; exact ht
  have hu' : u < s.length := by rw [h.len]; exact hu
  rw [List.getD_eq_getElem?_getD, List.getElem?_eq_getElem ht', List.getD_eq_getElem?_getD, List.getElem?_eq_getElem hu'] at e
  simp only [Option.getD_some] at e
  have nd := List.pairwise_iff_getElem.mp h.nd
  rcases Nat.lt_trichotomy t u with z | z | z
  · exact absurd e (nd t u ht' hu' z)
  · exact z
  · exact absurd e.symm (nd u t hu' ht' z)
theorem cnt_map {n : Nat} {s : List Nat} (h : Nm n s) {t : Nat} (ht : t < n) : ∀ {X : List Nat}, (∀ x ∈ X, x < n) → (X.map fun x => s.getD x 0).count (s.getD t 0) = X.count t
  | [], _ => rfl
  | x :: X, hX => by
    have ih := cnt_map h ht (X := X) fun y hy => hX y (List.mem_cons_of_mem _ hy)
    rw [List.map_cons, List.count_cons, List.count_cons, ih]
    by_cases e : x = t
    · subst e; simp
    · have : (s.getD x 0 == s.getD t 0) = false := by simp; exact fun z => e (h.inj (hX x List.mem_cons_self) ht (by simpa using z))
      have e2 : (x == t) = false := by simp [e]
      rw [this, e2]
theorem Ok.ren {s : List Nat} {f : List Nat → List Nat} {C : List (List Nat)} {X : List Nat} (h : Ok C X) : (∀ c ∈ C, ∀ x, x ∈ f c ↔ ∃ t ∈ c, x = s.getD t 0) → Ok (C.map f) (X.map fun x => s.getD x 0) := by
  induction h with
  | nil => intro _; exact .nil
  | cons ht _ ih =>
    intro hf
    exact .cons ((hf _ List.mem_cons_self _).mpr ⟨_, ht, rfl⟩) (ih fun c hc => hf c (List.mem_cons_of_mem _ hc))
theorem Ok.unren {s : List Nat} {f : List Nat → List Nat} : ∀ {C : List (List Nat)} {Y : List Nat}, Ok (C.map f) Y → (∀ c ∈ C, ∀ x, x ∈ f c ↔ ∃ t ∈ c, x = s.getD t 0) → ∃ X, Ok C X ∧ Y = X.map fun x => s.getD x 0
  | [], Y, h, _ => by cases h; exact ⟨[], .nil, rfl⟩
  | c :: C, Y, h, hf => by
    cases h with
    | cons ht h =>
      obtain ⟨X, o, e⟩ := Ok.unren h fun c hc => hf c (List.mem_cons_of_mem _ hc)
      obtain ⟨t, ht, e2⟩ := (hf c List.mem_cons_self _).mp ht
      exact ⟨t :: X, .cons ht o, by rw [List.map_cons, e, e2]⟩
theorem Least.ren {n : Nat} {W W' : List Int} {C : List (List Nat)} {m : Int} {s : List Nat} {f : List Nat → List Nat} (hs : Nm n s) (hC : CB n C) (hW : ∀ t, t < n → W'.getD (s.getD t 0) 0 = W.getD t 0)
    (hf : ∀ c ∈ C, ∀ x, x ∈ f c ↔ ∃ t ∈ c, x = s.getD t 0) (h : Least n W C m) : Least n W' (C.map f) m := by
  have key : ∀ X, Ok C X → ∀ t, t < n → lo W' (X.map fun x => s.getD x 0) (s.getD t 0) = lo W X t := fun X o t ht => by
    unfold lo
    rw [hW t ht, cnt_map hs ht (o.lt hC)]
  obtain ⟨X, o, l⟩ := h.ex
  refine ⟨⟨X.map fun x => s.getD x 0, o.ren hf, fun i hi => ?_⟩, fun Y m' oY lY => ?_⟩
  · obtain ⟨t, ht, e⟩ := hs.all hi
    have ht' : t < n := by rw [← hs.len]; exact ht
    have e2 : s.getD t 0 = i := by rw [List.getD_eq_getElem?_getD, List.getElem?_eq_getElem ht]; exact e
    rw [← e2, key X o t ht']
    exact l t ht'
  · obtain ⟨X, o, rfl⟩ := oY.unren hf
    refine h.le X m' o fun t ht => ?_
    rw [← key X o t ht]
    exact lY _ (hs.get ht)
/-! what a lot needs -/
theorem sum_list {n : Nat} (g : Nat → Int) : ∀ {U : List Nat}, U.Nodup → (∀ t ∈ U, t < n) → (U.map g).sum = Sm n fun t => if t ∈ U then g t else 0
  | [], _, _ => by
    rw [Sm_eq (g := fun _ => 0) fun i _ => by simp, Sm_const]; simp
  | u :: U, hn, hl => by
    have hn' := List.nodup_cons.mp hn
    rw [List.map_cons, List.sum_cons, sum_list g hn'.2 fun t ht => hl t (List.mem_cons_of_mem _ ht)]
    have e := Sm_eq (n := n) (f := fun t => if t ∈ u :: U then g t else 0) (g := fun t => (if t ∈ U then g t else 0) + if t = u then g u else 0) fun i _ => by
      try dsimp only
      by_cases e : i = u
      · subst e; rw [if_pos List.mem_cons_self, if_neg hn'.1, if_pos rfl]; omega
      · rw [if_neg e]
        by_cases e2 : i ∈ U
        · rw [if_pos (List.mem_cons_of_mem _ e2), if_pos e2]; omega
        · rw [if_neg (fun z => (List.mem_cons.mp z).elim e e2), if_neg e2]; omega
    rw [e, Sm_add, Sm_one, if_pos (hl u List.mem_cons_self)]
    omega
/-- how much room some tapes have up to a level -/
def Fu (W : List Int) (U : List Nat) (L : Int) : Int := (U.map fun t => pos (L - W.getD t 0)).sum
theorem Fu_eq {n : Nat} {W : List Int} {U V : List Nat} (hU : U.Nodup) (hV : V.Nodup) (hl : ∀ t ∈ U, t < n) (h : ∀ t, t ∈ U ↔ t ∈ V) (L : Int) : Fu W U L = Fu W V L := by
  unfold Fu
  rw [sum_list _ hU hl, sum_list (n := n) _ hV fun t ht => hl t ((h t).mpr ht)]
  exact Sm_eq fun i _ => by
    by_cases e : i ∈ U
    · rw [if_pos e, if_pos ((h i).mp e)]
    · rw [if_neg e, if_neg fun z => e ((h i).mpr z)]
theorem Fu_mono {W : List Int} {L L' : Int} (h : L ≤ L') : ∀ U : List Nat, Fu W U L ≤ Fu W U L'
  | [] => Int.le_refl _
  | u :: U => by
    have := Fu_mono (W := W) h U
    unfold Fu at *
    simp only [List.map_cons, List.sum_cons]
    have : pos (L - W.getD u 0) ≤ pos (L' - W.getD u 0) := by unfold pos; split <;> split <;> omega
    omega
theorem room {n : Nat} {W : List Int} {C : List (List Nat)} {X : List Nat} {T : Nat → Bool} {U : List Nat} {m : Int} {t0 : Nat} (hC : CB n C) (h : Ok C X) (hT : ∀ p ∈ C.zip X, T p.2 = true → ∀ o ∈ p.1, T o = true)
    (hm : ∀ i, i < n → lo W X i ≤ m) (hm1 : ∀ o, o < n → T o = true → m ≤ lo W X o + 1) (h0 : t0 < n) (hT0 : T t0 = true) (e0 : lo W X t0 = m) (hw : ∀ i, i < n → W.getD i 0 ≤ m - 1)
    (hU : U.Nodup) (hUm : ∀ t, t ∈ U ↔ ∃ p ∈ C.zip X, T p.2 = true ∧ t ∈ p.1) : ((X.countP T : Nat) : Int) ≤ Fu W U m ∧ Fu W U (m - 1) < ((X.countP T : Nat) : Int) := by
  have hz : ∀ {C : List (List Nat)} {X : List Nat}, Ok C X → ∀ t ∈ X, ∃ p ∈ C.zip X, p.2 = t ∧ t ∈ p.1 := by
    intro C X h
    induction h with
    | nil => intro t h; cases h
    | @cons c u C X ht _ ih =>
      intro t h
      rcases List.mem_cons.mp h with rfl | h
      · exact ⟨(c, t), List.mem_cons_self, rfl, ht⟩
      · obtain ⟨p, hp, k⟩ := ih t h
        exact ⟨p, List.mem_cons_of_mem _ hp, k⟩
  have hUT : ∀ t, t ∈ U → T t = true := fun t ht => by
    obtain ⟨p, hp, k, hk⟩ := (hUm t).mp ht
    exact hT p hp k t hk
  have hUl : ∀ t ∈ U, t < n := fun t ht => by
    obtain ⟨p, hp, k, hk⟩ := (hUm t).mp ht
    exact hC p.1 (List.of_mem_zip hp).1 t hk
  have hTU : ∀ t, T t = true → X.count t ≠ 0 → t ∈ U := fun t ht hc => by
    have : t ∈ X := List.count_pos_iff.mp (by omega)
    obtain ⟨p, hp, e, k⟩ := hz h t this
    exact (hUm t).mpr ⟨p, hp, by rw [e]; exact ht, k⟩
  have e1 : ((X.countP T : Nat) : Int) = Sm n fun t => if t ∈ U then lo W X t - W.getD t 0 else 0 := by
    rw [← ct_sum T (h.lt hC)]
    refine Sm_eq fun i _ => ?_
    by_cases hu : i ∈ U
    · rw [if_pos hu, if_pos (hUT i hu)]; unfold lo; omega
    · rw [if_neg hu]
      split
      · rename_i ht
        by_cases z : X.count i = 0
        · rw [z]; rfl
        · exact absurd (hTU i ht z) hu
      · rfl
  unfold Fu
  rw [e1, sum_list _ hU hUl, sum_list _ hU hUl]
  have hlo : ∀ i, W.getD i 0 ≤ lo W X i := fun i => by unfold lo; omega
  constructor
  · refine Sm_le fun i hi => ?_
    have := hm i hi
    have := hlo i
    split
    · unfold pos; split <;> omega
    · exact Int.le_refl _
  · have hu0 : t0 ∈ U := hTU t0 hT0 fun z => by
      have := hw t0 h0
      unfold lo at e0
      rw [z] at e0
      omega
    refine Sm_lt (a := t0) (fun i hi => ?_) h0 ?_
    · have := hlo i
      try dsimp only
      split
      · rename_i hu
        have := hm1 i hi (hUT i hu)
        unfold pos; split <;> omega
      · exact Int.le_refl _
    · try dsimp only
      rw [if_pos hu0, if_pos hu0]
      have := hw t0 h0
      unfold pos; split <;> omega
end LW
/-! P3: the checks. -/
namespace LW
open PySem PySem.Spec PyProof.Rows L2 VL HD
theorem fi {m d : Nat} {p : PV} (h : Vok m d p) (a b : Int) : F_is_integer [] [p, .int a, .int b] = .ok (.sh (.bl (isI p a b)), []) := integer_ok rfl h a b
theorem ft {m d : Nat} {p : PV} (h : Vok m d p) (a b : Int) : F_is_tuple [] [p, .int a, .int b] = .ok (.sh (.bl (isTu p a b)), []) := tuple_ok h a b
theorem vi {m d : Nat} {i : Int} (h0 : -10000000 ≤ i) (h1 : i ≤ 10000000) : Vok m d (.int i) := .int (by omega) (by omega)
theorem fiI {i a b : Int} (h0 : -10000000 ≤ i) (h1 : i ≤ 10000000) (ha : a ≤ i) (hb : i ≤ b) : F_is_integer [] [.int i, .int a, .int b] = .ok (.sh (.bl true), []) := by
  rw [fi (vi (m := 100) (d := 0) h0 h1) a b]
  have : isI (.int i) a b = true := by simp [isI]; omega
  rw [this]
/-- lists of ints, of tapes, as trees -/
def zs (l : List Nat) : List Int := l.map fun t : Nat => (t : Int)
abbrev tI (a : List Int) : PV := .tup (I a)
abbrev tN (l : List Nat) : PV := tI (zs l)
def tC (C : List (List Nat)) : List PV := C.map tN
theorem zs_len (l : List Nat) : (zs l).length = l.length := by simp [zs]
theorem tC_len (C : List (List Nat)) : (tC C).length = C.length := by simp [tC]
theorem vIs {m d : Nat} {is : List Int} (hl : is.length ≤ m) (h : ∀ i ∈ is, -10000000 ≤ i ∧ i ≤ 10000000) : Vok m (d + 1) (.tup (I is)) := .tup (by rw [I_len]; exact hl) fun p hp => by
  obtain ⟨i, hi, rfl⟩ := List.mem_map.mp hp
  exact vi (h i hi).1 (h i hi).2
theorem vNs {m d : Nat} {l : List Nat} (hl : l.length ≤ m) (h : ∀ t ∈ l, t ≤ 1000) : Vok m (d + 1) (tN l) := vIs (by rw [zs_len]; exact hl) fun i hi => by
  obtain ⟨t, ht, rfl⟩ := List.mem_map.mp hi
  have := h t ht
  omega
theorem ftI {is : List Int} {a b : Int} (h : ∀ i ∈ is, -10000000 ≤ i ∧ i ≤ 10000000) (hl : is.length ≤ 1000) (ha : a ≤ is.length) (hb : (is.length : Int) ≤ b) : F_is_tuple [] [tI is, .int a, .int b] = .ok (.sh (.bl true), []) := by
  rw [ft (vIs (m := 1000) (d := 0) hl h) a b]
  have : isTu (tI is) a b = true := by simp [isTu, I_len]; omega
  rw [this]
theorem set_back {s0 : PSt} {i : Nat} {v : Option LV} (h0 : s0[i]? = some v) : s0.set i v = s0 := by
  obtain ⟨hlt, e⟩ := List.getElem?_eq_some_iff.mp h0
  rw [← e]
  exact List.set_getElem_self hlt
theorem lc_map (f : PV → PV) (ps : List PV) (i : Nat) (s0 : PSt) (e : M PV) (hl : ps.length ≤ 1000000) (h0 : s0[i]? = some none)
    (he : ∀ p ∈ ps, e (s0.set i (some (.sh p))) = .ok (f p, s0.set i (some (.sh p)))) :
    dLcL [i] (gNm i) dYes e ps [] s0 = .ok (ps.map f, s0) := by
  have h := lc_all (vs := [i]) (g := gNm i) (t := dYes) (e := e) f s0 ps [] (by simp; omega) (fun p hp => by
    refine ⟨s0.set i (some (.sh p)), s0.set i (some (.sh p)), s0.set i (some (.sh p)), rfl, rfl, he p hp, ?_⟩
    show (s0.set i (some (.sh p))).set i none = s0
    rw [List.set_set]
    exact set_back h0)
  rw [h]
  simp
theorem lc_each (f : PV → Bool) (ps : List PV) (i : Nat) (s0 : PSt) (e : M PV) (hl : ps.length ≤ 1000000) (h0 : s0[i]? = some none)
    (he : ∀ p ∈ ps, e (s0.set i (some (.sh p))) = .ok (.bl (f p), s0.set i (some (.sh p)))) :
    dLcL [i] (gNm i) dYes e ps [] s0 = .ok ((ps.map f).map PV.bl, s0) := by
  have h := lc_all (vs := [i]) (g := gNm i) (t := dYes) (e := e) (fun p => .bl (f p)) s0 ps [] (by simp; omega) (fun p hp => by
    refine ⟨s0.set i (some (.sh p)), s0.set i (some (.sh p)), s0.set i (some (.sh p)), rfl, rfl, he p hp, ?_⟩
    show (s0.set i (some (.sh p))).set i none = s0
    rw [List.set_set]
    exact set_back h0)
  rw [h]
  simp [List.map_map, Function.comp_def]
theorem zip_mem : ∀ {A B : List Int} {p : PV}, p ∈ zipL (I A) (I B) → ∃ a b, p = .tup [.int a, .int b] ∧ (a, b) ∈ A.zip B
  | [], _, p, h => by simp [I, zipL] at h
  | _ :: _, [], p, h => by simp [I, zipL] at h
  | a :: A, b :: B, p, h => by
    rcases List.mem_cons.mp (show p ∈ PV.tup [.int a, .int b] :: zipL (I A) (I B) from h) with rfl | h
    · exact ⟨a, b, rfl, by simp⟩
    · obtain ⟨x, y, e, k⟩ := zip_mem h
      exact ⟨x, y, e, List.mem_cons_of_mem _ k⟩
theorem zip_next : ∀ {A : List Int}, A.Pairwise (· < ·) → ∀ {a b : Int}, (a, b) ∈ A.zip (A.drop 1) → a < b
  | [], _, a, b, h => by simp at h
  | [x], _, a, b, h => by simp at h
  | x :: y :: A, hp, a, b, h => by
    rw [List.drop_one, List.tail_cons, List.zip_cons_cons] at h
    rcases List.mem_cons.mp h with h | h
    · cases h
      exact (List.pairwise_cons.mp hp).1 _ List.mem_cons_self
    · exact zip_next (List.pairwise_cons.mp hp).2 (by rw [List.drop_one, List.tail_cons]; exact h)
theorem zipL_len : ∀ (A B : List PV), (zipL A B).length ≤ A.length
  | [], B => by simp [zipL]
  | a :: A, [] => by simp [zipL]
  | a :: A, b :: B => by have := zipL_len A B; simp [zipL]; omega
theorem rising_ok {A : List Int} (h : A.Pairwise (· < ·)) (hl : A.length ≤ 1000) : F_is_rising [] [tI A] = .ok (.sh (.bl true), []) := by
  have hz := zipL_len (I A) ((I A).drop 1)
  rw [I_len] at hz
  have lc := lc_all (vs := [1, 2]) (g := gTp 2 (gCs (gNm 1) (gCs (gNm 2) gNl))) (t := dYes) (e := E_is_rising_0) (fun _ => .bl true) [some (.sh (tI A)), none, none] (zipL (I A) ((I A).drop 1)) [] (by rw [List.length_nil]; omega) (fun p hp => by
    have hp' : p ∈ zipL (I A) (I (A.drop 1)) := by unfold I at hp ⊢; rw [List.map_drop]; exact hp
    obtain ⟨a, b, rfl, k⟩ := zip_mem hp'
    have := zip_next h k
    exact ⟨[some (.sh (tI A)), some (.sh (.int a)), some (.sh (.int b))], _, [some (.sh (tI A)), some (.sh (.int a)), some (.sh (.int b))], rfl, rfl, by simp [E_is_rising_0, this], rfl⟩)
  have ha := allT (ps := (zipL (I A) ((I A).drop 1)).map fun _ => PV.bl true) (fun p hp => by
    obtain ⟨q, _, rfl⟩ := List.mem_map.mp hp; rfl)
  refine fn_rt (s' := [some (.sh (tI A)), none, none]) ?_
  show S_is_rising_0 _ = _
  unfold S_is_rising_0
  generalize E_is_rising_0 = Ei at lc ⊢
  have hc : cutR (tI A) (some 1) none = .ok (.tup ((I A).drop 1)) := by
    have := cutP_from (ps := I A) (n := 1)
    simp only [tI, cutR]
    rw [show ((1 : Nat) : Int) = 1 from rfl] at this
    rw [this]
  simp only [tI] at lc hc ⊢
  generalize (I A).drop 1 = B at lc ha hc
  generalize I A = A' at lc ha hc ⊢
  have hi : itemsV (.tup A') = some A' := rfl
  generalize hzz : zipL A' B = z at lc ha ⊢
  generalize z.map (fun _ => PV.bl true) = bs at lc ha
  rw [List.nil_append] at lc
  simp [startP, hc, wipeP, hzz, lc, backP, shP, ha]
end LW
/-! P4: copies, wear, choices, lots checked. -/
namespace LW
open PySem PySem.Spec PyProof.Rows L2 VL HD
structure Inp (W : List Int) (C : List (List Nat)) : Prop where
  n1 : 1 ≤ W.length
  n2 : W.length ≤ 12
  hw : ∀ w ∈ W, 0 ≤ w ∧ w ≤ 1000000
  cl : C.length ≤ 20
  ne : ∀ c ∈ C, c ≠ []
  asc : ∀ c ∈ C, c.Pairwise (· < ·)
  lt : CB W.length C
theorem Inp.clen {W : List Int} {C : List (List Nat)} (h : Inp W C) {c : List Nat} (hc : c ∈ C) : 1 ≤ c.length ∧ c.length ≤ W.length := by
  constructor
  · have := h.ne c hc
    cases c with
    | nil => exact absurd rfl this
    | cons _ _ => simp
  · have := sub_len (List.range W.length) c ((h.asc c hc).imp fun h => Nat.ne_of_lt h) fun t ht => List.mem_range.mpr (h.lt c hc t ht)
    simpa using this
theorem zs_mem {l : List Nat} {i : Int} (h : i ∈ zs l) : ∃ t ∈ l, i = (t : Nat) := by
  obtain ⟨t, ht, rfl⟩ := List.mem_map.mp h
  exact ⟨t, ht, rfl⟩
theorem zs_asc {l : List Nat} (h : l.Pairwise (· < ·)) : (zs l).Pairwise (· < ·) := List.pairwise_map.mpr (h.imp fun {a b} h => by omega)
/-- all of a list is so -/
theorem all_is {ps : List PV} (i : Nat) (s0 : PSt) (e : M PV) (hl : ps.length ≤ 1000000) (h0 : s0[i]? = some none)
    (he : ∀ p ∈ ps, e (s0.set i (some (.sh p))) = .ok (.bl true, s0.set i (some (.sh p)))) : ∃ bs, dLcL [i] (gNm i) dYes e ps [] s0 = .ok (bs, s0) ∧ allV (.lst bs) = .ok (.bl true) :=
  ⟨_, lc_each (fun _ => true) ps i s0 e hl h0 he, allT fun p hp => by
    obtain ⟨b, hb, rfl⟩ := List.mem_map.mp hp
    obtain ⟨q, _, rfl⟩ := List.mem_map.mp hb
    rfl⟩
theorem copy_ok {W : List Int} {C : List (List Nat)} (h : Inp W C) {c : List Nat} (hc : c ∈ C) : F_is_copy [] [tI W, tN c] = .ok (.sh (.bl true), []) := by
  have hl := h.clen hc
  have hn := h.n2
  have hlt := h.lt c hc
  have e1 := ftI (is := zs c) (a := 1) (b := (W.length : Int)) (fun i hi => by obtain ⟨t, ht, rfl⟩ := zs_mem hi; have := hlt t ht; omega) (by rw [zs_len]; omega) (by rw [zs_len]; omega) (by rw [zs_len]; omega)
  have e2 := rising_ok (zs_asc (h.asc c hc)) (by rw [zs_len]; omega)
  obtain ⟨bs, lc, ha⟩ := all_is (ps := I (zs c)) 2 [some (.sh (tI W)), some (.sh (tN c)), none] E_is_copy_0 (by rw [I_len, zs_len]; omega) rfl (fun p hp => by
    obtain ⟨i, hi, rfl⟩ := List.mem_map.mp hp
    obtain ⟨t, ht, rfl⟩ := zs_mem hi
    have := hlt t ht
    have e := fiI (i := (t : Nat)) (a := 0) (b := (W.length : Int) - 1) (by omega) (by omega) (by omega) (by omega)
    unfold E_is_copy_0
    generalize F_is_integer = Fi at e ⊢
    simp [I_len, e])
  refine fn_rt (s' := [some (.sh (tI W)), some (.sh (tN c)), none]) ?_
  refine seq_nx (s' := [some (.sh (tI W)), some (.sh (tN c)), none]) ?_ ?_
  · unfold S_is_copy_0
    generalize E_is_copy_0 = Ei at lc ⊢
    generalize F_is_tuple = Ft at e1 ⊢
    simp [startP, I_len, e1, wipeP, lc, backP, shP, ha]
  · unfold S_is_copy_1
    generalize F_is_rising = Fr at e2 ⊢
    simp [e2]
theorem tC_small {C : List (List Nat)} (hl : C.length ≤ 100) (hc : ∀ c ∈ C, c.length ≤ 100 ∧ ∀ t ∈ c, t ≤ 100) : Vok 1000 2 (.tup (tC C)) := .tup (by rw [tC_len]; omega) fun p hp => by
  obtain ⟨c, h, rfl⟩ := List.mem_map.mp hp
  exact vNs (by have := (hc c h).1; omega) fun t ht => by have := (hc c h).2 t ht; omega
theorem wear_ok {W : List Int} {C : List (List Nat)} (h : Inp W C) : F_check_wear [] [tI W, .tup (tC C)] = .ok (.sh .non, []) := by
  have h1 := h.n1; have h2 := h.n2; have h3 := h.cl
  have e1 := ftI (is := W) (a := 1) (b := 12) (fun i hi => by have := h.hw i hi; omega) (by omega) (by omega) (by omega)
  have e2 : F_is_tuple [] [.tup (tC C), .int 0, .int 20] = .ok (.sh (.bl true), []) := by
    rw [ft (tC_small (C := C) (by omega) fun c hc => ⟨by have := h.clen hc; omega, fun t ht => by have := h.lt c hc t ht; omega⟩) 0 20]
    have : isTu (.tup (tC C)) 0 20 = true := by simp [isTu, tC_len]; omega
    rw [this]
  obtain ⟨bs, lc, ha⟩ := all_is (ps := I W) 2 [some (.sh (tI W)), some (.sh (.tup (tC C))), none] E_check_wear_0 (by rw [I_len]; omega) rfl (fun p hp => by
    obtain ⟨i, hi, rfl⟩ := List.mem_map.mp hp
    have := h.hw i hi
    have e := fiI (i := i) (a := 0) (b := 1000000) (by omega) (by omega) (by omega) (by omega)
    unfold E_check_wear_0
    generalize F_is_integer = Fi at e ⊢
    simp [e])
  obtain ⟨bs2, lc2, ha2⟩ := all_is (ps := tC C) 2 [some (.sh (tI W)), some (.sh (.tup (tC C))), none] E_check_wear_1 (by rw [tC_len]; omega) rfl (fun p hp => by
    obtain ⟨c, hc, rfl⟩ := List.mem_map.mp hp
    have e := copy_ok h hc
    unfold E_check_wear_1
    generalize F_is_copy = Fi at e ⊢
    simp [e])
  refine fn_nx (s' := [some (.sh (tI W)), some (.sh (.tup (tC C))), none]) ?_
  refine seq_nx (s' := [some (.sh (tI W)), some (.sh (.tup (tC C))), none]) ?_ ?_
  · unfold S_check_wear_0
    generalize E_check_wear_0 = Ei at lc ⊢
    generalize F_is_tuple = Ft at e1 ⊢
    simp [startP, e1, wipeP, lc, backP, shP, ha]
  · unfold S_check_wear_1
    generalize E_check_wear_1 = Ei at lc2 ⊢
    generalize F_is_tuple = Ft at e2 ⊢
    simp [e2, wipeP, lc2, backP, shP, ha2]
end LW
/-! P5: loads; choices and lots that are such. -/
namespace LW
open PySem PySem.Spec PyProof.Rows L2 VL HD
theorem lds_len (n : Nat) (W : List Int) (X : List Nat) : (lds n W X).length = n := by simp [lds]
theorem lds_get {n : Nat} {W : List Int} {X : List Nat} {i : Nat} (h : i < (lds n W X).length) : (lds n W X)[i] = lo W X i := by simp [lds]
theorem lds_nil (W : List Int) : lds W.length W [] = W := by
  refine List.ext_getElem (by rw [lds_len]) fun i h1 h2 => ?_
  rw [lds_get]
  unfold lo
  rw [List.getD_eq_getElem?_getD, List.getElem?_eq_getElem h2]
  simp
theorem lo_snoc (W : List Int) (X : List Nat) (t i : Nat) : lo W (X ++ [t]) i = lo W X i + if i = t then 1 else 0 := by
  unfold lo
  rw [List.count_append, List.count_cons, List.count_nil]
  by_cases e : i = t
  · subst e; simp; omega
  · have : (t == i) = false := by simp; exact fun z => e z.symm
    rw [this, if_neg e]; simp
theorem lds_snoc {n : Nat} (W : List Int) (X : List Nat) {t : Nat} (ht : t < n) : (lds n W X).set t (lo W X t + 1) = lds n W (X ++ [t]) := by
  refine List.ext_getElem (by rw [List.length_set, lds_len, lds_len]) fun i h1 h2 => ?_
  rw [List.getElem_set, lds_get, lds_get, lo_snoc]
  split
  · rename_i e; subst e; simp
  · rename_i e; rw [if_neg fun z => e z.symm]; omega
theorem lds_at {n : Nat} (W : List Int) (X : List Nat) {t : Nat} (ht : t < n) : atI (I (lds n W X)) (t : Nat) = some (.int (lo W X t)) := by
  refine atI_nat ?_
  unfold I lds
  rw [List.getElem?_map, List.getElem?_map, List.getElem?_range ht]
  rfl
theorem I_set (L : List Int) (i : Nat) (v : Int) : (I L).set i (.int v) = I (L.set i v) := by unfold I; rw [List.map_set]
theorem loads_ok {W : List Int} {X : List Nat} (hW : W.length ≤ 1000) (hX : ∀ t ∈ X, t < W.length) : F_loads [] [tI W, tN X] = .ok (.sh (.lst (I (lds W.length W X))), []) := by
  obtain ⟨s', e1, o, e2⟩ := forL_inv (g := gNm 3) (body := B_loads_0) (I (zs X)) (fun j s => ∃ o, s = [some (.sh (tI W)), some (.sh (tN X)), some (.ow (.lst (I (lds W.length W (X.take j))))), o]) [some (.sh (tI W)), some (.sh (tN X)), some (.ow (.lst (I W))), none] ⟨none, by rw [List.take_zero, lds_nil]⟩ fun j hj s ⟨o, es⟩ => by
    subst es
    have hj' : j < X.length := by rw [I_len, zs_len] at hj; exact hj
    have ht : X[j] < W.length := hX _ (List.getElem_mem hj')
    have ep : (I (zs X))[j] = .int (X[j] : Nat) := by simp [I, zs]
    rw [ep]
    refine ⟨_, _, rfl, ?_, some (.sh (.int (X[j] : Nat))), rfl⟩
    have ea := lds_at W (X.take j) ht
    have ei : ixN (lds W.length W (X.take j)).length ((X[j] : Nat) : Int) = some X[j] := by
      rw [lds_len]; simp [ixN]; omega
    have hs : (I (lds W.length W (X.take j))).set X[j] (.int (lo W (X.take j) X[j] + 1)) = I (lds W.length W (X.take (j + 1))) := by
      rw [I_set, lds_snoc _ _ ht, List.take_succ_eq_append_getElem hj']
    unfold B_loads_0
    simp [owA, ea, I_len, ei, hs]
  rw [I_len, zs_len, List.take_length] at e2
  refine fn_rt (s' := [some (.sh (tI W)), some (.sh (tN X)), some (.sh (.lst (I (lds W.length W X)))), o]) ?_
  refine seq_nx (s' := [some (.sh (tI W)), some (.sh (tN X)), some (.ow (.lst (I W))), none]) (by simp [S_loads_0, startP, listV]) ?_
  refine seq_nx (s' := s') ?_ ?_
  · unfold S_loads_1
    generalize B_loads_0 = Bi at e1 ⊢
    simp only [e_For, e_Walk, e_Var]
    simpa using e1
  · subst e2
    simp [S_loads_2]
theorem law_loads_ok {W : List Int} {X : List Nat} (hW : W.length ≤ 1000) (hX : ∀ t ∈ X, t < W.length) : F__law_loads [] [tI W, tN X] = .ok (.sh (.lst (I (lds W.length W X))), []) := loads_ok hW hX
theorem inB_I (x : Int) (g : List Int) : inB (.int x) (I g) = g.contains x := by
  unfold inB I
  rw [List.any_map]
  rw [Bool.eq_iff_iff]
  simp only [List.any_eq_true, Function.comp, eqB, PV.toD, PyData.eqv, beq_iff_eq, List.contains_iff_mem]
  constructor
  · rintro ⟨y, h, rfl⟩; exact h
  · intro h; exact ⟨x, h, rfl⟩
theorem in_ok {t : Nat} {c : List Nat} (ht : t ∈ c) (hl : c.length ≤ 1000) (hc : ∀ t ∈ c, t ≤ 1000) : VL.inV (.int (t : Nat)) (tN c) = .ok (.bl true) := by
  have h1 : okD (.int (t : Nat)) = true := okD_int _
  have h2 : okD (tN c) = true := (vNs (m := 1000) (d := 0) hl hc).okD (by omega)
  have h3 : (zs c).contains (t : Int) = true := by
    rw [List.contains_iff_mem]; exact List.mem_map.mpr ⟨t, ht, rfl⟩
  unfold VL.inV
  rw [h1, h2]
  simp only [Bool.and_self, if_true]
  show Res.ok (PV.bl (inB (.int (t : Nat)) (I (zs c)))) = _
  rw [inB_I, h3]
theorem zipN_mem {X : List Nat} {C : List (List Nat)} : ∀ {p : PV}, p ∈ zipL (I (zs X)) (tC C) → ∃ t c, p = .tup [.int (t : Nat), tN c] ∧ (c, t) ∈ C.zip X := by
  induction X generalizing C with
  | nil => intro p h; simp [I, zs, zipL] at h
  | cons t X ih =>
    intro p h
    cases C with
    | nil => simp [tC, zipL] at h
    | cons c C =>
      rcases List.mem_cons.mp (show p ∈ PV.tup [.int (t : Nat), tN c] :: zipL (I (zs X)) (tC C) from h) with rfl | h
      · exact ⟨t, c, rfl, by simp⟩
      · obtain ⟨a, b, e, k⟩ := ih h
        exact ⟨a, b, e, List.mem_cons_of_mem _ k⟩
theorem Ok.zip {C : List (List Nat)} {X : List Nat} (h : Ok C X) : ∀ {c : List Nat} {t : Nat}, (c, t) ∈ C.zip X → t ∈ c := by
  induction h with
  | nil => intro c t h; simp at h
  | cons ht _ ih =>
    intro c t h
    rw [List.zip_cons_cons] at h
    rcases List.mem_cons.mp h with h | h
    · cases h; exact ht
    · exact ih h
theorem choice_ok {W : List Int} {C : List (List Nat)} {X : List Nat} (h : Inp W C) (hX : Ok C X) : F_is_choice [] [.tup (tC C), tN X] = .ok (.sh (.bl true), []) := by
  have hn := h.n2
  have hc := h.cl
  have hlen := hX.len
  have e1 := ftI (is := zs X) (a := C.length) (b := C.length) (fun i hi => by obtain ⟨t, ht, rfl⟩ := zs_mem hi; have := hX.lt h.lt t ht; omega) (by rw [zs_len]; omega) (by rw [zs_len]; omega) (by rw [zs_len]; omega)
  have hz := zipL_len (I (zs X)) (tC C)
  rw [I_len, zs_len] at hz
  have lc := lc_all (vs := [2, 3]) (g := gTp 2 (gCs (gNm 2) (gCs (gNm 3) gNl))) (t := dYes) (e := E_is_choice_0) (fun _ => .bl true) [some (.sh (.tup (tC C))), some (.sh (tN X)), none, none] (zipL (I (zs X)) (tC C)) [] (by rw [List.length_nil]; omega) (fun p hp => by
    obtain ⟨t, c, rfl, k⟩ := zipN_mem hp
    have kc := (List.of_mem_zip k).1
    have kt := hX.zip k
    have hlt := h.lt c kc
    have := hlt t kt
    have e := fiI (i := (t : Nat)) (a := 0) (b := 12) (by omega) (by omega) (by omega) (by omega)
    have e3 := in_ok kt (by have := h.clen kc; omega) (fun u hu => by have := hlt u hu; omega)
    refine ⟨[some (.sh (.tup (tC C))), some (.sh (tN X)), some (.sh (.int (t : Nat))), some (.sh (tN c))], _, [some (.sh (.tup (tC C))), some (.sh (tN X)), some (.sh (.int (t : Nat))), some (.sh (tN c))], rfl, rfl, ?_, rfl⟩
    unfold E_is_choice_0
    generalize F_is_integer = Fi at e ⊢
    simp [e, e3])
  have ha := allT (ps := (zipL (I (zs X)) (tC C)).map fun _ => PV.bl true) (fun p hp => by
    obtain ⟨q, _, rfl⟩ := List.mem_map.mp hp; rfl)
  refine fn_rt (s' := [some (.sh (.tup (tC C))), some (.sh (tN X)), none, none]) ?_
  refine seq_nx (s' := [some (.sh (.tup (tC C))), some (.sh (tN X)), none, none]) ?_ ?_
  · unfold S_is_choice_0
    generalize F_is_tuple = Ft at e1 ⊢
    simp [startP, tC_len, e1]
  · unfold S_is_choice_1
    generalize E_is_choice_0 = Ei at lc ⊢
    simp only [tN, tI] at lc ⊢
    generalize I (zs X) = A' at lc ha ⊢
    generalize tC C = C' at lc ha ⊢
    generalize hzz : zipL A' C' = z at lc ha ⊢
    generalize z.map (fun _ => PV.bl true) = bs at lc ha
    rw [List.nil_append] at lc
    simp [wipeP, hzz, lc, backP, shP, ha]
theorem lot_ok {W : List Int} {C : List (List Nat)} {L : List Nat} (h : Inp W C) (ha : L.Pairwise (· < ·)) (hl : ∀ a ∈ L, a < C.length) : F_check_lot [] [.tup (tC C), tN L] = .ok (.sh .non, []) := by
  have hc := h.cl
  have hlen := sub_len (List.range C.length) L (ha.imp fun h => Nat.ne_of_lt h) fun t ht => List.mem_range.mpr (hl t ht)
  rw [List.length_range] at hlen
  have e1 := ftI (is := zs L) (a := 0) (b := C.length) (fun i hi => by obtain ⟨t, ht, rfl⟩ := zs_mem hi; have := hl t ht; omega) (by rw [zs_len]; omega) (by rw [zs_len]; omega) (by rw [zs_len]; omega)
  have e2 := rising_ok (zs_asc ha) (by rw [zs_len]; omega)
  obtain ⟨bs, lc, hb⟩ := all_is (ps := I (zs L)) 2 [some (.sh (.tup (tC C))), some (.sh (tN L)), none] E_check_lot_0 (by rw [I_len, zs_len]; omega) rfl (fun p hp => by
    obtain ⟨i, hi, rfl⟩ := List.mem_map.mp hp
    obtain ⟨t, ht, rfl⟩ := zs_mem hi
    have := hl t ht
    have e := fiI (i := (t : Nat)) (a := 0) (b := (C.length : Int) - 1) (by omega) (by omega) (by omega) (by omega)
    unfold E_check_lot_0
    generalize F_is_integer = Fi at e ⊢
    simp [tC_len, e])
  refine fn_nx (s' := [some (.sh (.tup (tC C))), some (.sh (tN L)), none]) ?_
  refine seq_nx (s' := [some (.sh (.tup (tC C))), some (.sh (tN L)), none]) ?_ ?_
  · unfold S_check_lot_0
    generalize E_check_lot_0 = Ei at lc ⊢
    generalize F_is_tuple = Ft at e1 ⊢
    simp [startP, tC_len, e1, wipeP, lc, backP, shP, hb]
  · unfold S_check_lot_1
    generalize F_is_rising = Fr at e2 ⊢
    simp [e2]
end LW
/-! P6: what a lot needs: by dicts, by the law's own room. -/
namespace LW
open PySem PySem.Spec PyProof.Rows L2 VL HD
/-! dicts of tapes -/
def kN (l : List Nat) : List Key := l.map fun t : Nat => .inl (t : Int)
def tr (l : List Nat) : List PV := l.map fun _ => PV.bl true
theorem kN_len (l : List Nat) : (kN l).length = l.length := by simp [kN]
theorem tr_len (l : List Nat) : (tr l).length = l.length := by simp [tr]
theorem kHas_N (t : Nat) : ∀ U : List Nat, kHas (.inl (t : Int)) (kN U) = decide (t ∈ U)
  | [] => rfl
  | u :: U => by
    have ih := kHas_N t U
    show (decide ((Sum.inl (u : Int) : Key) = .inl (t : Int)) || kHas (.inl (t : Int)) (kN U)) = _
    rw [ih]
    by_cases e : u = t
    · subst e; simp
    · have h1 : ¬ (Sum.inl (u : Int) : Key) = .inl (t : Int) := fun z => e (by have := Sum.inl.inj z; omega)
      rw [decide_eq_false h1, Bool.false_or, Bool.eq_iff_iff]
      simp only [decide_eq_true_eq, List.mem_cons]
      exact ⟨fun h => .inr h, fun h => h.resolve_left fun z => e z.symm⟩
theorem setK_tr (k : Key) : ∀ U : List Nat, setK k (.bl true) (kN U) (tr U) = tr U
  | [] => rfl
  | u :: U => by
    have ih := setK_tr k U
    show (if (Sum.inl (u : Int) : Key) = k then PV.bl true else .bl true) :: setK k (.bl true) (kN U) (tr U) = .bl true :: tr U
    rw [ih]
    split <;> rfl
def ins1 (U : List Nat) (t : Nat) : List Nat := if t ∈ U then U else U ++ [t]
def insK (U c : List Nat) : List Nat := c.foldl ins1 U
theorem putP_N (t : Nat) (U : List Nat) : putP (.inl (t : Int)) (.bl true) (kN U) (tr U) = (kN (ins1 U t), tr (ins1 U t)) := by
  unfold putP ins1
  rw [kHas_N]
  by_cases h : t ∈ U
  · rw [decide_eq_true h, if_pos rfl, if_pos h, setK_tr]
  · rw [decide_eq_false h, if_neg (by simp), if_neg h]
    simp [kN, tr]
theorem ins1_mem {U : List Nat} {t x : Nat} : x ∈ ins1 U t ↔ x ∈ U ∨ x = t := by
  unfold ins1
  split
  · rename_i h
    exact ⟨.inl, fun k => k.elim id fun e => by rw [e]; exact h⟩
  · simp
theorem ins1_nd {U : List Nat} {t : Nat} (h : U.Nodup) : (ins1 U t).Nodup := by
  unfold ins1
  split
  · exact h
  · rename_i hn
    rw [List.nodup_append]
    exact ⟨h, by simp, fun a ha b hb e => hn (by simp at hb; rw [← hb, ← e]; exact ha)⟩
theorem ins1_len {U : List Nat} {t : Nat} : (ins1 U t).length ≤ U.length + 1 := by
  unfold ins1
  split <;> simp
theorem insK_mem {x : Nat} : ∀ {c U : List Nat}, x ∈ insK U c ↔ x ∈ U ∨ x ∈ c
  | [], U => by simp [insK]
  | t :: c, U => by
    have := insK_mem (x := x) (c := c) (U := ins1 U t)
    show x ∈ insK (ins1 U t) c ↔ _
    rw [this, ins1_mem, List.mem_cons, or_assoc]
theorem insK_nd : ∀ {c U : List Nat}, U.Nodup → (insK U c).Nodup
  | [], U, h => h
  | t :: c, U, h => insK_nd (c := c) (ins1_nd h)
theorem insK_len : ∀ {c U : List Nat}, (insK U c).length ≤ U.length + c.length
  | [], U => Nat.le_refl _
  | t :: c, U => by
    have h1 := insK_len (c := c) (U := ins1 U t)
    have h2 := ins1_len (U := U) (t := t)
    show (insK (ins1 U t) c).length ≤ _
    simp only [List.length_cons]
    omega
theorem mergeP_N : ∀ (c U : List Nat), mergeP (kN U) (tr U) (kN c) (tr c) = (kN (insK U c), tr (insK U c))
  | [], U => by
    show mergeP (kN U) (tr U) [] [] = _
    unfold mergeP; rfl
  | t :: c, U => by
    show mergeP (kN U) (tr U) (.inl (t : Int) :: kN c) (.bl true :: tr c) = _
    unfold mergeP
    rw [putP_N]
    exact mergeP_N c (ins1 U t)
theorem dc_N {i : Nat} {s0 : PSt} (h0 : s0[i]? = some none) : ∀ (c U : List Nat), U.length + c.length ≤ 1000 →
    dDcL [i] (gNm i) dYes (dVar i) (dC (.bl true)) (I (zs c)) (kN U) (tr U) s0 = .ok ((kN (insK U c), tr (insK U c)), s0)
  | [], U, _ => rfl
  | t :: c, U, hl => by
    have hi : i < s0.length := (List.getElem?_eq_some_iff.mp h0).1
    have ih := dc_N h0 c (ins1 U t) (by have := ins1_len (U := U) (t := t); simp at hl; omega)
    have hf : fitsL ((kN U).length + 1) = true := Nat.ble_eq_true_of_le (by rw [kN_len]; simp at hl; omega)
    have hb : wipeP (s0.set i (some (.sh (.int (t : Nat))))) [i] = s0 := by
      show (s0.set i (some (.sh (.int (t : Nat))))).set i none = s0
      rw [List.set_set]
      exact set_back h0
    have hv : dVar i (s0.set i (some (.sh (.int (t : Nat))))) = .ok (.int (t : Nat), s0.set i (some (.sh (.int (t : Nat))))) := by
      unfold dVar
      rw [List.getElem?_set_self hi]
    show dDcL [i] (gNm i) dYes (dVar i) (dC (.bl true)) (PV.int (t : Nat) :: I (zs c)) (kN U) (tr U) s0 = _
    unfold dDcL
    simp only [e_gNm, nox, Res.bind_ok, e_Yes, if_true, hv, e_C, v_key, optR_some, hf, putP_N, hb]
    exact ih
/-- the tapes that have some asks -/
def tapesOf (C : List (List Nat)) (L : List Nat) : List Nat := L.foldl (fun V a => insK V (insK [] (C.getD a []))) []
theorem tapes_mem {C : List (List Nat)} {x : Nat} : ∀ {L V : List Nat}, x ∈ L.foldl (fun V a => insK V (insK [] (C.getD a []))) V ↔ x ∈ V ∨ ∃ a ∈ L, x ∈ C.getD a []
  | [], V => by simp
  | a :: L, V => by
    rw [List.foldl_cons, tapes_mem (L := L), insK_mem, insK_mem]
    simp only [List.not_mem_nil, false_or, List.mem_cons, exists_eq_or_imp, or_assoc]
theorem tapes_nd {C : List (List Nat)} : ∀ {L V : List Nat}, V.Nodup → (L.foldl (fun V a => insK V (insK [] (C.getD a []))) V).Nodup
  | [], V, h => h
  | a :: L, V, h => by
    rw [List.foldl_cons]
    exact tapes_nd (insK_nd h)
theorem getC {C : List (List Nat)} {a : Nat} (h : a < C.length) : C.getD a [] ∈ C := by
  rw [List.getD_eq_getElem?_getD, List.getElem?_eq_getElem h]
  exact List.getElem_mem h
theorem atC {C : List (List Nat)} {a : Nat} (h : a < C.length) : atI (tC C) (a : Nat) = some (tN (C.getD a [])) := by
  refine atI_nat ?_
  rw [List.getD_eq_getElem?_getD, List.getElem?_eq_getElem h]
  unfold tC
  rw [List.getElem?_map, List.getElem?_eq_getElem h]
  rfl
theorem atW {W : List Int} {t : Nat} (h : t < W.length) : atI (I W) (t : Nat) = some (.int (W.getD t 0)) := by
  refine atI_nat ?_
  rw [List.getD_eq_getElem?_getD, List.getElem?_eq_getElem h]
  unfold I
  rw [List.getElem?_map, List.getElem?_eq_getElem h]
  rfl
theorem Fu_filter (W : List Int) (v : Int) : ∀ V : List Nat, (((V.map fun t => W.getD t 0).filter fun o => decide (o < v)).map fun o => v - o).sum = Fu W V v
  | [] => rfl
  | t :: V => by
    have ih := Fu_filter W v V
    unfold Fu at *
    rw [List.map_cons, List.map_cons, List.sum_cons, List.filter_cons]
    unfold pos at *
    split
    · rename_i h
      have := of_decide_eq_true h
      rw [List.map_cons, List.sum_cons, ih, if_pos (by omega)]
    · rename_i h
      have h' : ¬ W.getD t 0 < v := fun z => h (decide_eq_true z)
      rw [ih]
      split <;> omega
theorem Fu_zero {W : List Int} {v : Int} : ∀ {V : List Nat}, (∀ t ∈ V, v ≤ W.getD t 0) → Fu W V v = 0
  | [], _ => rfl
  | t :: V, h => by
    have ih := Fu_zero (W := W) (v := v) (V := V) fun u hu => h u (List.mem_cons_of_mem _ hu)
    have := h t List.mem_cons_self
    unfold Fu at *
    rw [List.map_cons, List.sum_cons, ih]
    unfold pos
    split <;> omega
theorem level_lt {W : List Int} {V : List Nat} {k m v : Int} (h1 : k ≤ Fu W V m) (h2 : Fu W V (m - 1) < k) : Fu W V v < k ↔ v < m := by
  constructor
  · intro h
    by_cases e : v < m
    · exact e
    · have := Fu_mono (W := W) (L := m) (L' := v) (by omega) V
      omega
  · intro h
    have := Fu_mono (W := W) (L := v) (L' := m - 1) (by omega) V
    omega
abbrev SA (W : List Int) (C : List (List Nat)) (L : List Nat) (a b c d e : Option LV) : PSt := [some (.sh (tI W)), some (.sh (.tup (tC C))), some (.sh (tN L)), a, b, c, d, e, none, none]
theorem whl_asks {W : List Int} {C : List (List Nat)} {L V : List Nat} {m : Int} {a b : Option LV} (hV : V.length ≤ 100) (h1 : (L.length : Int) ≤ Fu W V m) (h2 : Fu W V (m - 1) < L.length) : ∀ (k : Nat) (v : Int) (f : Nat), v + k = m → k + 1 ≤ f →
    dWhl WT_asks_for_0 W_asks_for_0 f (SA W C L a b (some (.sh (.lst (I (V.map fun t => W.getD t 0))))) (some (.sh (.int (L.length - Fu W V v)))) (some (.sh (.int v)))) =
      .ok (.nx, SA W C L a b (some (.sh (.lst (I (V.map fun t => W.getD t 0))))) (some (.sh (.int (L.length - Fu W V m)))) (some (.sh (.int m))))
  | 0, v, 0, _, hf => by omega
  | k + 1, v, 0, _, hf => by omega
  | 0, v, f + 1, hv, _ => by
    obtain rfl : v = m := by omega
    refine whl_f (s1 := SA W C L a b (some (.sh (.lst (I (V.map fun t => W.getD t 0))))) (some (.sh (.int (L.length - Fu W V v)))) (some (.sh (.int v)))) ?_
    have : ¬ ((0 : Int) < L.length - Fu W V v) := by omega
    generalize (L.length : Int) - Fu W V v = x at this ⊢
    simp [WT_asks_for_0, SA, this]
  | k + 1, v, f + 1, hv, hf => by
    have hlt := (level_lt (v := v) h1 h2).mpr (by omega)
    have hd : (0 : Int) < L.length - Fu W V v := by omega
    let S0 : PSt := SA W C L a b (some (.sh (.lst (I (V.map fun t => W.getD t 0))))) (some (.sh (.int (L.length - Fu W V v)))) (some (.sh (.int (v + 1))))
    have lc := lc_filter (vs := [9]) (g := gNm 9) (t := T_asks_for_0) (e := E_asks_for_1) (fun p => match p with | .int o => decide (o < v + 1) | _ => false) (fun p => match p with | .int o => .int (v + 1 - o) | _ => .non)
      S0 (I (V.map fun t => W.getD t 0)) [] (by rw [List.length_nil, I_len, List.length_map]; omega) (fun p hp => by
        obtain ⟨o, ho, rfl⟩ := List.mem_map.mp hp
        refine ⟨S0.set 9 (some (.sh (.int o))), S0.set 9 (some (.sh (.int o))), rfl, ?_, fun _ => ⟨S0.set 9 (some (.sh (.int o))), ?_, rfl⟩, fun _ => rfl⟩
        · generalize hx : (L.length : Int) - Fu W V v = x
          simp only [S0, hx]
          generalize I (V.map fun t => W.getD t 0) = SM
          simp [T_asks_for_0, SA]
        · generalize hx : (L.length : Int) - Fu W V v = x
          simp only [S0, hx]
          generalize I (V.map fun t => W.getD t 0) = SM
          simp [E_asks_for_1, SA])
    simp only [S0] at lc
    have hs : (List.filter (fun p => match p with | PV.int o => decide (o < v + 1) | _ => false) (I (V.map fun t => W.getD t 0))).map (fun p => match p with | PV.int o => PV.int (v + 1 - o) | _ => PV.non) = I (((V.map fun t => W.getD t 0).filter fun o => decide (o < v + 1)).map fun o => v + 1 - o) := by
      unfold I
      rw [List.filter_map, List.map_map, List.map_map]
      rfl
    rw [hs, List.nil_append] at lc
    have hsum := sumL_I (((V.map fun t => W.getD t 0).filter fun o => decide (o < v + 1)).map fun o => v + 1 - o)
    rw [Fu_filter] at hsum
    have ih := whl_asks (C := C) (a := a) (b := b) hV h1 h2 k (v + 1) f (by omega) (by omega)
    rw [← ih]
    refine whl_t (s1 := SA W C L a b (some (.sh (.lst (I (V.map fun t => W.getD t 0))))) (some (.sh (.int (L.length - Fu W V v)))) (some (.sh (.int v)))) (by generalize (L.length : Int) - Fu W V v = x at hd ⊢; simp [WT_asks_for_0, SA, hd]) ?_
    unfold W_asks_for_0
    refine seq_nx (s' := SA W C L a b (some (.sh (.lst (I (V.map fun t => W.getD t 0))))) (some (.sh (.int (L.length - Fu W V v)))) (some (.sh (.int (v + 1))))) (by
      generalize (L.length : Int) - Fu W V v = x
      generalize I (V.map fun t => W.getD t 0) = SM
      simp [SA]) ?_
    generalize T_asks_for_0 = T at lc ⊢
    generalize E_asks_for_1 = E at lc ⊢
    generalize hSM : I (V.map fun t => W.getD t 0) = SM at lc ⊢
    generalize I (((V.map fun t => W.getD t 0).filter fun o => decide (o < v + 1)).map fun o => v + 1 - o) = ds at lc hsum
    generalize (L.length : Int) - Fu W V v = x at lc ⊢
    simp only [SA] at lc ⊢
    simp [wipeP, lc, backP, shP, hsum, I_len, zs_len]
end LW
/-! P7: asks_for, needs, the law's own room. -/
namespace LW
open PySem PySem.Spec PyProof.Rows L2 VL HD
/-- a lot of some asks -/
structure Lot (C : List (List Nat)) (L : List Nat) : Prop where
  asc : L.Pairwise (· < ·)
  lt : ∀ a ∈ L, a < C.length
theorem Lot.len {C : List (List Nat)} {L : List Nat} (h : Lot C L) : L.length ≤ C.length := by
  have := sub_len (List.range C.length) L (h.asc.imp fun h => Nat.ne_of_lt h) fun t ht => List.mem_range.mpr (h.lt t ht)
  simpa using this
theorem tapes_lt {W : List Int} {C : List (List Nat)} {L : List Nat} (h : Inp W C) (hL : ∀ a ∈ L, a < C.length) : ∀ t ∈ tapesOf C L, t < W.length := fun t ht => by
  rcases tapes_mem.mp ht with z | ⟨a, ha, hc⟩
  · cases z
  · exact h.lt _ (getC (hL a ha)) t hc
theorem tapes_len {W : List Int} {C : List (List Nat)} {L : List Nat} (h : Inp W C) (hL : ∀ a ∈ L, a < C.length) : (tapesOf C L).length ≤ W.length := by
  have := sub_len (List.range W.length) (tapesOf C L) (tapes_nd List.nodup_nil) fun t ht => List.mem_range.mpr (tapes_lt h hL t ht)
  simpa using this
theorem asks_loop {W : List Int} {C : List (List Nat)} {L : List Nat} (h : Inp W C) (hL : ∀ a ∈ L, a < C.length) : ∃ o, dForL (gNm 4) B_asks_for_0 (I (zs L)) (SA W C L (some (.ow (.dct [] []))) none none none none) = .ok (.nx, SA W C L (some (.ow (.dct (kN (tapesOf C L)) (tr (tapesOf C L))))) o none none none) := by
  obtain ⟨s', e1, o, e2⟩ := forL_inv (g := gNm 4) (body := B_asks_for_0) (I (zs L)) (fun j s => ∃ o, s = SA W C L (some (.ow (.dct (kN (tapesOf C (L.take j))) (tr (tapesOf C (L.take j)))))) o none none none) (SA W C L (some (.ow (.dct [] []))) none none none none) ⟨none, rfl⟩ fun j hj s ⟨o, es⟩ => by
    subst es
    have hj' : j < L.length := by rw [I_len, zs_len] at hj; exact hj
    have ha : L[j] < C.length := hL _ (List.getElem_mem hj')
    have ep : (I (zs L))[j] = .int (L[j] : Nat) := by simp [I, zs]
    rw [ep]
    have hc := h.clen (getC ha)
    have hn := h.n2
    have hV := tapes_len h (L := L.take j) fun a ha => hL a (List.mem_of_mem_take ha)
    have eV : tapesOf C (L.take (j + 1)) = insK (tapesOf C (L.take j)) (insK [] (C.getD L[j] [])) := by
      unfold tapesOf
      rw [List.take_succ_eq_append_getElem hj', List.foldl_append]
      rfl
    rw [eV]
    generalize tapesOf C (L.take j) = V at hV ⊢
    have hat := atC ha
    generalize hcc : C.getD L[j] [] = c at hc hat ⊢
    have hl := insK_len (c := c) (U := [])
    have dc := dc_N (i := 8) (s0 := SA W C L (some (.ow (.dct (kN V) (tr V)))) (some (.sh (.int (L[j] : Nat)))) none none none) rfl c [] (by simp; omega)
    have mg := mergeP_N (insK [] c) V
    have hf : fitsL ((kN V).length + (kN (insK [] c)).length) = true := Nat.ble_eq_true_of_le (by rw [kN_len, kN_len]; simp at hl; omega)
    refine ⟨_, _, rfl, ?_, some (.sh (.int (L[j] : Nat))), rfl⟩
    unfold B_asks_for_0
    have k0 : kN [] = [] := rfl
    have t0 : tr [] = [] := rfl
    rw [k0, t0] at dc
    have hwc : walkV (tN c) = some (I (zs c)) := rfl
    generalize I (zs c) = ws at dc hwc
    generalize kN (insK [] c) = kc at dc mg hf
    generalize tr (insK [] c) = tc at dc mg
    generalize kN V = kv at dc mg hf ⊢
    generalize tr V = tv at dc mg ⊢
    generalize kN (insK V (insK [] c)) = k2 at mg ⊢
    generalize tr (insK V (insK [] c)) = t2 at mg ⊢
    simp only [SA] at dc ⊢
    have hg : ∀ x : PSt, x = [some (LV.sh (tI W)), some (LV.sh (PV.tup (tC C))), some (LV.sh (tN L)), some (LV.ow (PV.dct kv tv)), some (LV.sh (PV.int (L[j] : Nat))), none, none, none, none, none] →
        dExpr (dUpd 3 (dDc [8] (dWalk (dGet (dSlot 1) (dVar 4))) (gNm 8) dYes (dVar 8) (dC (.bl true)))) x = .ok (.nx, [some (LV.sh (tI W)), some (LV.sh (PV.tup (tC C))), some (LV.sh (tN L)), some (LV.ow (PV.dct k2 t2)), some (LV.sh (PV.int (L[j] : Nat))), none, none, none, none, none]) := by
      intro x hx
      subst hx
      generalize dVar 8 = D8 at dc ⊢
      simp [owD, hat, hwc, wipeP, dc, backP, shP, hf, mg]
    exact hg _ rfl
  rw [I_len, zs_len, List.take_length] at e2
  exact ⟨o, by rw [e1, e2]⟩
theorem asks_ok {W : List Int} {C : List (List Nat)} {L : List Nat} {m : Int} (h : Inp W C) (hL : Lot C L) (hne : L ≠ []) (h1 : (L.length : Int) ≤ Fu W (tapesOf C L) m) (h2 : Fu W (tapesOf C L) (m - 1) < L.length) (hm : m ≤ 2000000) :
    F_asks_for [] [tI W, .tup (tC C), tN L] = .ok (.sh (.int m), []) := by
  obtain ⟨o, e1⟩ := asks_loop h hL.lt
  have hVl := tapes_len h hL.lt
  have hn := h.n2
  have hVt := tapes_lt h hL.lt
  have hpos : 1 ≤ L.length := by
    cases L with
    | nil => exact absurd rfl hne
    | cons _ _ => simp
  have hV0 : tapesOf C L ≠ [] := fun z => by
    rw [z] at h1
    have : Fu W [] m = 0 := rfl
    omega
  generalize hVV : tapesOf C L = V at *
  -- the wear of the tapes
  let SM : List Int := V.map fun t => W.getD t 0
  have hSM : SM ≠ [] := by simpa [SM] using hV0
  have hSl : SM.length ≤ 12 := by simp only [SM, List.length_map]; omega
  have hSb : ∀ a ∈ SM, 0 ≤ a ∧ a ≤ 1000000 := fun a ha => by
    obtain ⟨t, ht, rfl⟩ := List.mem_map.mp ha
    have hlt := hVt t ht
    rw [List.getD_eq_getElem?_getD, List.getElem?_eq_getElem hlt]
    exact h.hw _ (List.getElem_mem _)
  have hmn := minV_I SM hSM
  have hnn := ne_nilI SM (by omega) fun a ha => by have := hSb a ha; omega
  have hmem : minL SM ∈ SM := by
    cases e : SM with
    | nil => exact absurd e hSM
    | cons x xs => exact minI_mem xs x
  have hle : ∀ z ∈ SM, minL SM ≤ z := by
    cases e : SM with
    | nil => exact absurd e hSM
    | cons x xs => exact fun z hz => minI_le xs x z hz
  have hF0 : Fu W V (minL SM) = 0 := Fu_zero fun t ht => hle _ (List.mem_map.mpr ⟨t, ht, rfl⟩)
  have hlt : minL SM < m := (level_lt h1 h2).mp (by rw [hF0]; omega)
  have hemp : (!SM.isEmpty) = true := by
    cases e : SM with
    | nil => exact absurd e hSM
    | cons _ _ => rfl
  rw [hemp] at hnn
  have hb := hSb _ hmem
  generalize hmm : minL SM = m0 at *
  have hw := whl_asks (W := W) (C := C) (L := L) (V := V) (m := m) (a := some (.sh (.dct (kN V) (tr V)))) (b := o) (by omega) h1 h2 (m - m0).toNat m0 4611686018427387904 (by omega) (by omega)
  rw [hF0] at hw
  have lc := lc_map (fun p => match p with | .int t => .int (W.getD t.toNat 0) | _ => .non) (I (zs V)) 8 (SA W C L (some (.sh (.dct (kN V) (tr V)))) o none none none) E_asks_for_0 (by rw [I_len, zs_len]; omega) rfl (fun p hp => by
    obtain ⟨i, hi, rfl⟩ := List.mem_map.mp hp
    obtain ⟨t, ht, rfl⟩ := zs_mem hi
    have ea := atW (hVt t ht)
    generalize W.getD t 0 = wt at ea
    have ew : W.getD ((t : Nat) : Int).toNat 0 = W.getD t 0 := by rw [Int.toNat_natCast]
    dsimp only
    rw [ew]
    have ea := atW (hVt t ht)
    generalize kN V = kv
    generalize tr V = tv
    generalize W.getD t 0 = wt at ea ⊢
    simp [E_asks_for_0, SA, ea])
  have em : (I (zs V)).map (fun p => match p with | PV.int t => PV.int (W.getD t.toNat 0) | _ => PV.non) = I SM := by
    simp only [I, zs, SM, List.map_map]
    exact List.map_congr_left fun t _ => by simp
  rw [em] at lc
  have hkp : (kN V).map keyP = I (zs V) := by
    simp only [kN, I, zs, List.map_map]
    exact List.map_congr_left fun t _ => rfl
  have hwk : walkV (.dct (kN V) (tr V)) = some (I (zs V)) := by rw [← hkp]; rfl
  refine fn_rt (s' := SA W C L (some (.sh (.dct (kN V) (tr V)))) o (some (.sh (.lst (I SM)))) (some (.sh (.int (L.length - Fu W V m)))) (some (.sh (.int m)))) ?_
  refine seq_nx (s' := SA W C L (some (.ow (.dct [] []))) none none none none) (by simp [S_asks_for_0, SA, startP]) ?_
  refine seq_nx (s' := SA W C L (some (.ow (.dct (kN V) (tr V)))) o none none none) ?_ ?_
  · unfold S_asks_for_1
    generalize B_asks_for_0 = Bi at e1 ⊢
    generalize kN V = kv at e1 ⊢
    generalize tr V = tv at e1 ⊢
    simp only [SA] at e1 ⊢
    simpa using e1
  refine seq_nx (s' := SA W C L (some (.sh (.dct (kN V) (tr V)))) o (some (.sh (.lst (I SM)))) (some (.sh (.int L.length))) none) ?_ ?_
  · unfold S_asks_for_2
    generalize E_asks_for_0 = Ei at lc ⊢
    generalize I SM = sm at lc ⊢
    generalize I (zs V) = zv at lc hwk
    generalize kN V = kv at lc hwk ⊢
    generalize tr V = tv at lc hwk ⊢
    simp only [SA] at lc ⊢
    simp [hwk, wipeP, lc, backP, shP, I_len, zs_len]
  refine seq_nx (s' := SA W C L (some (.sh (.dct (kN V) (tr V)))) o (some (.sh (.lst (I SM)))) (some (.sh (.int L.length))) (some (.sh (.int m0)))) ?_ ?_
  · unfold S_asks_for_3
    generalize I SM = sm at hnn hmn ⊢
    generalize kN V = kv
    generalize tr V = tv
    simp [SA, fitN_of, hnn, hmn]
  refine seq_nx (s' := _) (show S_asks_for_4 _ = _ from by
    unfold S_asks_for_4
    rw [Int.sub_zero] at hw
    exact hw) ?_
  generalize (L.length : Int) - Fu W V m = x
  generalize kN V = kv
  generalize tr V = tv
  show S_asks_for_5 _ = _
  simp only [SM]
  generalize I (V.map fun t => W.getD t 0) = sm
  simp [S_asks_for_5, SA]
theorem needs_ok {W : List Int} {C : List (List Nat)} {L : List Nat} {m : Int} (h : Inp W C) (hL : Lot C L) (hne : L ≠ []) (h1 : (L.length : Int) ≤ Fu W (tapesOf C L) m) (h2 : Fu W (tapesOf C L) (m - 1) < L.length) (hm : m ≤ 2000000) :
    F_needs [] [tI W, .tup (tC C), tN L] = .ok (.sh (.int m), []) := by
  have e1 := wear_ok h
  have e2 := lot_ok h hL.asc hL.lt
  have e3 := asks_ok h hL hne h1 h2 hm
  refine fn_rt (s' := [some (.sh (tI W)), some (.sh (.tup (tC C))), some (.sh (tN L))]) ?_
  refine seq_nx (s' := [some (.sh (tI W)), some (.sh (.tup (tC C))), some (.sh (tN L))]) ?_ (seq_nx (s' := [some (.sh (tI W)), some (.sh (.tup (tC C))), some (.sh (tN L))]) ?_ ?_)
  · unfold S_needs_0
    generalize F_check_wear = F at e1 ⊢
    simp [startP, e1]
  · unfold S_needs_1
    generalize F_check_lot = F at e2 ⊢
    simp [e2]
  · unfold S_needs_2
    generalize F_asks_for = F at e3 ⊢
    simp [e3]
end LW
/-! P8: the law's own room. -/
namespace LW
open PySem PySem.Spec PyProof.Rows L2 VL HD
def cats (C : List (List Nat)) (L : List Nat) : List Nat := L.flatMap fun a => C.getD a []
def ownU (C : List (List Nat)) (L : List Nat) : List Nat := (ascU (zs (cats C L))).map Int.toNat
theorem zs_ownU (C : List (List Nat)) (L : List Nat) : zs (ownU C L) = ascU (zs (cats C L)) := by
  unfold ownU zs
  rw [List.map_map]
  have : ∀ x ∈ ascU (List.map (fun t : Nat => (t : Int)) (cats C L)), ((fun t : Nat => (t : Int)) ∘ Int.toNat) x = x := fun x hx => by
    have hx := (mem_ascU _).mp hx
    obtain ⟨t, ht, rfl⟩ := List.mem_map.mp hx
    simp
  exact (List.map_congr_left this).trans (List.map_id' _)
theorem ownU_mem {C : List (List Nat)} {L : List Nat} {x : Nat} : x ∈ ownU C L ↔ ∃ a ∈ L, x ∈ C.getD a [] := by
  have h : (x : Int) ∈ zs (ownU C L) ↔ (x : Int) ∈ zs (cats C L) := by rw [zs_ownU, mem_ascU]
  have k : ∀ l : List Nat, (x : Int) ∈ zs l ↔ x ∈ l := fun l => by
    constructor
    · intro h
      obtain ⟨t, ht, e⟩ := zs_mem h
      have : x = t := by omega
      rw [this]; exact ht
    · intro h; exact List.mem_map.mpr ⟨x, h, rfl⟩
  rw [k, k] at h
  rw [h]
  unfold cats
  simp only [List.mem_flatMap]
theorem ownU_nd (C : List (List Nat)) (L : List Nat) : (ownU C L).Nodup := by
  have h := ascU_asc (zs (cats C L))
  rw [← zs_ownU] at h
  have h2 := List.pairwise_map.mp (show ((ownU C L).map fun t : Nat => (t : Int)).Pairwise (· < ·) from h)
  exact h2.imp fun {a b} h => by omega
abbrev SR (W : List Int) (C : List (List Nat)) (L : List Nat) (a b c : Option LV) : PSt := [some (.sh (tI W)), some (.sh (.tup (tC C))), some (.sh (tN L)), a, b, c, none]
theorem room_loop {W : List Int} {C : List (List Nat)} {L : List Nat} (h : Inp W C) (h3 : ∀ c ∈ C, c.length ≤ 3) (hL : ∀ a ∈ L, a < C.length) (hl : L.length ≤ 20) : ∃ o, dForL (gNm 4) B__law_room_0 (I (zs L)) (SR W C L (some (.ow (.lst []))) none none) = .ok (.nx, SR W C L (some (.ow (.lst (I (zs (cats C L)))))) o none) ∧ (cats C L).length ≤ 60 := by
  have hlen : ∀ M : List Nat, (∀ a ∈ M, a < C.length) → (cats C M).length ≤ 3 * M.length := by
    intro M
    induction M with
    | nil => intro _; simp [cats]
    | cons a M ih =>
      intro hM
      have := ih fun b hb => hM b (List.mem_cons_of_mem _ hb)
      have := h3 _ (getC (hM a List.mem_cons_self))
      simp only [cats, List.flatMap_cons, List.length_append, List.length_cons] at *
      omega
  obtain ⟨s', e1, o, e2⟩ := forL_inv (g := gNm 4) (body := B__law_room_0) (I (zs L)) (fun j s => ∃ o, s = SR W C L (some (.ow (.lst (I (zs (cats C (L.take j))))))) o none) (SR W C L (some (.ow (.lst []))) none none) ⟨none, rfl⟩ fun j hj s ⟨o, es⟩ => by
    subst es
    have hj' : j < L.length := by rw [I_len, zs_len] at hj; exact hj
    have ha : L[j] < C.length := hL _ (List.getElem_mem hj')
    have ep : (I (zs L))[j] = .int (L[j] : Nat) := by simp [I, zs]
    rw [ep]
    have hat := atC ha
    have hk := hlen (L.take j) fun a ha => hL a (List.mem_of_mem_take ha)
    have hk3 := h3 _ (getC ha)
    rw [List.length_take] at hk
    have eV : I (zs (cats C (L.take (j + 1)))) = I (zs (cats C (L.take j))) ++ I (zs (C.getD L[j] [])) := by
      unfold cats
      rw [List.take_succ_eq_append_getElem hj', List.flatMap_append]
      simp [I, zs]
    rw [eV]
    have hf : fitN ((I (zs (cats C (L.take j)))).length + (I (zs (C.getD L[j] []))).length) = true := fitN_of (by simp only [I_len, zs_len]; omega)
    refine ⟨_, _, rfl, ?_, some (.sh (.int (L[j] : Nat))), rfl⟩
    have hlv : listV (tN (C.getD L[j] [])) = .ok (I (zs (C.getD L[j] []))) := rfl
    generalize tN (C.getD L[j] []) = tc at hat hlv
    generalize I (zs (C.getD L[j] [])) = w2 at hlv hf ⊢
    generalize I (zs (cats C (L.take j))) = w1 at hf ⊢
    unfold B__law_room_0
    simp [SR, owL, hat, hlv, hf]
  rw [I_len, zs_len, List.take_length] at e2
  exact ⟨o, by rw [e1, e2], by have := hlen L hL; omega⟩
theorem room_test {W : List Int} {C : List (List Nat)} {L : List Nat} (h : Inp W C) (hL : ∀ a ∈ L, a < C.length) (hc : (cats C L).length ≤ 60) (o : Option LV) (v : Int) (z : LV) (hz : z = .ow (.lst (I (zs (cats C L)))) ∨ z = .sh (.lst (I (zs (cats C L))))) :
    WT__law_room_0 (SR W C L (some z) o (some (.sh (.int v)))) = .ok (decide (Fu W (ownU C L) v < L.length), SR W C L (some (.sh (.lst (I (zs (cats C L)))))) o (some (.sh (.int v)))) := by
  have hU : ∀ t ∈ ownU C L, t < W.length := fun t ht => by
    obtain ⟨a, ha, hm⟩ := ownU_mem.mp ht
    exact h.lt _ (getC (hL a ha)) t hm
  have hUl : (ownU C L).length ≤ W.length := by
    have := sub_len (List.range W.length) (ownU C L) (ownU_nd C L) fun t ht => List.mem_range.mpr (hU t ht)
    simpa using this
  have hn := h.n2
  have hs : sortSetV (.lst (I (zs (cats C L)))) = .ok (I (zs (ownU C L))) := by
    unfold sortSetV I
    dsimp only
    rw [intsV_I]
    simp only [optR_some, Res.bind_ok]
    rw [if_pos (Nat.ble_eq_true_of_le (by rw [zs_len]; omega)), zs_ownU]
    try rfl
  have lc := lc_map (fun p => match p with | .int t => .int (pos (v - W.getD t.toNat 0)) | _ => .non) (I (zs (ownU C L))) 6 (SR W C L (some (.sh (.lst (I (zs (cats C L)))))) o (some (.sh (.int v)))) E__law_room_0 (by rw [I_len, zs_len]; omega) rfl (fun p hp => by
    obtain ⟨i, hi, rfl⟩ := List.mem_map.mp hp
    obtain ⟨t, ht, rfl⟩ := zs_mem hi
    have ew : W.getD ((t : Nat) : Int).toNat 0 = W.getD t 0 := by rw [Int.toNat_natCast]
    dsimp only
    rw [ew]
    have ea := atW (hU t ht)
    generalize I (zs (cats C L)) = kv
    generalize W.getD t 0 = wt at ea ⊢
    have em : max2 0 (v - wt) = pos (v - wt) := by unfold max2 pos; split <;> split <;> omega
    simp [E__law_room_0, SR, ea, em])
  have em : (I (zs (ownU C L))).map (fun p => match p with | PV.int t => PV.int (pos (v - W.getD t.toNat 0)) | _ => PV.non) = I ((ownU C L).map fun t => pos (v - W.getD t 0)) := by
    simp only [I, zs, List.map_map]
    exact List.map_congr_left fun t _ => by simp
  rw [em] at lc
  have hsum := sumL_I ((ownU C L).map fun t => pos (v - W.getD t 0))
  rw [show ((ownU C L).map fun t => pos (v - W.getD t 0)).sum = Fu W (ownU C L) v from rfl] at hsum
  generalize I ((ownU C L).map fun t => pos (v - W.getD t 0)) = ds at lc hsum
  generalize Fu W (ownU C L) v = fu at hsum ⊢
  generalize I (zs (ownU C L)) = us at lc hs
  unfold WT__law_room_0
  generalize E__law_room_0 = Ei at lc ⊢
  generalize I (zs (cats C L)) = kv at lc hs hz ⊢
  simp only [SR] at lc ⊢
  rcases hz with rfl | rfl
  · simp [hs, wipeP, lc, backP, shP, hsum, I_len, zs_len]
  · simp [hs, wipeP, lc, backP, shP, hsum, I_len, zs_len]
theorem room_whl {W : List Int} {C : List (List Nat)} {L : List Nat} {m : Int} (h : Inp W C) (hL : ∀ a ∈ L, a < C.length) (hc : (cats C L).length ≤ 60) (o : Option LV) (h1 : (L.length : Int) ≤ Fu W (ownU C L) m) (h2 : Fu W (ownU C L) (m - 1) < L.length) : ∀ (k : Nat) (v : Int) (f : Nat) (z : LV), (z = .ow (.lst (I (zs (cats C L)))) ∨ z = .sh (.lst (I (zs (cats C L))))) → v + k = m → k + 1 ≤ f →
    dWhl WT__law_room_0 W__law_room_0 f (SR W C L (some z) o (some (.sh (.int v)))) = .ok (.nx, SR W C L (some (.sh (.lst (I (zs (cats C L)))))) o (some (.sh (.int m))))
  | 0, v, 0, _, _, _, hf => by omega
  | k + 1, v, 0, _, _, _, hf => by omega
  | 0, v, f + 1, z, hz, hv, _ => by
    obtain rfl : v = m := by omega
    have ht := room_test h hL hc o v z hz
    rw [decide_eq_false (by omega)] at ht
    exact whl_f ht
  | k + 1, v, f + 1, z, hz, hv, hf => by
    have ht := room_test h hL hc o v z hz
    rw [decide_eq_true ((level_lt (v := v) h1 h2).mpr (by omega))] at ht
    rw [whl_t ht (s2 := SR W C L (some (.sh (.lst (I (zs (cats C L)))))) o (some (.sh (.int (v + 1))))) (by
      generalize I (zs (cats C L)) = kv
      simp [W__law_room_0, SR])]
    exact room_whl h hL hc o h1 h2 k (v + 1) f _ (.inr rfl) (by omega) (by omega)
theorem room_ok {W : List Int} {C : List (List Nat)} {L : List Nat} {m : Int} (h : Inp W C) (h3 : ∀ c ∈ C, c.length ≤ 3) (hL : Lot C L) (hne : L ≠ []) (h1 : (L.length : Int) ≤ Fu W (tapesOf C L) m) (h2 : Fu W (tapesOf C L) (m - 1) < L.length) (hm : m ≤ 2000000) :
    F__law_room [] [tI W, .tup (tC C), tN L] = .ok (.sh (.int m), []) := by
  have hVt := tapes_lt h hL.lt
  have hll := hL.len
  have hcl := h.cl
  have eF : ∀ v, Fu W (ownU C L) v = Fu W (tapesOf C L) v := fun v => (Fu_eq (tapes_nd List.nodup_nil) (ownU_nd C L) hVt (fun t => by
    rw [ownU_mem]
    refine (tapes_mem (L := L) (V := [])).trans ?_
    simp) v).symm
  have hpos : 1 ≤ L.length := by
    cases L with
    | nil => exact absurd rfl hne
    | cons _ _ => simp
  rw [← eF] at h1 h2
  obtain ⟨o, e1, hc⟩ := room_loop h h3 hL.lt (by omega)
  have hm0 : 0 < m := (level_lt (v := 0) h1 h2).mp (by
    rw [eF, Fu_zero fun t ht => by
      have hlt := hVt t ht
      rw [List.getD_eq_getElem?_getD, List.getElem?_eq_getElem hlt]
      exact (h.hw _ (List.getElem_mem _)).1]
    omega)
  have hw := room_whl h hL.lt hc o h1 h2 m.toNat 0 4611686018427387904 _ (.inl rfl) (by omega) (by omega)
  refine fn_rt (s' := SR W C L (some (.sh (.lst (I (zs (cats C L)))))) o (some (.sh (.int m)))) ?_
  refine seq_nx (s' := SR W C L (some (.ow (.lst []))) none none) (by simp [S__law_room_0, SR, startP, fitN_of]) ?_
  refine seq_nx (s' := SR W C L (some (.ow (.lst (I (zs (cats C L)))))) o none) ?_ ?_
  · unfold S__law_room_1
    generalize B__law_room_0 = Bi at e1 ⊢
    generalize I (zs (cats C L)) = kv at e1 ⊢
    simp only [SR] at e1 ⊢
    simpa using e1
  refine seq_nx (s' := SR W C L (some (.ow (.lst (I (zs (cats C L)))))) o (some (.sh (.int 0)))) ?_ ?_
  · generalize I (zs (cats C L)) = kv
    simp [S__law_room_2, SR]
  refine seq_nx (s' := _) (show S__law_room_3 _ = _ from hw) ?_
  show S__law_room_4 _ = _
  generalize I (zs (cats C L)) = kv
  simp [S__law_room_4, SR]
end LW
/-! P9: what chains lead to. -/
namespace LW
open PySem PySem.Spec PyProof.Rows L2 VL HD
abbrev KE := Nat × Option (Nat × Nat)
def ks (K : List KE) : List Nat := K.map (·.1)
def vE (e : KE) : PV := match e.2 with
  | none => .non
  | some (a, h) => .tup [.int (a : Nat), .int (h : Nat)]
def vK (K : List KE) : List PV := K.map vE
theorem ks_len (K : List KE) : (ks K).length = K.length := by simp [ks]
theorem vK_len (K : List KE) : (vK K).length = K.length := by simp [vK]
/-- tapes come to, each from one ahead of it -/
structure Gd (n : Nat) (C : List (List Nat)) (X : List Nat) (r : Nat) (D : List Nat) (K : List KE) (Q : List Nat) : Prop where
  keys : ks K = D ++ Q
  nd : (ks K).Nodup
  lt : ∀ t ∈ ks K, t < n
  hd : K[0]? = some (r, none)
  ro : ∀ i o : Nat, K[i]? = some (o, none) → i = 0
  ch : ∀ i o a h : Nat, K[i]? = some (o, some (a, h)) → (∃ j, j < i ∧ (ks K)[j]? = some h) ∧ X[a]? = some h ∧ ∃ c : List Nat, C[a]? = some c ∧ o ∈ c
theorem Gd.len {n : Nat} {C : List (List Nat)} {X : List Nat} {r : Nat} {D Q : List Nat} {K : List KE} (h : Gd n C X r D K Q) : K.length ≤ n := by
  have := sub_len (List.range n) (ks K) h.nd fun t ht => List.mem_range.mpr (h.lt t ht)
  simpa [ks_len] using this
def addE (a h : Nat) (p : List KE × List Nat) (o : Nat) : List KE × List Nat := if o ∈ ks p.1 then p else (p.1 ++ [(o, some (a, h))], p.2 ++ [o])
theorem addE_ks {a h o : Nat} {K : List KE} {Q : List Nat} {x : Nat} : x ∈ ks (addE a h (K, Q) o).1 ↔ x ∈ ks K ∨ x = o := by
  unfold addE
  split
  · rename_i hm
    exact ⟨.inl, fun k => k.elim id fun e => by rw [e]; exact hm⟩
  · simp [ks]
theorem Gd.add {n : Nat} {C : List (List Nat)} {X : List Nat} {r : Nat} {D Q : List Nat} {K : List KE} (g : Gd n C X r D K Q) {a h o : Nat} {c : List Nat} (hX : X[a]? = some h) (hh : h ∈ ks K) (hc : C[a]? = some c) (ho : o ∈ c) (hn : o < n) :
    Gd n C X r D (addE a h (K, Q) o).1 (addE a h (K, Q) o).2 := by
  unfold addE
  split
  · exact g
  · rename_i hm
    have hm : o ∉ ks K := hm
    show Gd n C X r D (K ++ [(o, some (a, h))]) (Q ++ [o])
    have hk0 : 0 < K.length := by
      have := g.hd
      cases K with
      | nil => simp at this
      | cons _ _ => simp
    have ek : ks (K ++ [(o, some (a, h))]) = ks K ++ [o] := by simp [ks]
    refine ⟨by rw [ek, g.keys, List.append_assoc], by rw [ek, List.nodup_append]; exact ⟨g.nd, by simp, fun x hx y hy e => hm (by simp at hy; rw [← hy, ← e]; exact hx)⟩, fun t ht => ?_, ?_, fun i o2 e => ?_, fun i o2 a2 h2 e => ?_⟩
    · rw [ek, List.mem_append] at ht
      rcases ht with ht | ht
      · exact g.lt t ht
      · simp at ht; rw [ht]; exact hn
    · rw [List.getElem?_append_left hk0]; exact g.hd
    · by_cases hi : i < K.length
      · rw [List.getElem?_append_left hi] at e
        exact g.ro i o2 e
      · rw [List.getElem?_append_right (by omega)] at e
        have : i - K.length = 0 := by
          have := (List.getElem?_eq_some_iff.mp e).1
          simp at this; omega
        rw [this] at e
        simp at e
    · by_cases hi : i < K.length
      · rw [List.getElem?_append_left hi] at e
        obtain ⟨⟨j, hj, e1⟩, e2, e3⟩ := g.ch i o2 a2 h2 e
        exact ⟨⟨j, hj, by rw [ek, List.getElem?_append_left (by rw [ks_len]; omega)]; exact e1⟩, e2, e3⟩
      · rw [List.getElem?_append_right (by omega)] at e
        have hz : i - K.length = 0 := by
          have := (List.getElem?_eq_some_iff.mp e).1
          simp at this; omega
        rw [hz] at e
        simp at e
        obtain ⟨rfl, rfl, rfl⟩ := e
        obtain ⟨j, hj, ej⟩ := List.getElem_of_mem hh
        refine ⟨⟨j, by rw [ks_len] at hj; omega, ?_⟩, hX, c, hc, ho⟩
        rw [ek, List.getElem?_append_left hj, List.getElem?_eq_getElem hj, ej]
theorem kN_has (K : List KE) (o : Nat) : kHas (.inl (o : Int)) (kN (ks K)) = decide (o ∈ ks K) := kHas_N o (ks K)
abbrev SX (C : List (List Nat)) (X : List Nat) (r : Nat) (K : List KE) (Q : List Nat) (a b c d : Option LV) : PSt := [some (.sh (.tup (tC C))), some (.sh (tN X)), some (.sh (.int (r : Nat))), some (.ow (.dct (kN (ks K)) (vK K))), some (.ow (.lst (I (zs Q)))), a, b, c, d]
theorem reach_in {n : Nat} {C : List (List Nat)} {X : List Nat} {r : Nat} {D : List Nat} {a h : Nat} {c0 : List Nat} (hn : n ≤ 12) (hX : X[a]? = some h) (hh : h ∈ D) (hc : C[a]? = some c0) (e7 : Option LV) : ∀ (c : List Nat) (K : List KE) (Q : List Nat) (e8 : Option LV), (∀ o ∈ c, o ∈ c0 ∧ o < n) → Gd n C X r D K Q →
    ∃ K' Q' e8', dForL (gNm 8) B_reached_0 (I (zs c)) (SX C X r K Q (some (.sh (.int (h : Nat)))) (some (.sh (.int (a : Nat)))) e7 e8) = .ok (.nx, SX C X r K' Q' (some (.sh (.int (h : Nat)))) (some (.sh (.int (a : Nat)))) e7 e8') ∧
      Gd n C X r D K' Q' ∧ (∀ x ∈ ks K, x ∈ ks K') ∧ ∀ o ∈ c, o ∈ ks K'
  | [], K, Q, e8, _, g => ⟨K, Q, e8, rfl, g, fun _ h => h, by simp⟩
  | o :: c, K, Q, e8, hco, g => by
    obtain ⟨ho, hon⟩ := hco o List.mem_cons_self
    have hhK : h ∈ ks K := by rw [g.keys]; exact List.mem_append_left _ hh
    have g' := g.add hX hhK hc ho hon
    obtain ⟨K', Q', e8', e1, g2, m2, c2⟩ := reach_in hn hX hh hc e7 c (addE a h (K, Q) o).1 (addE a h (K, Q) o).2 (some (.sh (.int (o : Nat)))) (fun x hx => hco x (List.mem_cons_of_mem _ hx)) g'
    have mono : ∀ x ∈ ks K, x ∈ ks (addE a h (K, Q) o).1 := fun x hx => addE_ks.mpr (.inl hx)
    refine ⟨K', Q', e8', ?_, g2, fun x hx => m2 x (mono x hx), fun x hx => ?_⟩
    · rw [← e1]
      show dForL (gNm 8) B_reached_0 (PV.int (o : Nat) :: I (zs c)) _ = _
      conv => lhs; unfold dForL
      have hb : B_reached_0 ((SX C X r K Q (some (.sh (.int (h : Nat)))) (some (.sh (.int (a : Nat)))) e7 e8).set 8 (some (.sh (.int (o : Nat))))) = .ok (.nx, SX C X r (addE a h (K, Q) o).1 (addE a h (K, Q) o).2 (some (.sh (.int (h : Nat)))) (some (.sh (.int (a : Nat)))) e7 (some (.sh (.int (o : Nat))))) := by
        have hK := g.len
        have hQ : Q.length ≤ K.length := by
          have := congrArg List.length g.keys
          rw [ks_len, List.length_append] at this
          omega
        have hk := kN_has K o
        unfold addE
        by_cases e : o ∈ ks K
        · rw [decide_eq_true e] at hk
          rw [if_pos e]
          simp only [SX]
          generalize kN (ks K) = kk at hk ⊢
          generalize vK K = vv
          generalize I (zs Q) = qq
          unfold B_reached_0
          simp [SX, hk]
        · rw [decide_eq_false e] at hk
          rw [if_neg e]
          have hp : putP (.inl ((o : Nat) : Int)) (PV.tup [.int (a : Nat), .int (h : Nat)]) (kN (ks K)) (vK K) = (kN (ks (K ++ [(o, some (a, h))])), vK (K ++ [(o, some (a, h))])) := by
            unfold putP
            rw [hk]
            simp [kN, ks, vK, vE]
          have hq : I (zs Q) ++ [PV.int (o : Nat)] = I (zs (Q ++ [o])) := by simp [I, zs]
          have hf : fitN ((kN (ks K)).length + 1) = true := fitN_of (by rw [kN_len, ks_len]; omega)
          have hf2 : fitN ((I (zs Q)).length + 1) = true := fitN_of (by rw [I_len, zs_len]; omega)
          simp only [SX]
          generalize kN (ks (K ++ [(o, some (a, h))])) = kk2 at hp ⊢
          generalize vK (K ++ [(o, some (a, h))]) = vv2 at hp ⊢
          generalize kN (ks K) = kk at hk hp hf ⊢
          generalize vK K = vv at hp ⊢
          generalize I (zs (Q ++ [o])) = qq2 at hq ⊢
          generalize I (zs Q) = qq at hq hf2 ⊢
          unfold B_reached_0
          simp [SX, hk, owA, owL, hp, hf, hf2, hq, fitN_of]
      simp only [e_gNm, Res.bind_ok, hb]
    · rcases List.mem_cons.mp hx with rfl | hx
      · exact m2 _ (addE_ks.mpr (.inr rfl))
      · exact c2 x hx
end LW
/-! P10: reached. -/
namespace LW
open PySem PySem.Spec PyProof.Rows L2 VL HD
theorem reach_out {n : Nat} {C : List (List Nat)} {X : List Nat} {r h : Nat} {D : List Nat} {K : List KE} {Q : List Nat} (hn : n ≤ 12) (hC : CB n C) (hl : X.length = C.length) (hX : ∀ t ∈ X, t < n) (hD : h ∈ D) (g : Gd n C X r D K Q) (e6 e7 e8 : Option LV) :
    ∃ K' Q' f6 f7 f8, dForL (gTp 2 (gCs (gNm 6) (gCs (gNm 7) gNl))) B_reached_1 (enumL 0 (I (zs X))) (SX C X r K Q (some (.sh (.int (h : Nat)))) e6 e7 e8) = .ok (.nx, SX C X r K' Q' (some (.sh (.int (h : Nat)))) f6 f7 f8) ∧
      Gd n C X r D K' Q' ∧ (∀ x ∈ ks K, x ∈ ks K') ∧ ∀ (a : Nat) (c : List Nat), X[a]? = some h → C[a]? = some c → ∀ o ∈ c, o ∈ ks K' := by
  obtain ⟨s', e1, K', Q', f6, f7, f8, es, g2, m2, c2⟩ := forL_inv (g := gTp 2 (gCs (gNm 6) (gCs (gNm 7) gNl))) (body := B_reached_1) (enumL 0 (I (zs X))) (fun j s => ∃ K' Q' f6 f7 f8, s = SX C X r K' Q' (some (.sh (.int (h : Nat)))) f6 f7 f8 ∧ Gd n C X r D K' Q' ∧ (∀ x ∈ ks K, x ∈ ks K') ∧ ∀ (a : Nat) (c : List Nat), a < j → X[a]? = some h → C[a]? = some c → ∀ o ∈ c, o ∈ ks K')
    (SX C X r K Q (some (.sh (.int (h : Nat)))) e6 e7 e8) ⟨K, Q, e6, e7, e8, rfl, g, fun _ h => h, fun a c ha => absurd ha (by omega)⟩ fun j hj s ⟨K1, Q1, f6, f7, f8, es, g1, m1, c1⟩ => by
      subst es
      have hj' : j < X.length := by rw [enumL_len, I_len, zs_len] at hj; exact hj
      have hjC : j < C.length := by omega
      have ep := enumL_at (I (zs X)) 0 j hj (by rw [I_len, zs_len]; exact hj')
      have ei : (I (zs X))[j]'(by rw [I_len, zs_len]; exact hj') = .int (X[j] : Nat) := by simp [I, zs]
      rw [ei, Nat.zero_add] at ep
      rw [ep]
      have eX : X[j]? = some X[j] := List.getElem?_eq_getElem hj'
      have eC : C[j]? = some C[j] := List.getElem?_eq_getElem hjC
      have eg : gTp 2 (gCs (gNm 6) (gCs (gNm 7) gNl)) (.tup [.int (j : Nat), .int (X[j] : Nat)]) (SX C X r K1 Q1 (some (.sh (.int (h : Nat)))) f6 f7 f8) = .ok (SX C X r K1 Q1 (some (.sh (.int (h : Nat)))) (some (.sh (.int (j : Nat)))) (some (.sh (.int (X[j] : Nat)))) f8) := rfl
      by_cases e : X[j] = h
      · obtain ⟨K2, Q2, f8', e2, g2, m2, c2⟩ := reach_in (e7 := some (.sh (.int (X[j] : Nat)))) hn (by rw [eX, e]) hD eC (C[j]) K1 Q1 f8 (fun o ho => ⟨ho, hC _ (List.getElem_mem hjC) o ho⟩) g1
        refine ⟨_, SX C X r K2 Q2 (some (.sh (.int (h : Nat)))) (some (.sh (.int (j : Nat)))) (some (.sh (.int (X[j] : Nat)))) f8', eg, ?_, K2, Q2, some (.sh (.int (j : Nat))), some (.sh (.int (X[j] : Nat))), f8', rfl, g2, fun x hx => m2 x (m1 x hx), fun a c ha hXa hCa o ho => ?_⟩
        · have hat := atC hjC
          have eD : C.getD j [] = C[j] := by rw [List.getD_eq_getElem?_getD, eC]; rfl
          rw [eD] at hat
          have hwk : walkV (tN C[j]) = some (I (zs C[j])) := rfl
          have hq := eq_int (X[j] : Nat) (h : Nat)
          rw [decide_eq_true (by omega)] at hq
          unfold B_reached_1
          generalize B_reached_0 = Bi at e2 ⊢
          simp only [SX] at e2 ⊢
          generalize I (zs C[j]) = cz at hwk e2
          generalize tN C[j] = tc at hwk hat
          generalize kN (ks K1) = k1 at e2 ⊢
          generalize vK K1 = v1 at e2 ⊢
          generalize I (zs Q1) = q1 at e2 ⊢
          generalize kN (ks K2) = k2 at e2 ⊢
          generalize vK K2 = v2 at e2 ⊢
          generalize I (zs Q2) = q2 at e2 ⊢
          simp [hq, hat, hwk, e2]
        · by_cases ea : a = j
          · subst ea
            rw [eC] at hCa
            cases hCa
            exact c2 o ho
          · exact m2 _ (c1 a c (by omega) hXa hCa o ho)
      · refine ⟨_, SX C X r K1 Q1 (some (.sh (.int (h : Nat)))) (some (.sh (.int (j : Nat)))) (some (.sh (.int (X[j] : Nat)))) f8, eg, ?_, K1, Q1, some (.sh (.int (j : Nat))), some (.sh (.int (X[j] : Nat))), f8, rfl, g1, m1, fun a c ha hXa hCa o ho => ?_⟩
        · have hq := eq_int (X[j] : Nat) (h : Nat)
          rw [decide_eq_false (by omega)] at hq
          unfold B_reached_1
          generalize B_reached_0 = Bi
          simp only [SX]
          generalize kN (ks K1) = k1
          generalize vK K1 = v1
          generalize I (zs Q1) = q1
          simp [hq]
        · by_cases ea : a = j
          · subst ea
            rw [eX] at hXa
            cases hXa
            exact absurd rfl e
          · exact c1 a c (by omega) hXa hCa o ho
  rw [enumL_len, I_len, zs_len] at c2
  subst es
  exact ⟨K', Q', f6, f7, f8, e1, g2, m2, fun a c hXa hCa o ho => c2 a c (List.getElem?_eq_some_iff.mp hXa).1 hXa hCa o ho⟩
/-- all that is done leads on to what is known -/
def Cl (C : List (List Nat)) (X : List Nat) (D : List Nat) (K : List KE) : Prop := ∀ k ∈ D, ∀ (a : Nat) (c : List Nat), X[a]? = some k → C[a]? = some c → ∀ o ∈ c, o ∈ ks K
theorem reach_turn {n : Nat} {C : List (List Nat)} {X : List Nat} {r h : Nat} {D : List Nat} {K : List KE} {Q : List Nat} (hn : n ≤ 12) (hC : CB n C) (hl : X.length = C.length) (hX : ∀ t ∈ X, t < n) (g : Gd n C X r D K (h :: Q)) (cl : Cl C X D K) (e5 e6 e7 e8 : Option LV) :
    ∃ K' Q' f5 f6 f7 f8, W_reached_0 (SX C X r K (h :: Q) e5 e6 e7 e8) = .ok (.nx, SX C X r K' Q' f5 f6 f7 f8) ∧ Gd n C X r (D ++ [h]) K' Q' ∧ Cl C X (D ++ [h]) K' := by
  have g' : Gd n C X r (D ++ [h]) K Q := ⟨by rw [g.keys]; simp, g.nd, g.lt, g.hd, g.ro, g.ch⟩
  have hK := g.len
  have hQ : (h :: Q).length ≤ K.length := by
    have := congrArg List.length g.keys
    rw [ks_len, List.length_append] at this
    omega
  obtain ⟨K', Q', f6, f7, f8, e1, g2, m2, c2⟩ := reach_out hn hC hl hX (h := h) (by simp) g' e6 e7 e8
  refine ⟨K', Q', some (.sh (.int (h : Nat))), f6, f7, f8, ?_, g2, fun k hk a c hXa hCa o ho => ?_⟩
  · unfold W_reached_0
    refine seq_nx (s' := SX C X r K Q (some (.sh (.int (h : Nat)))) e6 e7 e8) ?_ ?_
    · have hf : fitsL (I (zs (h :: Q))).length = true := Nat.ble_eq_true_of_le (by rw [I_len, zs_len]; omega)
      have hq : I (zs (h :: Q)) = PV.int (h : Nat) :: I (zs Q) := rfl
      rw [hq] at hf
      have hf2 : (I (zs Q)).length ≤ 16777215 := by rw [I_len, zs_len]; simp at hQ; omega
      simp only [SX, hq]
      generalize kN (ks K) = k1
      generalize vK K = v1
      generalize I (zs Q) = q1 at hf hf2 ⊢
      simp [owL, hf, hf2]
    · generalize B_reached_1 = Bi at e1 ⊢
      simp only [SX] at e1 ⊢
      have hi : itemsV (tN X) = some (I (zs X)) := rfl
      generalize kN (ks K) = k1 at e1 ⊢
      generalize vK K = v1 at e1 ⊢
      generalize I (zs Q) = q1 at e1 ⊢
      generalize kN (ks K') = k2 at e1 ⊢
      generalize vK K' = v2 at e1 ⊢
      generalize I (zs Q') = q2 at e1 ⊢
      simp only [tN, tI] at hi ⊢
      simp only [tN, tI] at e1
      simp [e1]
  · rcases List.mem_append.mp hk with hk | hk
    · exact m2 _ (cl k hk a c hXa hCa o ho)
    · simp at hk
      subst hk
      exact c2 a c hXa hCa o ho
theorem okD_nilT : okD (.lst []) = true := (small_lst (d := 0) (n := 0) (L := 0) (ps := []) (by simp) (by simp)).okD (by omega)
theorem ne_own (Q : List Nat) (hl : Q.length ≤ 1000) (h : ∀ t ∈ Q, t ≤ 1000) : (okD (.lst (I (zs Q))) && okD (.lst [])) = true ∧ (!eqB (.lst (I (zs Q))) (.lst [])) = !Q.isEmpty := by
  have hb : ∀ a ∈ zs Q, -1000000000000 ≤ a ∧ a ≤ 1000000000000 := fun a ha => by
    obtain ⟨t, ht, rfl⟩ := zs_mem ha
    have := h t ht
    omega
  have o1 := (small_lI (zs Q) 1000 (by rw [zs_len]; exact hl) hb).okD (by omega)
  have k := ne_nilI (zs Q) (by rw [zs_len]; exact hl) hb
  have o : (okD (.lst (I (zs Q))) && okD (.lst [])) = true := by rw [o1, okD_nilT]; rfl
  refine ⟨o, ?_⟩
  unfold neV at k
  rw [if_pos o] at k
  have := PV.bl.inj (Res.ok.inj k)
  rw [this]
  cases Q <;> rfl
theorem reach_whl {n : Nat} {C : List (List Nat)} {X : List Nat} {r : Nat} (hn : n ≤ 12) (hC : CB n C) (hl : X.length = C.length) (hX : ∀ t ∈ X, t < n) : ∀ (k : Nat) (D : List Nat) (K : List KE) (Q : List Nat) (f : Nat) (e5 e6 e7 e8 : Option LV), D.length + k = n → k + 1 ≤ f → Gd n C X r D K Q → Cl C X D K →
    ∃ D' K' f5 f6 f7 f8, dWhl WT_reached_0 W_reached_0 f (SX C X r K Q e5 e6 e7 e8) = .ok (.nx, SX C X r K' [] f5 f6 f7 f8) ∧ Gd n C X r D' K' [] ∧ Cl C X D' K' := by
  intro k
  induction k with
  | zero =>
    intro D K Q f e5 e6 e7 e8 hk hf g cl
    have hK := g.len
    have hQ := congrArg List.length g.keys
    rw [ks_len, List.length_append] at hQ
    have hQ0 : Q = [] := List.length_eq_zero_iff.mp (by omega)
    subst hQ0
    cases f with
    | zero => omega
    | succ f =>
      refine ⟨D, K, e5, e6, e7, e8, whl_f (s1 := SX C X r K [] e5 e6 e7 e8) ?_, g, cl⟩
      have ho := ne_own [] (by simp) (by simp)
      have hz : I (zs []) = [] := rfl
      rw [hz] at ho
      simp only [SX, hz]
      generalize kN (ks K) = k1
      generalize vK K = v1
      simp only [WT_reached_0]
      simp [fitN_of, okD_nilT, ho.1]
      have := ho.2
      simpa using this
  | succ k ih =>
    intro D K Q f e5 e6 e7 e8 hk hf g cl
    have hK := g.len
    have hQ := congrArg List.length g.keys
    rw [ks_len, List.length_append] at hQ
    have ho := ne_own Q (by omega) (fun t ht => by
      have := g.lt t (by rw [g.keys]; exact List.mem_append_right _ ht)
      omega)
    have hwt : WT_reached_0 (SX C X r K Q e5 e6 e7 e8) = .ok (!Q.isEmpty, SX C X r K Q e5 e6 e7 e8) := by
      obtain ⟨h1, h2⟩ := ho
      rw [← h2]
      simp only [SX]
      generalize kN (ks K) = k1
      generalize vK K = v1
      generalize I (zs Q) = q1 at h1 ⊢
      rw [Bool.and_eq_true] at h1
      simp only [WT_reached_0]
      simp [fitN_of, h1.1, h1.2]
    cases f with
    | zero => omega
    | succ f =>
      cases Q with
      | nil => exact ⟨D, K, e5, e6, e7, e8, whl_f hwt, g, cl⟩
      | cons h Q =>
        obtain ⟨K', Q', f5, f6, f7, f8, e1, g2, cl2⟩ := reach_turn hn hC hl hX g cl e5 e6 e7 e8
        obtain ⟨D', K2, x5, x6, x7, x8, e2, g3, cl3⟩ := ih (D ++ [h]) K' Q' f f5 f6 f7 f8 (by simp; omega) (by omega) g2 cl2
        exact ⟨D', K2, x5, x6, x7, x8, by rw [whl_t hwt e1, e2], g3, cl3⟩
/-- all tapes that chains from one lead to -/
structure Rch (n : Nat) (C : List (List Nat)) (X : List Nat) (r : Nat) (K : List KE) : Prop where
  gd : ∃ D, Gd n C X r D K []
  cl : Cl C X (ks K) K
theorem reached_ok {n : Nat} {C : List (List Nat)} {X : List Nat} {r : Nat} (hn : n ≤ 12) (hC : CB n C) (hl : X.length = C.length) (hX : ∀ t ∈ X, t < n) (hr : r < n) :
    ∃ K, Rch n C X r K ∧ F_reached [] [.tup (tC C), tN X, .int (r : Nat)] = .ok (.sh (.dct (kN (ks K)) (vK K)), []) := by
  have g : Gd n C X r [] [(r, none)] [r] := ⟨rfl, by simp [ks], fun t ht => by simp [ks] at ht; omega, rfl, fun i o e => by
    have := (List.getElem?_eq_some_iff.mp e).1
    simp at this; exact this, fun i o a h e => by
    have hi := (List.getElem?_eq_some_iff.mp e).1
    have : i = 0 := by simp at hi; exact hi
    subst this
    simp at e⟩
  obtain ⟨D, K, f5, f6, f7, f8, e1, g2, cl⟩ := reach_whl hn hC hl hX n [] [(r, none)] [r] 4611686018427387904 none none none none (by simp) (by omega) g (fun k hk => by cases hk)
  have ek : ks K = D := by rw [g2.keys, List.append_nil]
  refine ⟨K, ⟨⟨D, g2⟩, by rw [ek]; exact cl⟩, ?_⟩
  refine fn_rt (s' := [some (.sh (.tup (tC C))), some (.sh (tN X)), some (.sh (.int (r : Nat))), some (.sh (.dct (kN (ks K)) (vK K))), some (.ow (.lst [])), f5, f6, f7, f8]) ?_
  refine seq_nx (s' := SX C X r [(r, none)] [r] none none none none) (by simp [S_reached_0, startP, SX, noX, fitN_of, kN, ks, vK, vE, I, zs]) ?_
  refine seq_nx (s' := _) (show S_reached_1 _ = _ from e1) ?_
  simp only [SX]
  generalize kN (ks K) = k1
  generalize vK K = v1
  show S_reached_2 _ = _
  simp [S_reached_2, I, zs]
end LW
/-! P11: moved. -/
namespace LW
open PySem PySem.Spec PyProof.Rows L2 VL HD
theorem getK_N : ∀ {K : List KE} {i : Nat} {e : KE}, (ks K).Nodup → K[i]? = some e → getK (.inl (e.1 : Int)) (kN (ks K)) (vK K) = some (vE e)
  | [], i, e, _, h => by simp at h
  | x :: K, 0, e, _, h => by
    simp at h
    subst h
    show (if (Sum.inl (x.1 : Int) : Key) = .inl (x.1 : Int) then some (vE x) else getK _ (kN (ks K)) (vK K)) = _
    rw [if_pos rfl]
  | x :: K, i + 1, e, hn, h => by
    simp at h
    have hn' := List.nodup_cons.mp (show (x.1 :: ks K).Nodup from hn)
    have ih := getK_N hn'.2 h
    have hm : e.1 ∈ ks K := List.mem_map.mpr ⟨e, List.mem_of_getElem? h, rfl⟩
    have hne : ¬ (Sum.inl (x.1 : Int) : Key) = .inl (e.1 : Int) := fun z => hn'.1 (by
      have : x.1 = e.1 := by have := Sum.inl.inj z; omega
      rw [this]; exact hm)
    show (if (Sum.inl (x.1 : Int) : Key) = .inl (e.1 : Int) then some (vE x) else getK (.inl (e.1 : Int)) (kN (ks K)) (vK K)) = _
    rw [if_neg hne]
    exact ih
abbrev SV (X : List Nat) (K : List KE) (t : Nat) (Y : List Nat) (a b : Option LV) : PSt := [some (.sh (tN X)), some (.sh (.dct (kN (ks K)) (vK K))), some (.sh (.int (t : Nat))), some (.ow (.lst (I (zs Y)))), a, b]
theorem cnt_set {Y : List Nat} {a h o t : Nat} (e : Y[a]? = some h) : (Y.set a o).count t + (if t = h then 1 else 0) = Y.count t + (if t = o then 1 else 0) := by
  obtain ⟨ha, e⟩ := List.getElem?_eq_some_iff.mp e
  rw [List.count_set ha, e]
  have hpos : t = h → 0 < Y.count t := fun z => by
    subst z
    rw [List.count_pos_iff, ← e]
    exact List.getElem_mem ha
  by_cases h1 : t = h
  · have := hpos h1
    subst h1
    by_cases h2 : t = o
    · subst h2; simp; omega
    · have : (o == t) = false := by simp; exact fun z => h2 z.symm
      simp [this, h2]; omega
  · have e1 : (h == t) = false := by simp; exact fun z => h1 z.symm
    by_cases h2 : t = o
    · subst h2; simp [e1, h1]
    · have : (o == t) = false := by simp; exact fun z => h2 z.symm
      simp [this, e1, h1, h2]
theorem move_whl {n : Nat} {C : List (List Nat)} {X : List Nat} {r : Nat} {D : List Nat} {K : List KE} (g : Gd n C X r D K []) (hl : X.length ≤ 1000) : ∀ (i : Nat) (e : KE) (Y : List Nat) (f : Nat) (a b : Option LV), K[i]? = some e → i + 1 ≤ f → Y.length = X.length →
    (∀ a h : Nat, X[a]? = some h → (∃ j, j < i ∧ (ks K)[j]? = some h) → Y[a]? = some h) → (∀ (a u : Nat) (c : List Nat), Y[a]? = some u → C[a]? = some c → u ∈ c) →
    ∃ Y' a' b', dWhl WT_moved_0 W_moved_0 f (SV X K e.1 Y a b) = .ok (.nx, SV X K r Y' a' b') ∧ Y'.length = X.length ∧ (∀ t, Y'.count t + (if t = r then 1 else 0) = Y.count t + (if t = e.1 then 1 else 0)) ∧ ∀ (a u : Nat) (c : List Nat), Y'[a]? = some u → C[a]? = some c → u ∈ c := by
  intro i
  induction i using Nat.strongRecOn with
  | _ i ih =>
    intro e Y f a b hi hf hY hsame hok
    cases f with
    | zero => omega
    | succ f =>
      have hg := getK_N g.nd hi
      obtain ⟨o, x⟩ := e
      cases x with
      | none =>
        have hi0 := g.ro i o hi
        subst hi0
        have hr := g.hd
        rw [hi] at hr
        cases hr
        refine ⟨Y, a, b, whl_f ?_, hY, fun t => rfl, hok⟩
        have hv : vE (r, none) = .non := rfl
        rw [hv] at hg
        simp only at hg
        simp only [SV]
        generalize kN (ks K) = k1 at hg ⊢
        generalize vK K = v1 at hg ⊢
        generalize I (zs Y) = y1
        simp [WT_moved_0, hg, isntV, VL.isNon]
      | some ah =>
        obtain ⟨ak, h⟩ := ah
        obtain ⟨⟨j, hj, ej⟩, hX, c, hc, ho⟩ := g.ch i o ak h hi
        have hYa := hsame ak h hX ⟨j, hj, ej⟩
        have hlt : ak < Y.length := (List.getElem?_eq_some_iff.mp hYa).1
        have ekj : ∃ x, K[j]? = some (h, x) := by
          unfold ks at ej
          rw [List.getElem?_map] at ej
          cases e : K[j]? with
          | none => rw [e] at ej; cases ej
          | some y => rw [e] at ej; cases ej; exact ⟨y.2, rfl⟩
        obtain ⟨x, ekj⟩ := ekj
        have hjlt : j < (ks K).length := (List.getElem?_eq_some_iff.mp ej).1
        obtain ⟨Y', a', b', e1, hl', cnt, ok'⟩ := ih j hj (h, x) (Y.set ak o) f (some (.sh (.int (ak : Nat)))) (some (.sh (.int (h : Nat)))) ekj (by omega) (by rw [List.length_set]; exact hY) (fun a2 h2 hX2 ⟨j2, hj2, ej2⟩ => by
          have hne : a2 ≠ ak := fun z => by
            subst z
            rw [hX] at hX2
            cases hX2
            have nd := List.pairwise_iff_getElem.mp g.nd
            obtain ⟨k1, q1⟩ := List.getElem?_eq_some_iff.mp ej2
            obtain ⟨k2, q2⟩ := List.getElem?_eq_some_iff.mp ej
            exact nd j2 j k1 k2 hj2 (by rw [q1, q2])
          rw [List.getElem?_set_ne (fun z => hne z.symm)]
          exact hsame a2 h2 hX2 ⟨j2, by omega, ej2⟩) (fun a2 u c2 e2 e3 => by
          by_cases z : a2 = ak
          · subst z
            rw [List.getElem?_set_self hlt] at e2
            cases e2
            rw [hc] at e3
            cases e3
            exact ho
          · rw [List.getElem?_set_ne (fun y => z y.symm)] at e2
            exact hok a2 u c2 e2 e3)
        refine ⟨Y', a', b', ?_, hl', fun t => ?_, ok'⟩
        · rw [← e1]
          have hv : vE (o, some (ak, h)) = .tup [.int (ak : Nat), .int (h : Nat)] := rfl
          rw [hv] at hg
          simp only at hg
          have hset : (I (zs Y)).set ak (.int (o : Nat)) = I (zs (Y.set ak o)) := by
            unfold zs
            rw [I_set, List.map_set]
          have hix : ixN (I (zs Y)).length ((ak : Nat) : Int) = some ak := by
            rw [I_len, zs_len]; simp [ixN]; omega
          refine whl_t (s1 := SV X K o Y a b) ?_ ?_
          · simp only [SV]
            generalize kN (ks K) = k1 at hg ⊢
            generalize vK K = v1 at hg ⊢
            generalize I (zs Y) = y1
            simp [WT_moved_0, hg, isntV, VL.isNon]
          · simp only [SV]
            generalize kN (ks K) = k1 at hg ⊢
            generalize vK K = v1 at hg ⊢
            generalize I (zs (Y.set ak o)) = y2 at hset ⊢
            generalize I (zs Y) = y1 at hset hix ⊢
            unfold W_moved_0
            simp [hg, owA, hix, hset]
        · have c1 := cnt t
          have c2 := cnt_set (o := o) (t := t) hYa
          dsimp only at c1 ⊢
          omega
theorem moved_ok {n : Nat} {C : List (List Nat)} {X : List Nat} {r : Nat} {K : List KE} (hn : n ≤ 12) (g : Rch n C X r K) (hl : X.length ≤ 1000) (hX : Ok C X) {i : Nat} {e : KE} (hi : K[i]? = some e) :
    ∃ X', F_moved [] [tN X, .dct (kN (ks K)) (vK K), .int (e.1 : Nat)] = .ok (.sh (tN X'), []) ∧ Ok C X' ∧ ∀ t, X'.count t + (if t = r then 1 else 0) = X.count t + (if t = e.1 then 1 else 0) := by
  obtain ⟨D, gd⟩ := g.gd
  have hk := (List.getElem?_eq_some_iff.mp hi).1
  have hkl : K.length ≤ n := gd.len
  obtain ⟨Y', a', b', e1, hl', cnt, ok'⟩ := move_whl gd hl i e X 4611686018427387904 none none hi (by omega) rfl (fun a h hX _ => hX) (fun a u c h1 h2 => hX.at_ h1 h2)
  refine ⟨Y', ?_, Ok.of (by rw [hl', hX.len]) ok', cnt⟩
  refine fn_rt (s' := SV X K r Y' a' b') ?_
  refine seq_nx (s' := SV X K e.1 X none none) ?_ ?_
  · simp only [SV, tN, tI]
    generalize kN (ks K) = k1
    generalize vK K = v1
    generalize I (zs X) = x1
    simp [S_moved_0, startP, listV]
  refine seq_nx (s' := _) (show S_moved_1 _ = _ from e1) ?_
  simp only [SV, tN, tI]
  generalize kN (ks K) = k1
  generalize vK K = v1
  generalize I (zs Y') = y1
  show S_moved_2 _ = _
  simp [S_moved_2]
end LW
/-! P12: better. -/
namespace LW
open PySem PySem.Spec PyProof.Rows L2 VL HD
theorem forL_or {g : PV → PSt → Res PSt} {body : M Fl} (P : PV → Prop) : ∀ (ps : List PV) (I : Nat → PSt → Prop) (s : PSt), I 0 s →
    (∀ (j : Nat) (hj : j < ps.length) (s : PSt), I j s → ∃ s1, g ps[j] s = .ok s1 ∧ ((∃ s2, body s1 = .ok (.nx, s2) ∧ I (j + 1) s2) ∨ ∃ v s2, body s1 = .ok (.rt v, s2) ∧ P v)) →
    (∃ s', dForL g body ps s = .ok (.nx, s') ∧ I ps.length s') ∨ ∃ v s', dForL g body ps s = .ok (.rt v, s') ∧ P v
  | [], I, s, h, _ => .inl ⟨s, rfl, h⟩
  | p :: ps, I, s, h, ht => by
    obtain ⟨s1, h1, k⟩ := ht 0 (by simp) s h
    simp only [List.getElem_cons_zero] at h1
    rcases k with ⟨s2, h2, h3⟩ | ⟨v, s2, h2, hP⟩
    · have := forL_or P ps (fun j => I (j + 1)) s2 h3 fun j hj s hs => by
        have := ht (j + 1) (by simp; omega) s hs
        simpa only [List.getElem_cons_succ] using this
      have e : dForL g body (p :: ps) s = dForL g body ps s2 := by
        conv => lhs; unfold dForL
        simp only [h1, h2, Res.bind_ok]
      rw [e]
      exact this
    · refine .inr ⟨v, s2, ?_, hP⟩
      unfold dForL
      simp only [h1, h2, Res.bind_ok]
theorem intKs_N : ∀ l : List Nat, intKs (kN l) = some (zs l)
  | [] => rfl
  | t :: l => by
    have ih := intKs_N l
    show (intKs (kN l)).map _ = _
    rw [ih]
    rfl
theorem sortK_N {l : List Nat} {ps : List PV} (h : l.length < 64) : sortK (.dct (kN l) ps) = .ok (I (srtI (zs l))) := by
  unfold sortK
  dsimp only
  rw [intKs_N]
  simp only [optR_some, Res.bind_ok]
  rw [if_pos]
  · rfl
  · rw [zs_len]; simpa using h
theorem srtI_mem {l : List Int} {x : Int} : x ∈ srtI l ↔ x ∈ l := (List.mergeSort_perm l _).mem_iff
theorem srtI_len (l : List Int) : (srtI l).length = l.length := (List.mergeSort_perm l _).length_eq
abbrev SB (W : List Int) (C : List (List Nat)) (X : List Nat) (a b c d : Option LV) : PSt := [some (.sh (tI W)), some (.sh (.tup (tC C))), some (.sh (tN X)), some (.sh (.lst (I (lds W.length W X)))), a, b, c, d]
/-- a choice that one chain made more even -/
structure Step (n : Nat) (W : List Int) (C : List (List Nat)) (X X' : List Nat) : Prop where
  ok : Ok C X'
  st : ∃ a b, a < n ∧ b < n ∧ lo W X b + 2 ≤ lo W X a ∧ ∀ t, lo W X' t = lo W X t - (if t = a then 1 else 0) + (if t = b then 1 else 0)
def EvAt (n : Nat) (W : List Int) (C : List (List Nat)) (X : List Nat) (t : Nat) : Prop := ∃ T : Nat → Prop, T t ∧ (∀ p ∈ C.zip X, T p.2 → ∀ o ∈ p.1, T o) ∧ ∀ o, T o → o < n → lo W X t ≤ lo W X o + 1
theorem zip_get {C : List (List Nat)} {X : List Nat} {p : List Nat × Nat} (h : p ∈ C.zip X) : ∃ a : Nat, C[a]? = some p.1 ∧ X[a]? = some p.2 := by
  obtain ⟨a, ha, e⟩ := List.getElem_of_mem h
  have h1 : a < C.length := by simp at ha; omega
  have h2 : a < X.length := by simp at ha; omega
  rw [List.getElem_zip] at e
  exact ⟨a, by rw [List.getElem?_eq_getElem h1, ← e], by rw [List.getElem?_eq_getElem h2, ← e]⟩
theorem srt_nat {l : List Nat} {x : Int} (h : x ∈ srtI (zs l)) : ∃ t ∈ l, x = (t : Nat) := zs_mem (srtI_mem.mp h)
theorem better_turn {W : List Int} {C : List (List Nat)} {X : List Nat} (h : Inp W C) (hX : Ok C X) {t : Nat} (ht : t < W.length) (b c : Option LV) :
    (∃ b' c', B_better_0 (SB W C X (some (.sh (.int (t : Nat)))) b c none) = .ok (.nx, SB W C X (some (.sh (.int (t : Nat)))) b' c' none) ∧ EvAt W.length W C X t) ∨
    ∃ v s', B_better_0 (SB W C X (some (.sh (.int (t : Nat)))) b c none) = .ok (.rt v, s') ∧ ∃ X', v = tN X' ∧ Step W.length W C X X' := by
  have hn := h.n2
  have hXl := hX.lt h.lt
  have hlen := hX.len
  have hcl := h.cl
  obtain ⟨K, rc, e1⟩ := reached_ok hn h.lt hlen hXl ht
  obtain ⟨D, gd⟩ := rc.gd
  have hKn := gd.len
  have hkt : t ∈ ks K := by
    have := gd.hd
    exact List.mem_map.mpr ⟨(t, none), List.mem_of_getElem? this, rfl⟩
  have hsK := sortK_N (l := ks K) (ps := vK K) (by rw [ks_len]; omega)
  let Z : List Int := srtI (zs (ks K))
  let F : List Int := Z.filter fun o => decide (lo W X o.toNat + 1 < lo W X t)
  have hZl : Z.length ≤ 12 := by simp only [Z]; rw [srtI_len, zs_len, ks_len]; omega
  have hFl : F.length ≤ Z.length := List.length_filter_le _ _
  have hlt := lds_at W X ht
  have s1 : B_better_0 (SB W C X (some (.sh (.int (t : Nat)))) b c none) = (dIf (dTst (dBin neV (dVar 6) (dLst dNil))) (dRet (asSh (dCall 3 F_moved (dCons (dVar 2) (dCons (dVar 5) (dCons (dGet (dSlot 6) (dC (.int 0))) dNil)))))) dNx)
      (SB W C X (some (.sh (.int (t : Nat)))) (some (.sh (.dct (kN (ks K)) (vK K)))) (some (.ow (.lst (I F)))) none) := by
    let S0 := SB W C X (some (.sh (.int (t : Nat)))) (some (.sh (.dct (kN (ks K)) (vK K)))) c none
    have lc := lc_filter (vs := [7]) (g := gNm 7) (t := T_better_0) (e := E_better_0) (fun p => match p with | .int o => decide (lo W X o.toNat + 1 < lo W X t) | _ => false) (fun p => p) S0 (I Z) [] (by rw [List.length_nil, I_len]; omega) (fun p hp => by
      obtain ⟨x, hx, rfl⟩ := List.mem_map.mp hp
      obtain ⟨o, ho, rfl⟩ := srt_nat hx
      have ho' := gd.lt o ho
      have hlo := lds_at W X ho'
      refine ⟨S0.set 7 (some (.sh (.int (o : Nat)))), S0.set 7 (some (.sh (.int (o : Nat)))), rfl, ?_, fun _ => ⟨S0.set 7 (some (.sh (.int (o : Nat)))), ?_, rfl⟩, fun _ => rfl⟩
      · dsimp only
        rw [Int.toNat_natCast]
        simp only [S0, SB]
        generalize lo W X o = lo1 at hlo ⊢
        generalize lo W X t = lo2 at hlt ⊢
        generalize I (lds W.length W X) = ld at hlo hlt ⊢
        generalize kN (ks K) = k1
        generalize vK K = v1
        simp [T_better_0, hlo, hlt]
      · simp only [S0, SB]
        generalize I (lds W.length W X) = ld
        generalize kN (ks K) = k1
        generalize vK K = v1
        simp [E_better_0])
    have hs : (List.filter (fun p => match p with | PV.int o => decide (lo W X o.toNat + 1 < lo W X t) | _ => false) (I Z)).map (fun p => p) = I F := by
      rw [List.map_id']
      unfold I
      rw [List.filter_map]
      rfl
    rw [hs, List.nil_append] at lc
    unfold B_better_0
    refine seq_nx (s' := S0) ?_ ?_
    · simp only [S0, SB]
      generalize F_reached = Fr at e1 ⊢
      generalize I (lds W.length W X) = ld
      generalize kN (ks K) = k1 at e1 ⊢
      generalize vK K = v1 at e1 ⊢
      simp [e1]
    · refine seq_nx (s' := SB W C X (some (.sh (.int (t : Nat)))) (some (.sh (.dct (kN (ks K)) (vK K)))) (some (.ow (.lst (I F)))) none) ?_ rfl
      have hwk : walkV (.lst (I Z)) = some (I Z) := rfl
      have hsK' : sortK (.dct (kN (ks K)) (vK K)) = .ok (I Z) := hsK
      generalize T_better_0 = T at lc ⊢
      generalize E_better_0 = E at lc ⊢
      generalize I F = iF at lc ⊢
      generalize I Z = iZ at lc hwk hsK'
      simp only [S0, SB] at lc ⊢
      generalize I (lds W.length W X) = ld at lc ⊢
      generalize kN (ks K) = k1 at lc hsK' ⊢
      generalize vK K = v1 at lc hsK' ⊢
      simp [hsK', wipeP, lc, backP, shP]
  have hmemF : ∀ x ∈ F, ∃ o ∈ ks K, x = (o : Nat) ∧ lo W X o + 1 < lo W X t := fun x hx => by
    have hx' := List.mem_filter.mp hx
    obtain ⟨o, ho, rfl⟩ := srt_nat hx'.1
    have := of_decide_eq_true hx'.2
    rw [Int.toNat_natCast] at this
    exact ⟨o, ho, rfl, this⟩
  have hnn := ne_nilI F (by omega) fun a ha => by
    obtain ⟨o, ho, rfl, _⟩ := hmemF a ha
    have := gd.lt o ho
    omega
  rw [s1]
  cases hF : F with
  | nil =>
    rw [hF] at hnn
    have hz : I ([] : List Int) = [] := rfl
    rw [hz] at hnn ⊢
    refine .inl ⟨some (.sh (.dct (kN (ks K)) (vK K))), some (.sh (.lst [])), ?_, (fun o => o ∈ ks K), hkt, fun p hp hT o ho => ?_, fun o ho hon => ?_⟩
    · simp only [SB]
      generalize I (lds W.length W X) = ld
      generalize kN (ks K) = k1
      generalize vK K = v1
      simp [fitN_of, hnn]
    · obtain ⟨a, hCa, hXa⟩ := zip_get hp
      exact rc.cl p.2 hT a p.1 hXa hCa o ho
    · by_cases z : lo W X t ≤ lo W X o + 1
      · exact z
      · have : ((o : Nat) : Int) ∈ F := List.mem_filter.mpr ⟨srtI_mem.mpr (List.mem_map.mpr ⟨o, ho, rfl⟩), decide_eq_true (by rw [Int.toNat_natCast]; omega)⟩
        rw [hF] at this
        cases this
  | cons x xs =>
    obtain ⟨o, ho, rfl, hlo⟩ := hmemF x (by rw [hF]; exact List.mem_cons_self)
    obtain ⟨e, he, rfl⟩ := List.mem_map.mp ho
    obtain ⟨i, hi, ei⟩ := List.getElem_of_mem he
    obtain ⟨X', e2, ok', cnt⟩ := moved_ok hn rc (by omega) hX (i := i) (e := e) (by rw [List.getElem?_eq_getElem hi, ei])
    rw [hF] at hnn
    have hemp : (!(((e.1 : Nat) : Int) :: xs).isEmpty) = true := rfl
    rw [hemp] at hnn
    have hat : atI (I (((e.1 : Nat) : Int) :: xs)) 0 = some (.int (e.1 : Nat)) := atI_nat (j := 0) rfl
    refine .inr ⟨tN X', SB W C X (some (.sh (.int (t : Nat)))) (some (.sh (.dct (kN (ks K)) (vK K)))) (some (.sh (.lst (I (((e.1 : Nat) : Int) :: xs))))) none, ?_, X', rfl, ok', t, e.1, ht, gd.lt _ ho, by omega, fun u => ?_⟩
    · simp only [SB]
      generalize F_moved = Fm at e2 ⊢
      generalize I (lds W.length W X) = ld
      generalize kN (ks K) = k1 at e2 ⊢
      generalize vK K = v1 at e2 ⊢
      generalize I (((e.1 : Nat) : Int) :: xs) = iF at hnn hat ⊢
      simp [fitN_of, hnn, hat, e2]
    · have := cnt u
      unfold lo
      by_cases z1 : u = t
      · rw [if_pos z1] at this ⊢
        by_cases z2 : u = e.1
        · rw [if_pos z2] at this ⊢; omega
        · rw [if_neg z2] at this ⊢; omega
      · rw [if_neg z1] at this ⊢
        by_cases z2 : u = e.1
        · rw [if_pos z2] at this ⊢; omega
        · rw [if_neg z2] at this ⊢; omega
theorem better_ok {W : List Int} {C : List (List Nat)} {X : List Nat} (h : Inp W C) (hX : Ok C X) :
    (F_better [] [tI W, .tup (tC C), tN X] = .ok (.sh .non, []) ∧ Even W.length W C X) ∨ ∃ X', F_better [] [tI W, .tup (tC C), tN X] = .ok (.sh (tN X'), []) ∧ Step W.length W C X X' := by
  have hn := h.n2
  have hl := loads_ok (W := W) (X := X) (by omega) (hX.lt h.lt)
  have s0 : S_better_0 (startP false 8 [] [tI W, .tup (tC C), tN X]) = .ok (.nx, SB W C X none none none none) := by
    unfold S_better_0
    generalize F_loads = Fl at hl ⊢
    simp only [SB]
    generalize I (lds W.length W X) = ld at hl ⊢
    simp [startP, hl]
  rcases forL_or (g := gNm 4) (body := B_better_0) (fun v => ∃ X', v = tN X' ∧ Step W.length W C X X') (rangeL 0 W.length) (fun j s => (∃ a b c, s = SB W C X a b c none) ∧ ∀ t, t < j → EvAt W.length W C X t) (SB W C X none none none none) ⟨⟨none, none, none, rfl⟩, fun t ht => absurd ht (by omega)⟩ (fun j hj s hs => by
    obtain ⟨⟨a, b, c, rfl⟩, hev⟩ := hs
    rw [rangeL_len] at hj
    rw [rangeL_get]
    rw [Int.zero_add]
    refine ⟨SB W C X (some (.sh (.int (j : Nat)))) b c none, rfl, ?_⟩
    rcases better_turn h hX hj b c with ⟨b', c', e1, ev⟩ | k
    · refine .inl ⟨_, e1, ⟨_, _, _, rfl⟩, fun t ht => ?_⟩
      by_cases z : t = j
      · rw [z]; exact ev
      · exact hev t (by omega)
    · exact .inr k) with ⟨s', e1, ⟨a, b, c, rfl⟩, hev⟩ | ⟨v, s', e1, X', rfl, st⟩
  · refine .inl ⟨?_, ⟨fun t ht => hev t (by rw [rangeL_len]; exact ht)⟩⟩
    refine fn_rt (s' := SB W C X a b c none) ?_
    refine seq_nx s0 ?_
    refine seq_nx (s' := SB W C X a b c none) ?_ ?_
    · unfold S_better_1
      have hr : rOk (W.length : Nat) = true := rOk_of (by omega) (by omega)
      generalize B_better_0 = Bi at e1 ⊢
      simp only [SB] at e1 ⊢
      generalize I (lds W.length W X) = ld at e1 ⊢
      simp [I_len, hr, e1]
    · simp only [SB]
      generalize I (lds W.length W X) = ld
      show S_better_2 _ = _
      simp [S_better_2]
  · refine .inr ⟨X', ?_, st⟩
    refine fn_rt (s' := s') ?_
    refine seq_nx s0 ?_
    refine seq_rt ?_
    unfold S_better_1
    have hr : rOk (W.length : Nat) = true := rOk_of (by omega) (by omega)
    generalize B_better_0 = Bi at e1 ⊢
    simp only [SB] at e1 ⊢
    generalize I (lds W.length W X) = ld at e1 ⊢
    simp [I_len, hr, e1]
end LW
/-! P13: a choice that no chain makes more even. -/
namespace LW
open PySem PySem.Spec PyProof.Rows L2 VL HD
theorem alike_tI : ∀ a b : List Int, PySem.W.alikeAll (toDL (I a)) (toDL (I b)) = true
  | [], _ => by simp [I, toDL, PySem.W.alikeAll]
  | _ :: _, [] => by simp [I, toDL, PySem.W.alikeAll]
  | x :: xs, y :: ys => by
    have := alike_tI xs ys
    simp only [I, List.map_cons, toDL, PySem.W.alikeAll, PV.toD, PySem.W.alike, Bool.true_and] at this ⊢
    exact this
theorem cmpOk_tI {rs : List (List Int)} (hl : ∀ r ∈ rs, r.length ≤ 30) (hb : ∀ r ∈ rs, ∀ x ∈ r, -100000000 ≤ x ∧ x ≤ 100000000) : cmpOkL (rs.map tI) = true := by
  unfold cmpOkL
  have a1 : (rs.map tI).all okD = true := by
    rw [List.all_eq_true]; intro p hp; obtain ⟨r, hr, rfl⟩ := List.mem_map.mp hp
    exact (small_I r 30 (hl r hr) (fun x hx => by have := hb r hr x hx; omega)).okD (by omega)
  have a2 : (rs.map tI).all (fun p => !VL.isNon p) = true := by rw [List.all_eq_true]; intro p hp; obtain ⟨i, _, rfl⟩ := List.mem_map.mp hp; rfl
  have a3 : ((rs.map tI).all fun p => (rs.map tI).all fun q => PySem.W.alike p.toD q.toD) = true := by
    simp only [List.all_eq_true]
    intro p hp q hq
    obtain ⟨i, _, rfl⟩ := List.mem_map.mp hp
    obtain ⟨j, _, rfl⟩ := List.mem_map.mp hq
    simp only [PV.toD, PySem.W.alike]
    exact alike_tI i j
  rw [a1, a2, a3]; rfl
/-- the least pair of a list is one of them -/
theorem min_pair {rs : List (List Int)} (h0 : rs ≠ []) (hl : ∀ r ∈ rs, r.length ≤ 30) (hb : ∀ r ∈ rs, ∀ x ∈ r, -100000000 ≤ x ∧ x ≤ 100000000) : ∃ r ∈ rs, minV (.lst (rs.map tI)) = .ok (tI r) := by
  have h1 := cmpOk_tI hl hb
  cases rs with
  | nil => exact absurd rfl h0
  | cons x xs =>
    have hm := minB_mem (xs.map tI) (tI x)
    rw [← List.map_cons] at hm
    obtain ⟨r, hr, e⟩ := List.mem_map.mp hm
    refine ⟨r, hr, ?_⟩
    show (optR (itemsV (.lst ((x :: xs).map tI)))).bind _ = _
    simp only [itemsV, optR_some, Res.bind_ok]
    show (if cmpOkL ((x :: xs).map tI) then Res.ok (minB (tI x) (xs.map tI)) else .bad) = _
    rw [h1, ← e]; rfl
abbrev SE (W : List Int) (C : List (List Nat)) (Y : List Nat) (a b c d : Option LV) : PSt := [some (.sh (tI W)), some (.sh (.tup (tC C))), some (.sh (tN Y)), a, b, c, d, none]
theorem lo_bound {W : List Int} {C : List (List Nat)} {Y : List Nat} (h : Inp W C) (hY : Y.length ≤ 20) {t : Nat} (ht : t < W.length) : 0 ≤ lo W Y t ∧ lo W Y t ≤ 1000020 := by
  have h1 : 0 ≤ W.getD t 0 ∧ W.getD t 0 ≤ 1000000 := by
    rw [List.getD_eq_getElem?_getD, List.getElem?_eq_getElem ht]
    exact h.hw _ (List.getElem_mem _)
  have h2 := List.count_le_length (a := t) (l := Y)
  unfold lo
  omega
theorem even_turn {W : List Int} {C : List (List Nat)} {Y : List Nat} (h : Inp W C) {j : Nat} (hj : j < C.length) (hY : Ok (C.take j) Y) (a b c : Option LV) :
    ∃ t b', B_even_of_0 (SE W C Y (some (.sh (.int (j : Nat)))) (some (.sh (tN C[j]))) b none) = .ok (.nx, SE W C (Y ++ [t]) (some (.sh (.int (j : Nat)))) (some (.sh (tN C[j]))) b' none) ∧ Ok (C.take (j + 1)) (Y ++ [t]) := by
  have hn := h.n2
  have hcl := h.cl
  have hYl := hY.len
  rw [List.length_take] at hYl
  have hYt := hY.lt (n := W.length) fun c hc => h.lt c (List.mem_of_mem_take hc)
  have hc := List.getElem_mem hj
  have hct := h.lt _ hc
  have hcne := h.ne _ hc
  have hcle := h.clen hc
  have e1 := loads_ok (W := W) (X := Y) (by omega) hYt
  let S0 := SE W C Y (some (.sh (.int (j : Nat)))) (some (.sh (tN C[j]))) (some (.sh (.lst (I (lds W.length W Y))))) none
  have lc := lc_map (fun p => match p with | .int t => tI [lo W Y t.toNat, t] | _ => .non) (I (zs C[j])) 7 S0 E_even_of_0 (by rw [I_len, zs_len]; omega) rfl (fun p hp => by
    obtain ⟨i, hi, rfl⟩ := List.mem_map.mp hp
    obtain ⟨t, ht, rfl⟩ := zs_mem hi
    have ea := lds_at W Y (hct t ht)
    dsimp only
    rw [Int.toNat_natCast]
    simp only [S0, SE]
    generalize lo W Y t = lo1 at ea ⊢
    generalize I (lds W.length W Y) = ld at ea ⊢
    generalize tN C[j] = tc
    simp [E_even_of_0, ea, fitN_of, I])
  have em : (I (zs C[j])).map (fun p => match p with | PV.int t => tI [lo W Y t.toNat, t] | _ => PV.non) = (C[j].map fun t => [lo W Y t, (t : Nat)]).map tI := by
    simp only [I, zs, List.map_map]
    exact List.map_congr_left fun t _ => by simp
  rw [em] at lc
  obtain ⟨r, hr, hm⟩ := min_pair (rs := C[j].map fun t => [lo W Y t, ((t : Nat) : Int)]) (by simpa using hcne) (fun r hr => by obtain ⟨t, _, rfl⟩ := List.mem_map.mp hr; simp) (fun r hr x hx => by
    obtain ⟨t, ht, rfl⟩ := List.mem_map.mp hr
    have := lo_bound (Y := Y) h (by omega) (hct t ht)
    have := hct t ht
    simp at hx
    rcases hx with rfl | rfl <;> omega)
  obtain ⟨t, ht, rfl⟩ := List.mem_map.mp hr
  refine ⟨t, some (.sh (.lst (I (lds W.length W Y)))), ?_, ?_⟩
  · unfold B_even_of_0
    refine seq_nx (s' := S0) ?_ ?_
    · simp only [S0, SE]
      generalize F_loads = Fl at e1 ⊢
      generalize I (lds W.length W Y) = ld at e1 ⊢
      simp [e1]
    · have hq : I (zs (Y ++ [t])) = I (zs Y) ++ [PV.int (t : Nat)] := by simp [I, zs]
      have hwk : walkV (tN C[j]) = some (I (zs C[j])) := rfl
      have hix : atI (I [lo W Y t, ((t : Nat) : Int)]) 1 = some (.int (t : Nat)) := atI_nat (j := 1) rfl
      have hf : fitN ((I (zs Y)).length + 1) = true := fitN_of (by rw [I_len, zs_len]; omega)
      simp only [S0, SE, tN, tI] at lc hm hix hwk ⊢
      rw [hq]
      generalize E_even_of_0 = E at lc ⊢
      generalize (C[j].map fun t => [lo W Y t, ((t : Nat) : Int)]).map (fun a => PV.tup (I a)) = pr at lc hm
      generalize I [lo W Y t, ((t : Nat) : Int)] = pq at hm hix
      generalize I (lds W.length W Y) = ld at lc ⊢
      generalize I (zs C[j]) = cz at lc hwk ⊢
      generalize I (zs Y) = yz at lc hf ⊢
      simp [hwk, wipeP, lc, backP, shP, hm, hix, hf]
  · rw [List.take_succ_eq_append_getElem hj]
    have key : ∀ {C : List (List Nat)} {Y : List Nat} {c : List Nat}, Ok C Y → t ∈ c → Ok (C ++ [c]) (Y ++ [t]) := by
      intro C Y c h hc
      induction h with
      | nil => exact .cons hc .nil
      | cons a _ ih => exact .cons a ih
    exact key hY ht
end LW
/-! P14: even_of, even_choice, is_even, chain. -/
namespace LW
open PySem PySem.Spec PyProof.Rows L2 VL HD
theorem Step.ph {n : Nat} {W : List Int} {C : List (List Nat)} {X X' : List Nat} (h : Step n W C X X') : Ph n (lo W X') + 4 ≤ Ph n (lo W X) := by
  obtain ⟨a, b, ha, hb, hl, e⟩ := h.st
  exact Ph_step ha hb hl fun i _ => e i
/-- what better tells of a choice -/
def Told (W : List Int) (C : List (List Nat)) (X : List Nat) (p : PV) : Prop := F_better [] [tI W, .tup (tC C), tN X] = .ok (.sh p, []) ∧ ((p = .non ∧ Even W.length W C X) ∨ ∃ X', p = tN X' ∧ Step W.length W C X X')
theorem told {W : List Int} {C : List (List Nat)} {X : List Nat} (h : Inp W C) (hX : Ok C X) : ∃ p, Told W C X p := by
  rcases better_ok h hX with ⟨e, ev⟩ | ⟨X', e, st⟩
  · exact ⟨.non, e, .inl ⟨rfl, ev⟩⟩
  · exact ⟨tN X', e, .inr ⟨X', rfl, st⟩⟩
theorem even_whl {W : List Int} {C : List (List Nat)} (h : Inp W C) (a b c : Option LV) : ∀ (k : Nat) (X : List Nat) (p : PV) (f : Nat), Ok C X → Told W C X p → Ph W.length (lo W X) ≤ 4 * k + 3 → k + 1 ≤ f →
    ∃ Y, dWhl WT_even_of_0 W_even_of_0 f (SE W C X a b c (some (.sh p))) = .ok (.nx, SE W C Y a b c (some (.sh .non))) ∧ Ok C Y ∧ Told W C Y .non := by
  intro k
  induction k with
  | zero =>
    intro X p f hX hT hk hf
    cases f with
    | zero => omega
    | succ f =>
      obtain ⟨e, ⟨rfl, ev⟩ | ⟨X', rfl, st⟩⟩ := hT
      · exact ⟨X, whl_f (by simp [WT_even_of_0, SE, isntV, VL.isNon]), hX, e, .inl ⟨rfl, ev⟩⟩
      · have := st.ph
        have := Ph_nn W.length (lo W X')
        omega
  | succ k ih =>
    intro X p f hX hT hk hf
    cases f with
    | zero => omega
    | succ f =>
      obtain ⟨e, ⟨rfl, ev⟩ | ⟨X', rfl, st⟩⟩ := hT
      · exact ⟨X, whl_f (by simp [WT_even_of_0, SE, isntV, VL.isNon]), hX, e, .inl ⟨rfl, ev⟩⟩
      · obtain ⟨p', hT'⟩ := told h st.ok
        have := st.ph
        obtain ⟨Y, e2, hY⟩ := ih X' p' f st.ok hT' (by omega) (by omega)
        refine ⟨Y, ?_, hY⟩
        rw [← e2]
        have e3 := hT'.1
        refine whl_t (s1 := SE W C X a b c (some (.sh (tN X')))) ?_ ?_
        · simp only [SE, tN, tI]
          generalize I (zs X) = x1
          generalize I (zs X') = x2
          simp [WT_even_of_0, isntV, VL.isNon]
        · unfold W_even_of_0
          generalize F_better = Fb at e3 ⊢
          simp only [SE, tN, tI] at e3 ⊢
          generalize I (zs X) = x1
          generalize I (zs X') = x2 at e3 ⊢
          simp [e3]
theorem Ph_le {W : List Int} {C : List (List Nat)} {X : List Nat} (h : Inp W C) (hX : X.length ≤ 20) : Ph W.length (lo W X) ≤ 144002880 := by
  have hn := h.n2
  have h1 : Ph W.length (lo W X) ≤ Sm W.length fun _ => Sm W.length fun _ => 1000020 := Sm_le fun i hi => Sm_le fun j hj => by
    have := lo_bound h hX hi
    have := lo_bound h hX hj
    omega
  rw [Sm_const, Sm_const] at h1
  have h2 : (W.length : Int) * 1000020 ≤ 12 * 1000020 := by omega
  have h3 : (W.length : Int) * ((W.length : Int) * 1000020) ≤ 12 * (12 * 1000020) := Int.mul_le_mul (by omega) h2 (by omega) (by omega)
  omega
/-- a choice that is even, and told so -/
structure Evn (W : List Int) (C : List (List Nat)) (X : List Nat) : Prop where
  ok : Ok C X
  ev : Even W.length W C X
  no : F_better [] [tI W, .tup (tC C), tN X] = .ok (.sh .non, [])
theorem even_of_ok {W : List Int} {C : List (List Nat)} (h : Inp W C) : ∃ X, F_even_of [] [tI W, .tup (tC C)] = .ok (.sh (tN X), []) ∧ Evn W C X := by
  have hcl := h.cl
  obtain ⟨s', e1, Y, a, b, c, es, hY⟩ := forL_inv (g := gTp 2 (gCs (gNm 3) (gCs (gNm 4) gNl))) (body := B_even_of_0) (enumL 0 (tC C)) (fun j s => ∃ Y a b c, s = SE W C Y a b c none ∧ Ok (C.take j) Y) (SE W C [] none none none none) ⟨[], none, none, none, rfl, by rw [List.take_zero]; exact .nil⟩ fun j hj s ⟨Y, a, b, c, es, hY⟩ => by
    subst es
    have hj' : j < C.length := by rw [enumL_len, tC_len] at hj; exact hj
    have ep := enumL_at (tC C) 0 j hj (by rw [tC_len]; exact hj')
    have ei : (tC C)[j]'(by rw [tC_len]; exact hj') = tN C[j] := by simp [tC]
    rw [ei, Nat.zero_add] at ep
    rw [ep]
    obtain ⟨t, b', e1, hY'⟩ := even_turn h hj' hY none c none
    exact ⟨SE W C Y (some (.sh (.int (j : Nat)))) (some (.sh (tN C[j]))) c none, _, rfl, e1, Y ++ [t], _, _, b', rfl, hY'⟩
  subst es
  rw [enumL_len, tC_len, List.take_length] at hY
  obtain ⟨p, hT⟩ := told h hY
  have e2 := hT.1
  have hph := Ph_le (X := Y) h (by have := hY.len; omega)
  have hpn := Ph_nn W.length (lo W Y)
  obtain ⟨X, e3, hX, hT2⟩ := even_whl h a b c (Ph W.length (lo W Y)).toNat Y p 4611686018427387904 hY hT (by omega) (by omega)
  refine ⟨X, ?_, hX, ?_, hT2.1⟩
  · refine fn_rt (s' := SE W C X a b c (some (.sh .non))) ?_
    refine seq_nx (s' := SE W C [] none none none none) (by simp [S_even_of_0, startP, SE, fitN_of, I, zs]) ?_
    refine seq_nx (s' := SE W C Y a b c none) ?_ ?_
    · unfold S_even_of_1
      generalize B_even_of_0 = Bi at e1 ⊢
      simp only [SE, tN, tI] at e1 ⊢
      generalize I (zs []) = x0 at e1 ⊢
      generalize I (zs Y) = x1 at e1 ⊢
      simp [e1]
    refine seq_nx (s' := SE W C Y a b c (some (.sh p))) ?_ ?_
    · unfold S_even_of_2
      generalize F_better = Fb at e2 ⊢
      simp only [SE, tN, tI] at e2 ⊢
      generalize I (zs Y) = x1 at e2 ⊢
      simp [e2]
    refine seq_nx (s' := _) (show S_even_of_3 _ = _ from e3) ?_
    simp only [SE, tN, tI]
    generalize I (zs X) = x1
    show S_even_of_4 _ = _
    simp [S_even_of_4]
  · rcases hT2.2 with ⟨_, ev⟩ | ⟨X', e, _⟩
    · exact ev
    · cases e
theorem even_choice_ok {W : List Int} {C : List (List Nat)} (h : Inp W C) : ∃ X, F_even_choice [] [tI W, .tup (tC C)] = .ok (.sh (tN X), []) ∧ Evn W C X := by
  obtain ⟨X, e2, hX⟩ := even_of_ok h
  have e1 := wear_ok h
  refine ⟨X, ?_, hX⟩
  refine fn_rt (s' := [some (.sh (tI W)), some (.sh (.tup (tC C)))]) ?_
  refine seq_nx (s' := [some (.sh (tI W)), some (.sh (.tup (tC C)))]) ?_ ?_
  · unfold S_even_choice_0
    generalize F_check_wear = F at e1 ⊢
    simp [startP, e1]
  · show S_even_choice_1 _ = _
    unfold S_even_choice_1
    generalize F_even_of = F at e2 ⊢
    simp only [tN, tI] at e2 ⊢
    generalize I (zs X) = x1 at e2 ⊢
    simp [e2]
theorem is_even_ok {W : List Int} {C : List (List Nat)} {X : List Nat} (h : Inp W C) (hX : Evn W C X) : F_is_even [] [tI W, .tup (tC C), tN X] = .ok (.sh (.bl true), []) := by
  have e1 := wear_ok h
  have e2 := choice_ok h hX.ok
  have e3 := hX.no
  refine fn_rt (s' := [some (.sh (tI W)), some (.sh (.tup (tC C))), some (.sh (tN X))]) ?_
  refine seq_nx (s' := [some (.sh (tI W)), some (.sh (.tup (tC C))), some (.sh (tN X))]) ?_ ?_
  · unfold S_is_even_0
    generalize F_check_wear = F at e1 ⊢
    simp [startP, e1]
  · show S_is_even_1 _ = _
    unfold S_is_even_1
    generalize F_is_choice = F at e2 ⊢
    generalize F_better = F' at e3 ⊢
    simp only [tN, tI] at e2 e3 ⊢
    generalize I (zs X) = x1 at e2 e3 ⊢
    simp [e2, e3, isV, VL.isNon]
theorem chain_ok {W : List Int} {C : List (List Nat)} {X : List Nat} {p : PV} (h : Inp W C) (hX : Ok C X) (hT : Told W C X p) : F_chain [] [tI W, .tup (tC C), tN X] = .ok (.sh p, []) := by
  have e1 := wear_ok h
  have e2 := choice_ok h hX
  have e3 := hT.1
  refine fn_rt (s' := [some (.sh (tI W)), some (.sh (.tup (tC C))), some (.sh (tN X))]) ?_
  refine seq_nx (s' := [some (.sh (tI W)), some (.sh (.tup (tC C))), some (.sh (tN X))]) ?_ (seq_nx (s' := [some (.sh (tI W)), some (.sh (.tup (tC C))), some (.sh (tN X))]) ?_ ?_)
  · unfold S_chain_0
    generalize F_check_wear = F at e1 ⊢
    simp [startP, e1]
  · unfold S_chain_1
    generalize F_is_choice = F at e2 ⊢
    simp only [tN, tI] at e2 ⊢
    generalize I (zs X) = x1 at e2 ⊢
    simp [e2]
  · show S_chain_2 _ = _
    unfold S_chain_2
    generalize F_better = F' at e3 ⊢
    simp only [tN, tI] at e3 ⊢
    generalize I (zs X) = x1 at e3 ⊢
    simp [e3]
end LW
/-! P15: lot_for. -/
namespace LW
open PySem PySem.Spec PyProof.Rows L2 VL HD
def maxI (x : Int) (xs : List Int) : Int := xs.foldl (fun m y => if m < y then y else m) x
def maxL : List Int → Int
  | [] => 0
  | x :: xs => maxI x xs
theorem maxI_mem : ∀ (xs : List Int) (x : Int), maxI x xs ∈ x :: xs
  | [], x => by simp [maxI]
  | y :: ys, x => by
    have e : maxI x (y :: ys) = maxI (if x < y then y else x) ys := rfl
    have ih := maxI_mem ys (if x < y then y else x)
    rw [e]
    rcases List.mem_cons.mp ih with h | h
    · rw [h]
      split <;> simp
    · exact List.mem_cons_of_mem _ (List.mem_cons_of_mem _ h)
theorem maxI_le : ∀ (xs : List Int) (x z : Int), maxI x xs ≤ z ↔ ∀ y ∈ x :: xs, y ≤ z
  | [], x, z => by simp [maxI]
  | y :: ys, x, z => by
    have e : maxI x (y :: ys) = maxI (if x < y then y else x) ys := rfl
    rw [e, maxI_le ys]
    simp only [List.mem_cons, forall_eq_or_imp]
    by_cases h : x < y
    · rw [if_pos h]; constructor
      · rintro ⟨a, b⟩; exact ⟨by omega, a, b⟩
      · rintro ⟨_, a, b⟩; exact ⟨a, b⟩
    · rw [if_neg h]; constructor
      · rintro ⟨a, b⟩; exact ⟨a, by omega, b⟩
      · rintro ⟨a, _, b⟩; exact ⟨a, b⟩
theorem maxL_mem {l : List Int} (h : l ≠ []) : maxL l ∈ l := by
  cases l with
  | nil => exact absurd rfl h
  | cons x xs => exact maxI_mem xs x
theorem maxL_ge {l : List Int} {y : Int} (h : y ∈ l) : y ≤ maxL l := by
  cases l with
  | nil => cases h
  | cons x xs => exact (maxI_le xs x _).mp (Int.le_refl _) y h
theorem maxB_I : ∀ (xs : List Int) (x : Int), maxB (.int x) (I xs) = .int (maxI x xs)
  | [], x => rfl
  | y :: ys, x => by
    show maxB (if ltB (.int x) (.int y) then .int y else .int x) (I ys) = _
    rw [ltB_int]
    show _ = PV.int (maxI (if x < y then y else x) ys)
    rw [← maxB_I ys]
    by_cases h : x < y <;> simp [h]
theorem max_it {p : PV} {xs : List Int} (hp : itemsV p = some (I xs)) (h : xs ≠ []) : maxV p = .ok (.int (maxL xs)) := by
  cases xs with
  | nil => exact absurd rfl h
  | cons x xs =>
    have h1 : cmpOkL (I (x :: xs)) = true := by
      unfold cmpOkL
      have a1 : (I (x :: xs)).all okD = true := by rw [List.all_eq_true]; intro p hp; obtain ⟨i, _, rfl⟩ := List.mem_map.mp hp; exact okD_int i
      have a2 : (I (x :: xs)).all (fun p => !VL.isNon p) = true := by rw [List.all_eq_true]; intro p hp; obtain ⟨i, _, rfl⟩ := List.mem_map.mp hp; rfl
      have a3 : ((I (x :: xs)).all fun p => (I (x :: xs)).all fun q => PySem.W.alike p.toD q.toD) = true := by
        simp only [List.all_eq_true]
        intro p hp q hq
        obtain ⟨i, _, rfl⟩ := List.mem_map.mp hp
        obtain ⟨j, _, rfl⟩ := List.mem_map.mp hq
        exact alike_int i j
      rw [a1, a2, a3]; rfl
    unfold maxV
    rw [hp]
    simp only [optR_some, Res.bind_ok]
    show (if cmpOkL (I (x :: xs)) then Res.ok (maxB (.int x) (I xs)) else .bad) = _
    rw [h1, maxB_I]; rfl
theorem idxI_has {n : Int} : ∀ {ns : List Int}, n ∈ ns → ∃ j, idxI n (I ns) = some j
  | [], h => by cases h
  | a :: ns, h => by
    show ∃ j, (if a = n then some 0 else (idxI n (I ns)).map (· + 1)) = some j
    by_cases e : a = n
    · exact ⟨0, if_pos e⟩
    · obtain ⟨j, hj⟩ := idxI_has (n := n) (ns := ns) ((List.mem_cons.mp h).resolve_left fun z => e z.symm)
      exact ⟨j + 1, by rw [if_neg e, hj]; rfl⟩
/-- the asks on some tapes -/
def lotA (T : Nat → Bool) : Nat → List Nat → List Nat
  | _, [] => []
  | k, x :: xs => if T x = true then k :: lotA T (k + 1) xs else lotA T (k + 1) xs
theorem lotA_len (T : Nat → Bool) : ∀ (X : List Nat) (k : Nat), (lotA T k X).length = X.countP T
  | [], _ => rfl
  | x :: xs, k => by
    have ih := lotA_len T xs (k + 1)
    unfold lotA
    rw [List.countP_cons]
    split
    · simp [ih]
    · simp [ih]
theorem lotA_mem {T : Nat → Bool} {a : Nat} : ∀ {X : List Nat} {k : Nat}, a ∈ lotA T k X ↔ ∃ i u, X[i]? = some u ∧ T u = true ∧ a = k + i
  | [], k => by simp [lotA]
  | x :: xs, k => by
    have ih := lotA_mem (T := T) (a := a) (X := xs) (k := k + 1)
    unfold lotA
    constructor
    · intro h
      split at h
      · rename_i hx
        rcases List.mem_cons.mp h with rfl | h
        · exact ⟨0, x, rfl, hx, rfl⟩
        · obtain ⟨i, u, e, hu, hk⟩ := ih.mp h
          exact ⟨i + 1, u, by simpa using e, hu, by omega⟩
      · obtain ⟨i, u, e, hu, hk⟩ := ih.mp h
        exact ⟨i + 1, u, by simpa using e, hu, by omega⟩
    · rintro ⟨i, u, e, hu, hk⟩
      cases i with
      | zero =>
        simp at e
        subst e
        rw [if_pos hu]
        exact List.mem_cons.mpr (.inl (by omega))
      | succ i =>
        have := ih.mpr ⟨i, u, by simpa using e, hu, by omega⟩
        split
        · exact List.mem_cons_of_mem _ this
        · exact this
theorem lotA_asc (T : Nat → Bool) : ∀ (X : List Nat) (k : Nat), (lotA T k X).Pairwise (· < ·)
  | [], _ => List.Pairwise.nil
  | x :: xs, k => by
    have ih := lotA_asc T xs (k + 1)
    unfold lotA
    split
    · refine List.pairwise_cons.mpr ⟨fun a ha => ?_, ih⟩
      obtain ⟨i, u, _, _, e⟩ := lotA_mem.mp ha
      omega
    · exact ih
def cP (T : Nat → Bool) : PV → Bool
  | .tup [_, .int t] => T t.toNat
  | _ => false
def fP : PV → PV
  | .tup (x :: _) => x
  | _ => .non
theorem lotA_run (T : Nat → Bool) : ∀ (X : List Nat) (k : Nat), ((enumL k (I (zs X))).filter (cP T)).map fP = I (zs (lotA T k X))
  | [], _ => rfl
  | x :: xs, k => by
    have ih := lotA_run T xs (k + 1)
    have e : enumL k (I (zs (x :: xs))) = .tup [.int (k : Nat), .int (x : Nat)] :: enumL (k + 1) (I (zs xs)) := rfl
    rw [e, List.filter_cons]
    have ec : cP T (.tup [.int (k : Nat), .int (x : Nat)]) = T x := by simp [cP]
    rw [ec]
    unfold lotA
    split
    · rw [List.map_cons, ih]; rfl
    · exact ih
theorem enum_mem {X : List Nat} : ∀ {k : Nat} {p : PV}, p ∈ enumL k (I (zs X)) → ∃ a x : Nat, p = .tup [.int (a : Nat), .int (x : Nat)] ∧ x ∈ X := by
  induction X with
  | nil => intro k p h; simp [I, zs, enumL] at h
  | cons x xs ih =>
    intro k p h
    rcases List.mem_cons.mp (show p ∈ PV.tup [.int (k : Nat), .int (x : Nat)] :: enumL (k + 1) (I (zs xs)) from h) with rfl | h
    · exact ⟨k, x, rfl, by simp⟩
    · obtain ⟨a, y, e, hy⟩ := ih h
      exact ⟨a, y, e, List.mem_cons_of_mem _ hy⟩
/-- a lot that needs so much -/
structure Need (W : List Int) (C : List (List Nat)) (L : List Nat) (m : Int) : Prop where
  lot : Lot C L
  ne : L ≠ []
  up : (L.length : Int) ≤ Fu W (tapesOf C L) m
  lo : Fu W (tapesOf C L) (m - 1) < L.length
theorem lds_mem {n : Nat} {W : List Int} {X : List Nat} {x : Int} : x ∈ lds n W X ↔ ∃ t, t < n ∧ lo W X t = x := by
  unfold lds
  simp [List.mem_map]
theorem lot_for_ok {W : List Int} {C : List (List Nat)} {X : List Nat} (h : Inp W C) (hX : Evn W C X) :
    ∃ L, F_lot_for [] [tI W, .tup (tC C), tN X] = .ok (.sh (tN L), []) ∧ ((L = [] ∧ maxL (lds W.length W X) = maxL W) ∨ Need W C L (maxL (lds W.length W X))) := by
  have hn1 := h.n1
  have hn := h.n2
  have hcl := h.cl
  have hXl := hX.ok.lt h.lt
  have hlen := hX.ok.len
  have e1 := loads_ok (W := W) (X := X) (by omega) hXl
  have hW0 : W ≠ [] := fun z => by rw [z] at hn1; simp at hn1
  have hL0 : lds W.length W X ≠ [] := fun z => by have := congrArg List.length z; rw [lds_len, List.length_nil] at this; omega
  have m1 := max_it (p := .lst (I (lds W.length W X))) rfl hL0
  have m2 := max_it (p := tI W) (xs := W) rfl hW0
  let s3 : PSt := [some (.sh (tI W)), some (.sh (.tup (tC C))), some (.sh (tN X)), some (.sh (.lst (I (lds W.length W X)))), none, none, none]
  have st0 : S_lot_for_0 (startP false 7 [] [tI W, .tup (tC C), tN X]) = .ok (.nx, s3) := by
    unfold S_lot_for_0
    generalize F_loads = F at e1 ⊢
    simp only [s3, tN, tI] at e1 ⊢
    generalize I (lds W.length W X) = ld at e1 ⊢
    simp [startP, e1]
  have hq := eq_int (maxL (lds W.length W X)) (maxL W)
  by_cases em : maxL (lds W.length W X) = maxL W
  · refine ⟨[], ?_, .inl ⟨rfl, em⟩⟩
    rw [decide_eq_true em] at hq
    refine fn_rt (s' := s3) ?_
    refine seq_nx st0 ?_
    refine seq_rt ?_
    unfold S_lot_for_1
    simp only [s3, tN, tI] at m1 m2 ⊢
    generalize maxL (lds W.length W X) = v1 at m1 hq
    generalize maxL W = v2 at m2 hq
    generalize I (lds W.length W X) = ld at m1 ⊢
    rw [show I (zs []) = [] from rfl]
    simp [m1, m2, hq, fitN_of]
  · obtain ⟨t0, ht0, elo⟩ := lds_mem.mp (maxL_mem hL0)
    have hlow : ∀ i, i < W.length → W.getD i 0 ≤ maxL W := fun i hi => by
      rw [List.getD_eq_getElem?_getD, List.getElem?_eq_getElem hi]
      exact maxL_ge (List.getElem_mem hi)
    have hge : ∀ i, i < W.length → lo W X i ≤ maxL (lds W.length W X) := fun i hi => maxL_ge (lds_mem.mpr ⟨i, hi, rfl⟩)
    have hgt : maxL W < maxL (lds W.length W X) := by
      obtain ⟨i, hi, e⟩ := List.getElem_of_mem (maxL_mem hW0)
      have := hge i hi
      have e2 : W.getD i 0 = maxL W := by rw [List.getD_eq_getElem?_getD, List.getElem?_eq_getElem hi]; exact e
      unfold lo at this
      rw [e2] at this
      omega
    obtain ⟨j, hj⟩ := idxI_has (maxL_mem hL0)
    obtain ⟨hj1, _⟩ := idxI_at hj
    have hjn : j < W.length := by have := (List.getElem?_eq_some_iff.mp hj1).1; rw [lds_len] at this; exact this
    have hjlo : lo W X j = maxL (lds W.length W X) := by
      obtain ⟨k1, k2⟩ := List.getElem?_eq_some_iff.mp hj1
      rw [← k2, lds_get]
    obtain ⟨K, rc, e3⟩ := reached_ok hn h.lt hlen hXl hjn
    obtain ⟨D, gd⟩ := rc.gd
    let T : Nat → Bool := fun t => decide (t ∈ ks K)
    have hl := lotA_len T X 0
    -- what is come to is not less worn but by one
    obtain ⟨T', hT0, hTc, hTl⟩ := hX.ev.ev j hjn
    have hKT : ∀ (i : Nat) (e : KE), K[i]? = some e → T' e.1 := by
      intro i
      induction i using Nat.strongRecOn with
      | _ i ih =>
        intro e hi
        obtain ⟨o, x⟩ := e
        cases x with
        | none =>
          have := gd.ro i o hi
          subst this
          have := gd.hd
          rw [hi] at this
          cases this
          exact hT0
        | some ah =>
          obtain ⟨a, hh⟩ := ah
          obtain ⟨⟨q, hq, eq⟩, hXa, c, hCa, ho⟩ := gd.ch i o a hh hi
          have : ∃ y, K[q]? = some (hh, y) := by
            unfold ks at eq
            rw [List.getElem?_map] at eq
            cases e : K[q]? with
            | none => rw [e] at eq; cases eq
            | some y => rw [e] at eq; cases eq; exact ⟨y.2, rfl⟩
          obtain ⟨y, ey⟩ := this
          have hTh := ih q hq (hh, y) ey
          have hz : (c, hh) ∈ C.zip X := by
            refine List.mem_of_getElem? (i := a) ?_
            rw [List.getElem?_zip_eq_some]
            exact ⟨hCa, hXa⟩
          exact hTc (c, hh) hz hTh o ho
    have hclo : ∀ p ∈ C.zip X, T p.2 = true → ∀ o ∈ p.1, T o = true := fun p hp hT o ho => by
      obtain ⟨a, hCa, hXa⟩ := zip_get hp
      exact decide_eq_true (rc.cl p.2 (of_decide_eq_true hT) a p.1 hXa hCa o ho)
    have hTj : T j = true := decide_eq_true (List.mem_map.mpr ⟨(j, none), List.mem_of_getElem? gd.hd, rfl⟩)
    have rm := room (U := tapesOf C (lotA T 0 X)) (m := maxL (lds W.length W X)) h.lt hX.ok hclo hge (fun o ho hT => by
      obtain ⟨e, he, rfl⟩ := List.mem_map.mp (of_decide_eq_true hT)
      obtain ⟨i, hi, ei⟩ := List.getElem_of_mem he
      have := hTl e.1 (hKT i e (by rw [List.getElem?_eq_getElem hi, ei])) ho
      omega) hjn hTj hjlo (fun i hi => by have := hlow i hi; omega) (tapes_nd List.nodup_nil) (fun t => by
      refine (tapes_mem (L := lotA T 0 X) (V := [])).trans ?_
      constructor
      · rintro (z | ⟨a, ha, hc⟩)
        · cases z
        · obtain ⟨i, u, e, hu, hk⟩ := lotA_mem.mp ha
          obtain rfl : a = i := by omega
          have hi : a < C.length := by rw [← hlen]; exact (List.getElem?_eq_some_iff.mp e).1
          refine ⟨(C.getD a [], u), List.mem_of_getElem? (i := a) ?_, hu, hc⟩
          rw [List.getElem?_zip_eq_some]
          refine ⟨?_, e⟩
          rw [List.getD_eq_getElem?_getD, List.getElem?_eq_getElem hi]; rfl
      · rintro ⟨p, hp, hu, hc⟩
        obtain ⟨a, hCa, hXa⟩ := zip_get hp
        refine .inr ⟨a, lotA_mem.mpr ⟨a, p.2, hXa, hu, by omega⟩, ?_⟩
        rw [List.getD_eq_getElem?_getD, hCa]
        exact hc)
    rw [← hl] at rm
    refine ⟨lotA T 0 X, ?_, .inr ⟨⟨lotA_asc T X 0, fun a ha => ?_⟩, fun z => ?_, rm.1, rm.2⟩⟩
    · rw [decide_eq_false em] at hq
      have hsum := lotA_run T X 0
      let s4 : PSt := [some (.sh (tI W)), some (.sh (.tup (tC C))), some (.sh (tN X)), some (.sh (.lst (I (lds W.length W X)))), some (.sh (.dct (kN (ks K)) (vK K))), none, none]
      have lc := lc_filter (vs := [5, 6]) (g := gTp 2 (gCs (gNm 5) (gCs (gNm 6) gNl))) (t := T_lot_for_0) (e := E_lot_for_0) (cP T) fP s4 (enumL 0 (I (zs X))) [] (by rw [List.length_nil, enumL_len, I_len, zs_len]; omega) (fun p hp => by
        obtain ⟨a, x, rfl, hx⟩ := enum_mem hp
        have hk := kHas_N x (ks K)
        have ec : cP T (.tup [.int (a : Nat), .int (x : Nat)]) = decide (x ∈ ks K) := by simp [cP, T]
        let s5 : PSt := [some (.sh (tI W)), some (.sh (.tup (tC C))), some (.sh (tN X)), some (.sh (.lst (I (lds W.length W X)))), some (.sh (.dct (kN (ks K)) (vK K))), some (.sh (.int (a : Nat))), some (.sh (.int (x : Nat)))]
        refine ⟨s5, s5, rfl, ?_, fun _ => ⟨s5, ?_, rfl⟩, fun _ => rfl⟩
        · rw [ec, ← hk]
          simp only [s5]
          generalize kN (ks K) = k1
          generalize vK K = v1
          generalize I (lds W.length W X) = ld
          simp [T_lot_for_0]
        · simp only [s5]
          generalize kN (ks K) = k1
          generalize vK K = v1
          generalize I (lds W.length W X) = ld
          simp [E_lot_for_0, fP])
      rw [hsum, List.nil_append] at lc
      refine fn_rt (s' := s4) ?_
      refine seq_nx st0 ?_
      refine seq_nx (s' := s3) ?_ ?_
      · unfold S_lot_for_1
        simp only [s3, tN, tI] at m1 m2 ⊢
        generalize maxL (lds W.length W X) = v1 at m1 hq
        generalize maxL W = v2 at m2 hq
        generalize I (lds W.length W X) = ld at m1 ⊢
        simp [m1, m2, hq]
      refine seq_nx (s' := s4) ?_ ?_
      · unfold S_lot_for_2
        have hai := allInt_I (lds W.length W X)
        have hix : idxV (I (lds W.length W X)) (.int (maxL (lds W.length W X))) = .ok (.int (j : Nat)) := by
          unfold idxV
          dsimp only
          rw [hai, hj]; rfl
        generalize F_reached = F at e3 ⊢
        simp only [s3, s4, tN, tI] at m1 e3 ⊢
        generalize maxL (lds W.length W X) = v1 at m1 hix
        generalize I (lds W.length W X) = ld at m1 hix ⊢
        generalize kN (ks K) = k1 at e3 ⊢
        generalize vK K = v2 at e3 ⊢
        simp [shL, m1, hix, e3]
      · show S_lot_for_3 _ = _
        unfold S_lot_for_3
        generalize T_lot_for_0 = T1 at lc ⊢
        generalize E_lot_for_0 = E1 at lc ⊢
        simp only [s4, tN, tI] at lc ⊢
        generalize I (zs (lotA T 0 X)) = lz at lc ⊢
        generalize I (lds W.length W X) = ld at lc ⊢
        generalize kN (ks K) = k1 at lc ⊢
        generalize vK K = v2 at lc ⊢
        simp [wipeP, lc, backP, shP]
    · obtain ⟨i, u, e, _, hk⟩ := lotA_mem.mp ha
      have := (List.getElem?_eq_some_iff.mp e).1
      omega
    · rw [z] at rm
      have h2 := rm.2
      have : 0 ≤ Fu W (tapesOf C []) (maxL (lds W.length W X) - 1) := by
        show (0 : Int) ≤ 0
        omega
      simp only [List.length_nil] at h2
      omega
end LW
/-! P16: least_wear, shows_least. -/
namespace LW
open PySem PySem.Spec PyProof.Rows L2 VL HD
/-- what least_wear tells -/
structure LW3 (W : List Int) (C : List (List Nat)) (m : Int) (X L : List Nat) : Prop where
  ev : Evn W C X
  em : m = maxL (lds W.length W X)
  pap : (L = [] ∧ m = maxL W) ∨ Need W C L m
theorem LW3.least {W : List Int} {C : List (List Nat)} {m : Int} {X L : List Nat} (h : Inp W C) (l : LW3 W C m X L) : Least W.length W C m := by
  have hn1 := h.n1
  have hL0 : lds W.length W X ≠ [] := fun z => by have := congrArg List.length z; rw [lds_len, List.length_nil] at this; omega
  obtain ⟨t0, ht0, elo⟩ := lds_mem.mp (maxL_mem hL0)
  rw [← l.em] at elo
  exact even_max l.ev.ev h.lt l.ev.ok (fun i hi => by rw [l.em]; exact maxL_ge (lds_mem.mpr ⟨i, hi, rfl⟩)) ht0 elo
theorem LW3.bound {W : List Int} {C : List (List Nat)} {m : Int} {X L : List Nat} (h : Inp W C) (l : LW3 W C m X L) : 0 ≤ m ∧ m ≤ 1000020 := by
  have hn1 := h.n1
  have hL0 : lds W.length W X ≠ [] := fun z => by have := congrArg List.length z; rw [lds_len, List.length_nil] at this; omega
  obtain ⟨t0, ht0, elo⟩ := lds_mem.mp (maxL_mem hL0)
  rw [← l.em] at elo
  have hcl := h.cl
  have hlen := l.ev.ok.len
  have := lo_bound (Y := X) h (by omega) ht0
  omega
theorem least_wear_ok {W : List Int} {C : List (List Nat)} (h : Inp W C) : ∃ m X L, F_least_wear [] [tI W, .tup (tC C)] = .ok (.sh (.tup [.int m, tN X, tN L]), []) ∧ LW3 W C m X L := by
  have hn1 := h.n1
  have hn := h.n2
  obtain ⟨X, e1, hX⟩ := even_choice_ok h
  obtain ⟨L, e2, hL⟩ := lot_for_ok h hX
  have e3 := loads_ok (W := W) (X := X) (by omega) (hX.ok.lt h.lt)
  have hL0 : lds W.length W X ≠ [] := fun z => by have := congrArg List.length z; rw [lds_len, List.length_nil] at this; omega
  have m1 := max_it (p := .lst (I (lds W.length W X))) rfl hL0
  refine ⟨maxL (lds W.length W X), X, L, ?_, hX, rfl, hL⟩
  refine fn_rt (s' := [some (.sh (tI W)), some (.sh (.tup (tC C))), some (.sh (tN X))]) ?_
  refine seq_nx (s' := [some (.sh (tI W)), some (.sh (.tup (tC C))), some (.sh (tN X))]) ?_ ?_
  · unfold S_least_wear_0
    generalize F_even_choice = F at e1 ⊢
    simp only [tN, tI] at e1 ⊢
    generalize I (zs X) = x1 at e1 ⊢
    simp [startP, e1]
  · show S_least_wear_1 _ = _
    unfold S_least_wear_1
    generalize F_loads = F at e3 ⊢
    generalize F_lot_for = F' at e2 ⊢
    simp only [tN, tI] at e2 e3 ⊢
    generalize maxL (lds W.length W X) = v1 at m1 ⊢
    generalize I (lds W.length W X) = ld at m1 e3 ⊢
    generalize I (zs X) = x1 at e2 e3 ⊢
    generalize I (zs L) = l1 at e2 ⊢
    simp [e2, e3, m1, fitN_of]
theorem eq_nilT (A : List Int) (hl : A.length ≤ 1000) (h : ∀ a ∈ A, -10000000 ≤ a ∧ a ≤ 10000000) : eqV' (tI A) (.tup []) = .ok (.bl A.isEmpty) := by
  have o1 : okD (tI A) = true := (vIs (m := 1000) (d := 0) hl h).okD (by omega)
  have o2 : okD (.tup []) = true := (vIs (m := 1000) (d := 0) (is := []) (by simp) (by simp)).okD (by omega)
  unfold eqV'
  rw [o1, o2]
  cases A with
  | nil => rfl
  | cons a as => rfl
theorem ne_nilT (A : List Int) (hl : A.length ≤ 1000) (h : ∀ a ∈ A, -10000000 ≤ a ∧ a ≤ 10000000) : neV (tI A) (.tup []) = .ok (.bl (!A.isEmpty)) := by
  have o1 : okD (tI A) = true := (vIs (m := 1000) (d := 0) hl h).okD (by omega)
  have o2 : okD (.tup []) = true := (vIs (m := 1000) (d := 0) (is := []) (by simp) (by simp)).okD (by omega)
  unfold neV
  rw [o1, o2]
  cases A with
  | nil => rfl
  | cons a as => rfl
theorem LW3.lot {W : List Int} {C : List (List Nat)} {m : Int} {X L : List Nat} (l : LW3 W C m X L) : Lot C L := by
  rcases l.pap with ⟨rfl, _⟩ | h
  · exact ⟨List.Pairwise.nil, fun a ha => by cases ha⟩
  · exact h.lot
theorem shows_ok {W : List Int} {C : List (List Nat)} {m : Int} {X L : List Nat} (h : Inp W C) (l : LW3 W C m X L) : F_shows_least [] [tI W, .tup (tC C), .tup [.int m, tN X, tN L]] = .ok (.sh (.bl true), []) := by
  have hn1 := h.n1
  have hn := h.n2
  have hcl := h.cl
  have hb := l.bound h
  have hX := l.ev.ok
  have hXl := hX.lt h.lt
  have hlen := hX.len
  have hlot := l.lot
  have hll := hlot.len
  have e0 := wear_ok h
  have hLs : ∀ i ∈ zs L, -10000000 ≤ i ∧ i ≤ 10000000 := fun i hi => by obtain ⟨t, ht, rfl⟩ := zs_mem hi; have := hlot.lt t ht; omega
  have vv : Vok 1000 2 (.tup [.int m, tN X, tN L]) := .tup (by simp) fun p hp => by
    simp at hp
    rcases hp with rfl | rfl | rfl
    · exact vi (by omega) (by omega)
    · exact vNs (by omega) fun t ht => by have := hXl t ht; omega
    · exact vNs (by omega) fun t ht => by have := hlot.lt t ht; omega
  have e1 : F_is_tuple [] [.tup [.int m, tN X, tN L], .int 3, .int 3] = .ok (.sh (.bl true), []) := by
    rw [ft vv 3 3]
    have : isTu (.tup [.int m, tN X, tN L]) 3 3 = true := by simp [isTu]
    rw [this]
  have e2 := fiI (i := m) (a := 0) (b := 2000000) (by omega) (by omega) (by omega) (by omega)
  have hmul : mulV (.int 2) (.int 1000000) = .ok (.int 2000000) := v_mul (by decide) (by decide)
  have e3 := choice_ok h hX
  have e4 := loads_ok (W := W) (X := X) (by omega) hXl
  have hL0 : lds W.length W X ≠ [] := fun z => by have := congrArg List.length z; rw [lds_len, List.length_nil] at this; omega
  have hW0 : W ≠ [] := fun z => by rw [z] at hn1; simp at hn1
  have m1 := max_it (p := .lst (I (lds W.length W X))) rfl hL0
  rw [← l.em] at m1
  have m2 := max_it (p := tI W) (xs := W) rfl hW0
  have hne := ne_int m m
  rw [decide_eq_true rfl] at hne
  have e5 := ftI (is := zs L) (a := 0) (b := C.length) hLs (by rw [zs_len]; omega) (by rw [zs_len]; omega) (by rw [zs_len]; omega)
  have e6 := rising_ok (zs_asc hlot.asc) (by rw [zs_len]; omega)
  have e7 := eq_nilT (zs L) (by rw [zs_len]; omega) hLs
  let s1 : PSt := [some (.sh (tI W)), some (.sh (.tup (tC C))), some (.sh (.tup [.int m, tN X, tN L])), none, none, none, none]
  let s2 : PSt := [some (.sh (tI W)), some (.sh (.tup (tC C))), some (.sh (.tup [.int m, tN X, tN L])), some (.sh (.int m)), some (.sh (tN X)), some (.sh (tN L)), none]
  obtain ⟨bs, lc, ha⟩ := all_is (ps := I (zs L)) 6 s2 E_shows_least_0 (by rw [I_len, zs_len]; omega) rfl (fun p hp => by
    obtain ⟨i, hi, rfl⟩ := List.mem_map.mp hp
    obtain ⟨t, ht, rfl⟩ := zs_mem hi
    have := hlot.lt t ht
    have e := fiI (i := (t : Nat)) (a := 0) (b := (C.length : Int) - 1) (by omega) (by omega) (by omega) (by omega)
    unfold E_shows_least_0
    generalize F_is_integer = Fi at e ⊢
    simp only [s2, tN, tI]
    generalize I (zs X) = x1
    generalize I (zs L) = l1
    simp [tC_len, e])
  refine fn_rt (s' := s2) ?_
  refine seq_nx (s' := s1) ?_ ?_
  · unfold S_shows_least_0
    generalize F_check_wear = F at e0 ⊢
    simp only [s1, tN, tI]
    generalize I (zs X) = x1
    generalize I (zs L) = l1
    simp [startP, e0]
  refine seq_nx (s' := s1) ?_ ?_
  · unfold S_shows_least_1
    generalize F_is_tuple = F at e1 ⊢
    generalize F_is_integer = F' at e2 ⊢
    simp only [s1, tN, tI] at e1 ⊢
    generalize I (zs X) = x1 at e1 ⊢
    generalize I (zs L) = l1 at e1 ⊢
    have hat : atI [PV.int m, PV.tup x1, PV.tup l1] 0 = some (.int m) := atI_nat (j := 0) rfl
    simp [e1, hat, hmul, e2]
  refine seq_nx (s' := s2) ?_ ?_
  · simp only [s1, s2, tN, tI]
    generalize I (zs X) = x1
    generalize I (zs L) = l1
    simp [S_shows_least_2]
  refine seq_nx (s' := s2) ?_ ?_
  · unfold S_shows_least_3
    generalize F_is_choice = F at e3 ⊢
    generalize F_loads = F' at e4 ⊢
    simp only [s2, tN, tI] at e3 e4 ⊢
    generalize I (lds W.length W X) = ld at m1 e4
    generalize I (zs X) = x1 at e3 e4 ⊢
    generalize I (zs L) = l1
    simp [e3, e4, m1, hne]
  refine seq_nx (s' := s2) ?_ ?_
  · unfold S_shows_least_4
    generalize F_is_tuple = F at e5 ⊢
    generalize E_shows_least_0 = E at lc ⊢
    simp only [s2, tN, tI] at lc e5 ⊢
    generalize I (zs X) = x1 at lc ⊢
    generalize I (zs L) = l1 at lc e5 ⊢
    simp [tC_len, e5, wipeP, lc, backP, shP, ha]
  refine seq_nx (s' := s2) ?_ ?_
  · unfold S_shows_least_5
    generalize F_is_rising = F at e6 ⊢
    simp only [s2, tN, tI] at e6 ⊢
    generalize I (zs X) = x1
    generalize I (zs L) = l1 at e6 ⊢
    simp [e6]
  have hee := eq_int m m
  rw [decide_eq_true rfl] at hee
  show S_shows_least_6 _ = _
  unfold S_shows_least_6
  rcases l.pap with ⟨hL, hm⟩ | hN
  · have : (zs L).isEmpty = true := by rw [hL]; rfl
    rw [this] at e7
    rw [← hm] at m2
    generalize F_asks_for = F
    simp only [s2, tN, tI] at e7 m2 ⊢
    generalize I (zs X) = x1
    generalize I (zs L) = l1 at e7 ⊢
    simp [fitN_of, e7, m2, hee]
  · have : (zs L).isEmpty = false := by
      cases hL : L with
      | nil => exact absurd hL hN.ne
      | cons _ _ => rfl
    rw [this] at e7
    have e8 := asks_ok h hN.lot hN.ne hN.up hN.lo (by omega)
    generalize F_asks_for = F at e8 ⊢
    simp only [s2, tN, tI] at e7 e8 ⊢
    generalize I (zs X) = x1
    generalize I (zs L) = l1 at e7 e8 ⊢
    simp [fitN_of, e7, e8, hee]
end LW
/-! P17: what is drawn. -/
namespace LW
open PySem PySem.Spec PyProof.Rows L2 VL HD
theorem hT : TakeOk F__law_take := takeOk (c1 := 94868) (c2 := 700) (c3 := 10259) (c4 := 122) (m := 2305843009213693907) (c5 := 152) ⟨by decide, by decide, by decide, by decide, by decide, by decide⟩
theorem hO : OfOk F__law_of := ofOk hT
theorem range_zs (n : Nat) : rangeL 0 n = I (zs (List.range n)) := by
  unfold rangeL I zs
  rw [List.map_map]
  exact List.map_congr_left fun i _ => by simp
theorem era_map {α β : Type} (f : α → β) : ∀ (l : List α) (n : Nat), (l.map f).eraseIdx n = (l.eraseIdx n).map f
  | [], _ => rfl
  | _ :: _, 0 => rfl
  | a :: l, n + 1 => by
    rw [List.map_cons, List.eraseIdx_cons_succ, List.eraseIdx_cons_succ, List.map_cons, era_map f l n]
theorem era_perm {α : Type} : ∀ (l : List α) (n : Nat) (h : n < l.length), (l[n] :: l.eraseIdx n).Perm l
  | [], _, h => absurd h (by simp)
  | _ :: _, 0, _ => List.Perm.refl _
  | a :: l, n + 1, h => by
    have := era_perm l n (by simp at h; omega)
    rw [List.eraseIdx_cons_succ, List.getElem_cons_succ]
    exact (List.Perm.swap _ _ _).trans (List.Perm.cons a this)
theorem some_ok {P : List Nat} {m k : Nat} (hm : m ≤ P.length) (hP : P.length ≤ 100) (hk : k ≤ 900000) {q : List PV} (hq : Pot k q) :
    ∃ F q', F__law_some q [.lst (I (zs P)), .int (m : Nat)] = .ok (.sh (.lst (I (zs F))), q') ∧ F.length = m ∧ (∃ R, (F ++ R).Perm P) ∧ Pot (k + m) q' := by
  let S : List PV → List Nat → List Nat → Option LV → PSt := fun q R F o => [some (.po (.lst q)), some (.sh (.lst (I (zs P)))), some (.sh (.int (m : Nat))), some (.ow (.lst (I (zs R)))), some (.ow (.lst (I (zs F)))), o]
  obtain ⟨s', e1, q', F, R, o, es, hl, hp, pq⟩ := forL_inv (g := gNm 5) (body := B__law_some_0) (rangeL 0 m) (fun j s => ∃ q F R o, s = S q R F o ∧ F.length = j ∧ (F ++ R).Perm P ∧ Pot (k + j) q) (S q P [] none) ⟨q, [], P, none, rfl, rfl, List.Perm.refl _, hq⟩ fun j hj s ⟨q, F, R, o, es, hl, hp, pq⟩ => by
    subst es
    rw [rangeL_len] at hj
    rw [rangeL_get, Int.zero_add]
    have hlen := hp.length_eq
    rw [List.length_append] at hlen
    obtain ⟨d, q', e1, hd, pq'⟩ := hT (k + j) (by omega) q pq (R.length : Nat) (by omega) (by omega)
    obtain ⟨n, rfl⟩ := Int.eq_ofNat_of_zero_le hd.1
    have hn : n < R.length := by omega
    refine ⟨S q R F (some (.sh (.int (j : Nat)))), S q' (R.eraseIdx n) (F ++ [R[n]]) (some (.sh (.int (j : Nat)))), rfl, ?_, q', F ++ [R[n]], R.eraseIdx n, some (.sh (.int (j : Nat))), rfl, by simp [hl], ?_, by rw [show k + (j + 1) = k + j + 1 by omega]; exact pq'⟩
    · have hg : (I (zs R))[n]? = some (.int (R[n] : Nat)) := by
        unfold I zs
        rw [List.getElem?_map, List.getElem?_map, List.getElem?_eq_getElem hn]
        rfl
      have he : (I (zs R)).eraseIdx n = I (zs (R.eraseIdx n)) := by
        unfold I zs
        rw [era_map, era_map]
      have ha : I (zs F) ++ [PV.int (R[n] : Nat)] = I (zs (F ++ [R[n]])) := by simp [I, zs]
      have hf : fitN ((I (zs F)).length + 1) = true := fitN_of (by rw [I_len, zs_len]; omega)
      have hf2 : fitsL (I (zs R)).length = true := Nat.ble_eq_true_of_le (by rw [I_len, zs_len]; omega)
      have hll : (I (zs R)).length = R.length := by rw [I_len, zs_len]
      have e1' : F__law_take q [.int ((I (zs R)).length : Nat)] = .ok (.sh (.int ((n : Nat) : Int)), q') := by rw [hll]; exact e1
      unfold B__law_some_0
      generalize F__law_take = FT at e1' ⊢
      simp only [S]
      generalize I (zs (F ++ [R[n]])) = f2 at ha ⊢
      generalize I (zs F) = f1 at ha hf ⊢
      generalize I (zs (R.eraseIdx n)) = r2 at he ⊢
      generalize I (zs R) = r1 at hg he hf2 e1' ⊢
      simp [owA, owL, e1', hf2, hg, he, hf, ha]
    · rw [List.append_assoc]
      refine List.Perm.trans (List.Perm.append_left F ?_) hp
      exact era_perm R n hn
  rw [rangeL_len] at hl pq
  subst es
  refine ⟨F, q', ?_, hl, ⟨R, hp⟩, pq⟩
  refine fn_io (s' := [some (.po (.lst q')), some (.sh (.lst (I (zs P)))), some (.sh (.int (m : Nat))), some (.ow (.lst (I (zs R)))), some (.sh (.lst (I (zs F)))), o]) ?_ rfl
  refine seq_nx (s' := S q P [] none) ?_ (seq_nx (s' := S q' R F o) ?_ ?_)
  · simp only [S]
    rw [show I (zs []) = [] from rfl]
    generalize I (zs P) = p1
    simp [S__law_some_0, startP, listV, fitN_of]
  · have hr : rOk (m : Nat) = true := rOk_of (by omega) (by omega)
    unfold S__law_some_1
    generalize B__law_some_0 = Bi at e1 ⊢
    simp only [S] at e1 ⊢
    generalize I (zs P) = p1 at e1 ⊢
    generalize I (zs R) = r1 at e1 ⊢
    generalize I (zs F) = f1 at e1 ⊢
    generalize I (zs []) = f0 at e1 ⊢
    simp [hr, e1]
  · simp only [S]
    generalize I (zs P) = p1
    generalize I (zs R) = r1
    generalize I (zs F) = f1
    show S__law_some_2 _ = _
    simp [S__law_some_2]
/-- what is drawn: twelve tapes, twenty asks -/
structure Drawn (W : List Int) (C : List (List Nat)) : Prop where
  inp : Inp W C
  wl : W.length = 12
  ws : ∀ w ∈ W, 0 ≤ w ∧ w ≤ 5
  cl : C.length = 20
  c3 : ∀ c ∈ C, c.length ≤ 3
def srtN (l : List Nat) : List Nat := l.mergeSort fun a b => decide (a ≤ b)
theorem srtN_perm (l : List Nat) : (srtN l).Perm l := List.mergeSort_perm l _
theorem srtN_asc {l : List Nat} (h : l.Nodup) : (srtN l).Pairwise (· < ·) := by
  have h1 := List.pairwise_mergeSort (le := fun a b : Nat => decide (a ≤ b)) (fun a b c h1 h2 => by simp at *; omega) (fun a b => by simp; omega) l
  have h2 : (srtN l).Nodup := (srtN_perm l).nodup_iff.mpr h
  refine (h1.and h2).imp fun {a b} ⟨x, y⟩ => ?_
  have := of_decide_eq_true x
  have y : a ≠ b := y
  omega
theorem srtN_I (l : List Nat) : zs (srtN l) = (zs l).mergeSort fun a b => decide (a ≤ b) := by
  refine srtI_eq (List.Perm.map _ (srtN_perm l)) ?_
  have h1 := List.pairwise_mergeSort (le := fun a b : Nat => decide (a ≤ b)) (fun a b c h1 h2 => by simp at *; omega) (fun a b => by simp; omega) l
  exact List.pairwise_map.mpr (h1.imp fun {a b} h => by have := of_decide_eq_true h; omega)
end LW
/-! P18: the draw of wear and copies. -/
namespace LW
open PySem PySem.Spec PyProof.Rows L2 VL HD
theorem listI {Q : Int → Prop} : ∀ {rs : List PV}, (∀ r ∈ rs, ∃ i, r = .int i ∧ Q i) → ∃ is : List Int, rs = I is ∧ ∀ i ∈ is, Q i
  | [], _ => ⟨[], rfl, by simp⟩
  | r :: rs, h => by
    obtain ⟨i, e, q⟩ := h r List.mem_cons_self
    obtain ⟨is, e2, q2⟩ := listI fun x hx => h x (List.mem_cons_of_mem _ hx)
    refine ⟨i :: is, ?_, fun j hj => ?_⟩
    · rw [e, e2]; rfl
    · rcases List.mem_cons.mp hj with rfl | hj
      · exact q
      · exact q2 j hj
theorem srt_tup {l : List Nat} (h : l.length ≤ 1000) : sortL (.lst (I (zs l))) = .ok (I (zs (srtN l))) := by
  rw [sortL_I _ (by rw [zs_len]; omega), srtN_I]
theorem drawn_0 {k : Nat} (hk : k ≤ 800000) {q : List PV} (hq : Pot k q) (v : Nat → Option LV) : ∃ W q', dLcL [4] (gNm 4) dYes E__law_drawn_0 (rangeL 0 12) [] [some (.po (.lst q)), none, none, none, none] = .ok (I W, [some (.po (.lst q')), none, none, none, none]) ∧ W.length = 12 ∧ (∀ w ∈ W, 0 ≤ w ∧ w ≤ 5) ∧ Pot (k + 24) q' := by
  obtain ⟨rs, s', e2, hl, hP, hI⟩ := lc_inv (vs := [4]) (g := gNm 4) (t := dYes) (e := E__law_drawn_0) (fun j s => ∃ q, Pot (k + 2 * j) q ∧ s = [some (.po (.lst q)), none, none, none, none]) (fun r => ∃ i : Int, r = .int i ∧ (0 ≤ i ∧ i ≤ 5)) (rangeL 0 12) [some (.po (.lst q)), none, none, none, none] ⟨q, by simpa using hq, rfl⟩ (by rw [rangeL_len]; omega) (fun j hj s ⟨q, hq, es⟩ => by
    subst es
    rw [rangeL_len] at hj
    rw [rangeL_get]
    obtain ⟨w, q1, e1, hw, p1⟩ := hO (k + 2 * j) (by omega) q hq [.int 2, .int 6] (by simp) (by simp)
    obtain ⟨u, rfl, u0, u1⟩ : ∃ u : Int, w = .int u ∧ 0 < u ∧ u ≤ 6 := by
      simp at hw
      rcases hw with rfl | rfl
      · exact ⟨2, rfl, by decide, by decide⟩
      · exact ⟨6, rfl, by decide, by decide⟩
    obtain ⟨d, q2, e2, hd, p2⟩ := hT (k + 2 * j + 1) (by omega) q1 p1 u u0 (by omega)
    refine ⟨[some (.po (.lst q)), none, none, none, some (.sh (.int (0 + (j : Nat))))], [some (.po (.lst q)), none, none, none, some (.sh (.int (0 + (j : Nat))))], [some (.po (.lst q2)), none, none, none, some (.sh (.int (0 + (j : Nat))))], .int d, rfl, rfl, ?_, ⟨d, rfl, by omega, by omega⟩, q2, by rw [show k + 2 * (j + 1) = k + 2 * j + 1 + 1 by omega]; exact p2, rfl⟩
    unfold E__law_drawn_0
    generalize F__law_of = FO at e1 ⊢
    generalize F__law_take = FT at e2 ⊢
    simp [owA, fitN_of, e1, e2])
  obtain ⟨W, rfl, hW⟩ := listI hP
  obtain ⟨q', hq', rfl⟩ := hI
  rw [rangeL_len] at hl hq'
  rw [I_len] at hl
  exact ⟨W, q', e2, hl, hW, hq'⟩
theorem drawn_turn {k : Nat} (hk : k ≤ 800000) {q : List PV} (hq : Pot k q) {C : List (List Nat)} (hC : C.length ≤ 20) (w a : Option LV) : ∃ c q', c ≠ [] ∧ c.Pairwise (· < ·) ∧ (∀ t ∈ c, t < 12) ∧ c.length ≤ 3 ∧ Pot (k + 5) q' ∧
    B__law_drawn_0 [some (.po (.lst q)), w, some (.ow (.lst (tC C))), a, none] = .ok (.nx, [some (.po (.lst q')), w, some (.ow (.lst (tC (C ++ [c])))), a, none]) := by
  obtain ⟨u, q1, e1, hu, p1⟩ := hO k (by omega) q hq [.int 3, .int 12] (by simp) (by simp)
  obtain ⟨n, rfl, n0, n1⟩ : ∃ n : Nat, u = .int (n : Nat) ∧ 3 ≤ n ∧ n ≤ 12 := by
    simp at hu
    rcases hu with rfl | rfl
    · exact ⟨3, rfl, by decide, by decide⟩
    · exact ⟨12, rfl, by decide, by decide⟩
  obtain ⟨d, q2, e2, hd, p2⟩ := hT (k + 1) (by omega) q1 p1 3 (by omega) (by omega)
  obtain ⟨m, rfl⟩ := Int.eq_ofNat_of_zero_le hd.1
  have hm : m < 3 := by omega
  obtain ⟨F, q3, e3, hl, ⟨R, hp⟩, p3⟩ := some_ok (P := List.range n) (m := m + 1) (by rw [List.length_range]; omega) (by rw [List.length_range]; omega) (show k + 1 + 1 ≤ 900000 by omega) p2
  have hnd : F.Nodup := ((List.nodup_append.mp (hp.nodup_iff.mpr List.nodup_range)).1)
  have hlt : ∀ t ∈ F, t < n := fun t ht => List.mem_range.mp (hp.mem_iff.mp (List.mem_append_left _ ht))
  have hs := srt_tup (l := F) (by omega)
  have hle := (srtN_perm F).length_eq
  refine ⟨srtN F, q3, fun z => by rw [z] at hle; simp at hle; omega, srtN_asc hnd, fun t ht => by have := hlt t ((srtN_perm F).mem_iff.mp ht); omega, by omega, p3.mono (by omega), ?_⟩
  have ha : tC C ++ [tN (srtN F)] = tC (C ++ [srtN F]) := by simp [tC]
  have hf : fitN ((tC C).length + 1) = true := fitN_of (by rw [tC_len]; omega)
  have hr : rOk (n : Nat) = true := rOk_of (by omega) (by omega)
  have hadd : (1 : Int) + ((m : Nat) : Int) = ((m + 1 : Nat) : Int) := by omega
  rw [← hadd] at e3
  have hn16 : n ≤ 16777216 := by omega
  have hz : rangeL 0 n = I (zs (List.range n)) := range_zs n
  unfold B__law_drawn_0
  generalize F__law_of = FO at e1 ⊢
  generalize F__law_take = FT at e2 ⊢
  generalize F__law_some = FS at e3 ⊢
  simp only [tN, tI] at ha
  generalize I (zs (List.range n)) = z0 at e3 hz
  generalize I (zs F) = z1 at e3 hs
  generalize I (zs (srtN F)) = z2 at hs ha
  generalize tC (C ++ [srtN F]) = c2 at ha ⊢
  generalize tC C = c1 at ha hf ⊢
  simp [owA, owL, fitN_of, e1, e2, hr, hn16, hz, e3, hs, ha, hf]
theorem drawn_ok {k : Nat} (hk : k ≤ 700000) {q : List PV} (hq : Pot k q) : ∃ W C q', F__law_drawn q [] = .ok (.sh (.tup [tI W, .tup (tC C)]), q') ∧ Drawn W C ∧ Pot (k + 124) q' := by
  obtain ⟨W, q1, e1, hl, hW, p1⟩ := drawn_0 (k := k) (by omega) hq fun _ => none
  obtain ⟨s', e2, q2, C, a, es, hC, hall, p2⟩ := forL_inv (g := gNm 3) (body := B__law_drawn_0) (rangeL 0 20) (fun j s => ∃ q C a, s = [some (.po (.lst q)), some (.sh (tI W)), some (.ow (.lst (tC C))), a, none] ∧ C.length = j ∧ (∀ c ∈ C, c ≠ [] ∧ c.Pairwise (· < ·) ∧ (∀ t ∈ c, t < 12) ∧ c.length ≤ 3) ∧ Pot (k + 24 + 5 * j) q)
    [some (.po (.lst q1)), some (.sh (tI W)), some (.ow (.lst (tC []))), none, none] ⟨q1, [], none, rfl, rfl, fun c hc => by simp at hc, p1⟩ fun j hj s ⟨q, C, a, es, hc, hall, pq⟩ => by
    subst es
    rw [rangeL_len] at hj
    rw [rangeL_get, Int.zero_add]
    obtain ⟨c, q', c1, c2, c3, c4, c5, e⟩ := drawn_turn (k := k + 24 + 5 * j) (by omega) pq (C := C) (by omega) (some (.sh (tI W))) (some (.sh (.int (j : Nat))))
    refine ⟨_, _, rfl, e, q', C ++ [c], some (.sh (.int (j : Nat))), rfl, by simp [hc], fun x hx => ?_, by rw [show k + 24 + 5 * (j + 1) = k + 24 + 5 * j + 5 by omega]; exact c5⟩
    rcases List.mem_append.mp hx with hx | hx
    · exact hall x hx
    · rw [List.mem_singleton] at hx
      subst hx
      exact ⟨c1, c2, c3, c4⟩
  subst es
  rw [rangeL_len] at hC p2
  refine ⟨W, C, q2, ?_, ⟨⟨by omega, by omega, fun w hw => by have := hW w hw; omega, by omega, fun c hc => (hall c hc).1, fun c hc => (hall c hc).2.1, fun c hc => by rw [hl]; exact (hall c hc).2.2.1⟩, hl, hW, hC, fun c hc => (hall c hc).2.2.2⟩, p2⟩
  refine fn_io (s' := [some (.po (.lst q2)), some (.sh (tI W)), some (.ow (.lst (tC C))), a, none]) ?_ rfl
  refine seq_nx (s' := [some (.po (.lst q1)), some (.sh (tI W)), none, none, none]) ?_ (seq_nx (s' := [some (.po (.lst q1)), some (.sh (tI W)), some (.ow (.lst (tC []))), none, none]) ?_ (seq_nx (s' := [some (.po (.lst q2)), some (.sh (tI W)), some (.ow (.lst (tC C))), a, none]) ?_ ?_))
  · have r12 : rOk 12 = true := rOk_of (by omega) (by omega)
    unfold S__law_drawn_0
    generalize E__law_drawn_0 = Ei at e1 ⊢
    simp only [tI]
    generalize I W = w1 at e1 ⊢
    simp [startP, r12, wipeP, e1, backP, shP]
  · simp only [tI]
    generalize I W = w1
    rw [show tC [] = [] from rfl]
    simp [S__law_drawn_1, fitN_of]
  · have r20 : rOk 20 = true := rOk_of (by omega) (by omega)
    unfold S__law_drawn_2
    generalize B__law_drawn_0 = Bi at e2 ⊢
    simp only [tI] at e2 ⊢
    generalize I W = w1 at e2 ⊢
    generalize tC C = c1 at e2 ⊢
    generalize tC [] = c0 at e2 ⊢
    simp [r20, e2]
  · simp only [tI]
    generalize I W = w1
    generalize tC C = c1
    show S__law_drawn_3 _ = _
    simp [S__law_drawn_3, fitN_of]
end LW
/-! P19: one draw: the least wear, the lot. -/
namespace LW
open PySem PySem.Spec PyProof.Rows L2 VL HD
abbrev R (q : List PV) (x1 x2 x3 x4 x5 x6 x7 x8 x9 x10 x11 x12 x13 x14 x15 x16 x17 x18 x19 x20 : Option LV) : PSt := [some (.po (.lst q)), x1, x2, x3, x4, x5, x6, x7, x8, x9, x10, x11, x12, x13, x14, x15, x16, x17, x18, x19, x20]
theorem r0 {W : List Int} {C : List (List Nat)} {q q' : List PV} (e : F__law_drawn q [] = .ok (.sh (.tup [tI W, .tup (tC C)]), q')) :
    S__law_right_0 (startP true 21 q []) = .ok (.nx, R q' (some (.sh (tI W))) (some (.sh (.tup (tC C)))) none none none none none none none none none none none none none none none none none none) := by
  unfold S__law_right_0
  generalize F__law_drawn = F at e ⊢
  simp only [R, tI] at e ⊢
  generalize I W = w1 at e ⊢
  generalize tC C = c1 at e ⊢
  simp [startP, owA, e]
theorem r1 {W : List Int} {C : List (List Nat)} {q : List PV} {m : Int} {X L : List Nat} (e : F_least_wear [] [tI W, .tup (tC C)] = .ok (.sh (.tup [.int m, tN X, tN L]), [])) (x6 x7 x8 x9 x10 x11 x12 x13 x14 x15 x16 x17 x18 x19 x20 : Option LV) :
    S__law_right_1 (R q (some (.sh (tI W))) (some (.sh (.tup (tC C)))) none none none x6 x7 x8 x9 x10 x11 x12 x13 x14 x15 x16 x17 x18 x19 x20) = .ok (.nx, R q (some (.sh (tI W))) (some (.sh (.tup (tC C)))) (some (.sh (.int m))) (some (.sh (tN X))) (some (.sh (tN L))) x6 x7 x8 x9 x10 x11 x12 x13 x14 x15 x16 x17 x18 x19 x20) := by
  unfold S__law_right_1
  generalize F_least_wear = F at e ⊢
  simp only [R, tN, tI] at e ⊢
  generalize I W = w1 at e ⊢
  generalize I (zs X) = w2 at e ⊢
  generalize I (zs L) = w3 at e ⊢
  generalize tC C = c1 at e ⊢
  simp [e]
theorem r2 {W : List Int} {C : List (List Nat)} {q : List PV} {m : Int} {X L : List Nat} (h : Inp W C) (l : LW3 W C m X L) (x6 x7 x8 x10 x11 x12 x13 x14 x15 x16 x17 x19 x20 : Option LV) :
    S__law_right_2 (R q (some (.sh (tI W))) (some (.sh (.tup (tC C)))) (some (.sh (.int m))) (some (.sh (tN X))) (some (.sh (tN L))) x6 x7 x8 none x10 x11 x12 x13 x14 x15 x16 x17 none x19 x20) = .ok (.nx, R q (some (.sh (tI W))) (some (.sh (.tup (tC C)))) (some (.sh (.int m))) (some (.sh (tN X))) (some (.sh (tN L))) x6 x7 x8 none x10 x11 x12 x13 x14 x15 x16 x17 none x19 x20) := by
  have hn1 := h.n1
  have hn := h.n2
  have hX := l.ev.ok
  have hXl := hX.lt h.lt
  have hcl := h.cl
  have hlen := hX.len
  have e4 := law_loads_ok (W := W) (X := X) (by omega) hXl
  have hL0 : lds W.length W X ≠ [] := fun z => by have := congrArg List.length z; rw [lds_len, List.length_nil] at this; omega
  have m1 := max_it (p := .lst (I (lds W.length W X))) rfl hL0
  rw [← l.em] at m1
  have hne := ne_int m m
  rw [decide_eq_true rfl] at hne
  have hz := zipL_len (I (zs X)) (tC C)
  rw [I_len, zs_len] at hz
  let SS : Option LV → Option LV → PSt := fun a b => R q (some (.sh (tI W))) (some (.sh (.tup (tC C)))) (some (.sh (.int m))) (some (.sh (tN X))) (some (.sh (tN L))) x6 x7 x8 a x10 x11 x12 x13 x14 x15 x16 x17 b x19 x20
  have lc := lc_all (vs := [9, 18]) (g := gTp 2 (gCs (gNm 9) (gCs (gNm 18) gNl))) (t := dYes) (e := E__law_right_0) (fun _ => .bl true) (SS none none) (zipL (I (zs X)) (tC C)) [] (by rw [List.length_nil]; omega) (fun p hp => by
    obtain ⟨t, c, rfl, k⟩ := zipN_mem hp
    have kc := (List.of_mem_zip k).1
    have kt := hX.zip k
    have hlt := h.lt c kc
    have e3 := in_ok kt (by have := h.clen kc; omega) (fun u hu => by have := hlt u hu; omega)
    refine ⟨SS (some (.sh (.int (t : Nat)))) (some (.sh (tN c))), _, SS (some (.sh (.int (t : Nat)))) (some (.sh (tN c))), rfl, rfl, ?_, rfl⟩
    unfold E__law_right_0
    simp only [SS, R]
    simp [e3])
  have ha := allT (ps := (zipL (I (zs X)) (tC C)).map fun _ => PV.bl true) (fun p hp => by
    obtain ⟨q, _, rfl⟩ := List.mem_map.mp hp; rfl)
  unfold S__law_right_2
  generalize E__law_right_0 = Ei at lc ⊢
  generalize F__law_loads = F at e4 ⊢
  simp only [SS, R, tN, tI] at lc e4 ⊢
  generalize I (lds W.length W X) = ld at m1 e4
  generalize I (zs X) = A' at lc ha e4 ⊢
  generalize tC C = C' at lc ha ⊢
  generalize I W = w1 at lc e4 ⊢
  generalize I (zs L) = w3 at lc ⊢
  have hi : itemsV (.tup A') = some A' := rfl
  have hi2 : itemsV (.tup C') = some C' := rfl
  generalize hzz : zipL A' C' = z at lc ha ⊢
  generalize z.map (fun _ => PV.bl true) = bs at lc ha
  rw [List.nil_append] at lc
  simp [e4, m1, hne, hi, hi2, wipeP, hzz, lc, backP, shP, ha]
theorem r3 {W : List Int} {C : List (List Nat)} {q : List PV} {m : Int} {X L : List Nat} (h : Drawn W C) (l : LW3 W C m X L) (x6 x7 x8 x9 x10 x11 x12 x13 x14 x15 x16 x17 x18 x19 x20 : Option LV) :
    S__law_right_3 (R q (some (.sh (tI W))) (some (.sh (.tup (tC C)))) (some (.sh (.int m))) (some (.sh (tN X))) (some (.sh (tN L))) x6 x7 x8 x9 x10 x11 x12 x13 x14 x15 x16 x17 x18 x19 x20) = .ok (.nx, R q (some (.sh (tI W))) (some (.sh (.tup (tC C)))) (some (.sh (.int m))) (some (.sh (tN X))) (some (.sh (tN L))) x6 x7 x8 x9 x10 x11 x12 x13 x14 x15 x16 x17 x18 x19 x20) := by
  have hb := l.bound h.inp
  have hlot := l.lot
  have hll := hlot.len
  have hcl := h.cl
  have hLs : ∀ i ∈ zs L, -10000000 ≤ i ∧ i ≤ 10000000 := fun i hi => by obtain ⟨t, ht, rfl⟩ := zs_mem hi; have := hlot.lt t ht; omega
  have hW0 : W ≠ [] := fun z => by have := h.wl; rw [z] at this; simp at this
  have m2 := max_it (p := tI W) (xs := W) rfl hW0
  have e7 := eq_nilT (zs L) (by rw [zs_len]; omega) hLs
  have e8 := ne_nilT (zs L) (by rw [zs_len]; omega) hLs
  have hne := ne_int m m
  rw [decide_eq_true rfl] at hne
  rcases l.pap with ⟨hL, hm⟩ | hn
  · have hz : (zs L).isEmpty = true := by rw [hL]; rfl
    rw [hz] at e7 e8
    rw [← hm] at m2
    unfold S__law_right_3
    simp only [R, tN, tI] at e7 e8 m2 ⊢
    generalize I W = w1 at m2 ⊢
    generalize I (zs X) = w2
    generalize I (zs L) = w3 at e7 e8 ⊢
    generalize tC C = c1
    simp [e7, e8, m2, hne, fitN_of]
  · have hz : (zs L).isEmpty = false := by
      have := hn.ne
      cases L with
      | nil => exact absurd rfl this
      | cons _ _ => rfl
    rw [hz] at e7 e8
    have e9 := room_ok h.inp h.c3 hn.lot hn.ne hn.up hn.lo (by omega)
    unfold S__law_right_3
    generalize F__law_room = F at e9 ⊢
    simp only [R, tN, tI] at e7 e8 m2 e9 ⊢
    generalize I W = w1 at m2 e9 ⊢
    generalize I (zs X) = w2
    generalize I (zs L) = w3 at e7 e8 e9 ⊢
    generalize tC C = c1 at e9 ⊢
    simp [e7, e8, m2, hne, e9, fitN_of]
theorem r4 {W : List Int} {C : List (List Nat)} {q : List PV} {m : Int} {X L : List Nat} (h : Drawn W C) (l : LW3 W C m X L) (x6 x7 x8 x9 x10 x11 x12 x13 x14 x15 x16 x17 x18 x19 x20 : Option LV) :
    S__law_right_4 (R q (some (.sh (tI W))) (some (.sh (.tup (tC C)))) (some (.sh (.int m))) (some (.sh (tN X))) (some (.sh (tN L))) x6 x7 x8 x9 x10 x11 x12 x13 x14 x15 x16 x17 x18 x19 x20) = .ok (.nx, R q (some (.sh (tI W))) (some (.sh (.tup (tC C)))) (some (.sh (.int m))) (some (.sh (tN X))) (some (.sh (tN L))) x6 x7 x8 x9 x10 x11 x12 x13 x14 x15 x16 x17 x18 x19 x20) := by
  have hb := l.bound h.inp
  have hlot := l.lot
  have hll := hlot.len
  have hcl := h.cl
  have hLs : ∀ i ∈ zs L, -10000000 ≤ i ∧ i ≤ 10000000 := fun i hi => by obtain ⟨t, ht, rfl⟩ := zs_mem hi; have := hlot.lt t ht; omega
  have e8 := ne_nilT (zs L) (by rw [zs_len]; omega) hLs
  have hne := ne_int m m
  rw [decide_eq_true rfl] at hne
  have e1 := shows_ok h.inp l
  rcases l.pap with ⟨hL, hm⟩ | hn
  · have hz : (zs L).isEmpty = true := by rw [hL]; rfl
    rw [hz] at e8
    unfold S__law_right_4
    generalize F_shows_least = F at e1 ⊢
    simp only [R, tN, tI] at e8 e1 ⊢
    generalize I W = w1 at e1 ⊢
    generalize I (zs X) = w2 at e1 ⊢
    generalize I (zs L) = w3 at e8 e1 ⊢
    generalize tC C = c1 at e1 ⊢
    simp [e8, e1, fitN_of, isntV]
  · have hz : (zs L).isEmpty = false := by
      have := hn.ne
      cases L with
      | nil => exact absurd rfl this
      | cons _ _ => rfl
    rw [hz] at e8
    have e9 := needs_ok h.inp hn.lot hn.ne hn.up hn.lo (by omega)
    unfold S__law_right_4
    generalize F_shows_least = F at e1 ⊢
    generalize F_needs = F at e9 ⊢
    simp only [R, tN, tI] at e8 e1 e9 ⊢
    generalize I W = w1 at e1 e9 ⊢
    generalize I (zs X) = w2 at e1 ⊢
    generalize I (zs L) = w3 at e8 e1 e9 ⊢
    generalize tC C = c1 at e1 e9 ⊢
    simp [e8, e1, e9, hne, fitN_of, isntV]
end LW
/-! P20: one draw: other names. -/
namespace LW
open PySem PySem.Spec PyProof.Rows L2 VL HD
def nm (s : List Nat) (t : Nat) : Nat := s.getD t 0
def fN (s : List Nat) (c : List Nat) : List Nat := srtN (c.map (nm s))
theorem fN_mem {s c : List Nat} {x : Nat} : x ∈ fN s c ↔ ∃ t ∈ c, x = s.getD t 0 := by
  unfold fN
  rw [(srtN_perm _).mem_iff, List.mem_map]
  exact ⟨fun ⟨t, h, e⟩ => ⟨t, h, e.symm⟩, fun ⟨t, h, e⟩ => ⟨t, h, e.symm⟩⟩
/-- the wear by its new names -/
def wd (s : List Nat) (W : List Int) : Nat → List Int
  | 0 => List.replicate 12 0
  | j + 1 => (wd s W j).set (nm s j) (W.getD j 0)
theorem wd_len (s : List Nat) (W : List Int) : ∀ j, (wd s W j).length = 12
  | 0 => by simp [wd]
  | j + 1 => by simp [wd, wd_len s W j]
theorem wd_mem (s : List Nat) (W : List Int) : ∀ (j : Nat) {x : Int}, x ∈ wd s W j → x = 0 ∨ ∃ i, i < j ∧ x = W.getD i 0
  | 0, x, h => .inl (List.eq_of_mem_replicate h)
  | j + 1, x, h => by
    rcases List.mem_or_eq_of_mem_set h with h | h
    · rcases wd_mem s W j h with h | ⟨i, hi, h⟩
      · exact .inl h
      · exact .inr ⟨i, by omega, h⟩
    · exact .inr ⟨j, by omega, h⟩
theorem wd_at {s : List Nat} (hs : Nm 12 s) (W : List Int) : ∀ (j : Nat), j ≤ 12 → ∀ t, t < j → (wd s W j).getD (s.getD t 0) 0 = W.getD t 0
  | 0, _, t, ht => by omega
  | j + 1, hj, t, ht => by
    have hl := wd_len s W j
    have hg := hs.get (t := t) (by omega)
    have hgj : nm s j < 12 := hs.get (t := j) (by omega)
    show ((wd s W j).set (nm s j) (W.getD j 0)).getD (s.getD t 0) 0 = _
    rw [List.getD_eq_getElem?_getD, List.getElem?_set]
    by_cases e : nm s j = s.getD t 0
    · have : j = t := hs.inj (by omega) (by omega) e
      subst this
      rw [if_pos e, if_pos (by omega)]
      rfl
    · rw [if_neg e, ← List.getD_eq_getElem?_getD]
      refine wd_at hs W j (by omega) t ?_
      rcases Nat.lt_or_ge t j with h | h
      · exact h
      · have : t = j := by omega
        subst this
        exact absurd rfl e
theorem inp_ren {W : List Int} {C : List (List Nat)} {s : List Nat} (h : Drawn W C) (hs : Nm 12 s) : Inp (wd s W 12) (C.map (fN s)) := by
  have hl := wd_len s W 12
  have hwl := h.wl
  refine ⟨by omega, by omega, fun w hw => ?_, by rw [List.length_map]; have := h.cl; omega, fun c hc => ?_, fun c hc => ?_, fun c hc t ht => ?_⟩
  · rcases wd_mem s W 12 hw with rfl | ⟨i, hi, rfl⟩
    · omega
    · have := h.ws (W.getD i 0) (by rw [List.getD_eq_getElem?_getD, List.getElem?_eq_getElem (by omega)]; exact List.getElem_mem _)
      omega
  · obtain ⟨c, hcc, rfl⟩ := List.mem_map.mp hc
    intro z
    have h1 := (h.inp.clen hcc).1
    have h2 := (srtN_perm (c.map (nm s))).length_eq
    unfold fN at z
    rw [z, List.length_map, List.length_nil] at h2
    omega
  · obtain ⟨c, hcc, rfl⟩ := List.mem_map.mp hc
    refine srtN_asc ?_
    have hnd := (h.inp.asc c hcc).imp fun h => Nat.ne_of_lt h
    refine List.pairwise_map.mpr (hnd.imp_of_mem fun {a b} ha hb hab z => hab ?_)
    have h1 := h.inp.lt c hcc a ha
    have h2 := h.inp.lt c hcc b hb
    exact hs.inj (by omega) (by omega) z
  · obtain ⟨c, hcc, rfl⟩ := List.mem_map.mp hc
    obtain ⟨u, hu, rfl⟩ := fN_mem.mp ht
    have h1 := h.inp.lt c hcc u hu
    rw [hl]
    exact hs.get (by omega)
theorem ren_most {W : List Int} {C : List (List Nat)} {s : List Nat} {m m' : Int} {X L X' L' : List Nat} (h : Drawn W C) (hs : Nm 12 s) (l : LW3 W C m X L) (l' : LW3 (wd s W 12) (C.map (fN s)) m' X' L') : m' = m := by
  have a := l.least h.inp
  have b := l'.least (inp_ren h hs)
  rw [h.wl] at a
  rw [wd_len] at b
  have hC := h.inp.lt
  rw [h.wl] at hC
  exact b.uniq (a.ren hs hC (wd_at hs W 12 (by omega)) fun c _ x => fN_mem)
def toN : PV → Nat
  | .int i => i.toNat
  | _ => 0
theorem toN_I (c : List Nat) : (I (zs c)).map toN = c := by
  unfold I zs
  rw [List.map_map, List.map_map]
  have : ((toN ∘ PV.int) ∘ fun t : Nat => (t : Int)) = id := funext fun t => by simp [toN]
  rw [this, List.map_id]
theorem e2_ok {s c : List Nat} (hs : Nm 12 s) (hc : ∀ t ∈ c, t < 12) (hl : c.length ≤ 12) {q : List PV} (x1 x2 x3 x4 x5 x7 x8 x10 x11 x12 x13 x14 x15 x16 x17 x19 x20 : Option LV) :
    E__law_right_2 (R q x1 x2 x3 x4 x5 (some (.sh (.lst (I (zs s))))) x7 x8 none x10 x11 x12 x13 x14 x15 x16 x17 (some (.sh (tN c))) x19 x20) = .ok (tN (fN s c), R q x1 x2 x3 x4 x5 (some (.sh (.lst (I (zs s))))) x7 x8 none x10 x11 x12 x13 x14 x15 x16 x17 (some (.sh (tN c))) x19 x20) := by
  let S : PSt := R q x1 x2 x3 x4 x5 (some (.sh (.lst (I (zs s))))) x7 x8 none x10 x11 x12 x13 x14 x15 x16 x17 (some (.sh (tN c))) x19 x20
  have lc := lc_map (fun p => PV.int (nm s (toN p) : Nat)) (I (zs c)) 9 S E__law_right_1 (by rw [I_len, zs_len]; omega) rfl (fun p hp => by
    obtain ⟨i, hi, rfl⟩ := List.mem_map.mp hp
    obtain ⟨t, ht, rfl⟩ := zs_mem hi
    have h1 := hc t ht
    have hg : atI (I (zs s)) (t : Nat) = some (.int (nm s t : Nat)) := by
      refine atI_nat ?_
      unfold I zs nm
      rw [List.getElem?_map, List.getElem?_map, List.getElem?_eq_getElem (by rw [hs.len]; exact h1), List.getD_eq_getElem?_getD, List.getElem?_eq_getElem (by rw [hs.len]; exact h1)]
      rfl
    unfold E__law_right_1
    simp only [S, R]
    generalize I (zs s) = z1 at hg ⊢
    generalize tN c = z2
    simp [hg, toN])
  have hm : (I (zs c)).map (fun p => PV.int (nm s (toN p) : Nat)) = I (zs (c.map (nm s))) := by
    conv => rhs; rw [← toN_I c]
    unfold I zs
    simp only [List.map_map]
    rfl
  rw [hm] at lc
  have hs2 := srt_tup (l := c.map (nm s)) (by rw [List.length_map]; omega)
  have hf : zs (srtN (c.map (nm s))) = zs (fN s c) := rfl
  rw [hf] at hs2
  unfold E__law_right_2
  generalize E__law_right_1 = Ei at lc ⊢
  simp only [S, R, tN, tI] at lc ⊢
  generalize I (zs s) = z1 at lc ⊢
  generalize I (zs (fN s c)) = z2 at hs2 ⊢
  generalize I (zs (c.map (nm s))) = z3 at hs2 lc ⊢
  generalize I (zs c) = z4 at lc ⊢
  simp [wipeP, lc, backP, shP, hs2]
abbrev sW (W : List Int) : Option LV := some (.sh (tI W))
abbrev sC (C : List (List Nat)) : Option LV := some (.sh (.tup (tC C)))
theorem perm_range {F R : List Nat} (hl : F.length = 12) (hp : (F ++ R).Perm (List.range 12)) : Nm 12 F := by
  exact ⟨hl, (List.nodup_append.mp (hp.nodup_iff.mpr List.nodup_range)).1, fun t ht => List.mem_range.mp (hp.mem_iff.mp (List.mem_append_left _ ht))⟩
theorem r5 {k : Nat} (hk : k ≤ 800000) {q : List PV} (hq : Pot k q) (x1 x2 x3 x4 x5 x7 x8 x9 x10 x11 x12 x13 x14 x15 x16 x17 x18 x19 x20 : Option LV) :
    ∃ s q', Nm 12 s ∧ Pot (k + 12) q' ∧ S__law_right_5 (R q x1 x2 x3 x4 x5 none x7 x8 x9 x10 x11 x12 x13 x14 x15 x16 x17 x18 x19 x20) = .ok (.nx, R q' x1 x2 x3 x4 x5 (some (.sh (.lst (I (zs s))))) x7 x8 x9 x10 x11 x12 x13 x14 x15 x16 x17 x18 x19 x20) := by
  obtain ⟨F, q3, e3, hl, ⟨R', hp⟩, p3⟩ := some_ok (P := List.range 12) (m := 12) (by rw [List.length_range]; omega) (by rw [List.length_range]; omega) (by omega) hq
  refine ⟨F, q3, perm_range hl hp, p3, ?_⟩
  have r12 : rOk 12 = true := rOk_of (by omega) (by omega)
  have hz : rangeL 0 12 = I (zs (List.range 12)) := range_zs 12
  unfold S__law_right_5
  generalize F__law_some = FS at e3 ⊢
  simp only [R]
  generalize I (zs (List.range 12)) = z1 at e3 hz
  generalize I (zs F) = z2 at e3 ⊢
  have e3' : FS q [.lst z1, .int 12] = .ok (.sh (.lst z2), q3) := e3
  simp [owA, r12, hz, e3']
def gC (s : List Nat) : PV → PV
  | .tup ps => tN (fN s (ps.map toN))
  | p => p
theorem gC_map (s : List Nat) (C : List (List Nat)) : (tC C).map (gC s) = tC (C.map (fN s)) := by
  unfold tC
  rw [List.map_map, List.map_map]
  refine List.map_congr_left fun c _ => ?_
  show tN (fN s ((I (zs c)).map toN)) = tN (fN s c)
  rw [toN_I]
theorem r6 {W : List Int} {C : List (List Nat)} {s : List Nat} (h : Drawn W C) (hs : Nm 12 s) {q : List PV} (x1 x3 x4 x5 x7 x8 x10 x11 x12 x13 x14 x15 x16 x17 x19 x20 : Option LV) :
    S__law_right_6 (R q x1 (sC C) x3 x4 x5 (some (.sh (.lst (I (zs s))))) none x8 none x10 x11 x12 x13 x14 x15 x16 x17 none x19 x20) = .ok (.nx, R q x1 (sC C) x3 x4 x5 (some (.sh (.lst (I (zs s))))) (sC (C.map (fN s))) x8 none x10 x11 x12 x13 x14 x15 x16 x17 none x19 x20) := by
  have hcl := h.cl
  have lc := lc_map (gC s) (tC C) 18 (R q x1 (sC C) x3 x4 x5 (some (.sh (.lst (I (zs s))))) none x8 none x10 x11 x12 x13 x14 x15 x16 x17 none x19 x20) E__law_right_2 (by rw [tC_len]; omega) rfl (fun p hp => by
    obtain ⟨c, hc, rfl⟩ := List.mem_map.mp hp
    have h2 := h.inp.clen hc
    have hlt := h.inp.lt c hc
    have hwl := h.wl
    have e := e2_ok (q := q) hs (fun t ht => by have := hlt t ht; omega) (by omega) x1 (sC C) x3 x4 x5 none x8 x10 x11 x12 x13 x14 x15 x16 x17 x19 x20
    have eg : gC s (tN c) = tN (fN s c) := by
      show tN (fN s ((I (zs c)).map toN)) = tN (fN s c)
      rw [toN_I]
    rw [eg]
    exact e)
  rw [gC_map] at lc
  unfold S__law_right_6
  generalize E__law_right_2 = Ei at lc ⊢
  simp only [R, sC] at lc ⊢
  generalize I (zs s) = z1 at lc ⊢
  generalize tC (C.map (fN s)) = z2 at lc ⊢
  generalize tC C = z3 at lc ⊢
  simp [wipeP, lc, backP, shP]
theorem r7 {q : List PV} (s : List Nat) (W : List Int) (x1 x2 x3 x4 x5 x6 x7 x9 x10 x11 x12 x13 x14 x15 x16 x17 x18 x19 x20 : Option LV) :
    S__law_right_7 (R q x1 x2 x3 x4 x5 x6 x7 none x9 x10 x11 x12 x13 x14 x15 x16 x17 x18 x19 x20) = .ok (.nx, R q x1 x2 x3 x4 x5 x6 x7 (some (.ow (.lst (I (wd s W 0))))) x9 x10 x11 x12 x13 x14 x15 x16 x17 x18 x19 x20) := by
  unfold S__law_right_7
  have e : I (wd s W 0) = (List.replicate (12 : Int).toNat [PV.int 0]).flatten := rfl
  rw [e]
  have ht : times 12 = true := by decide
  simp only [R]
  generalize hz : (List.replicate (12 : Int).toNat [PV.int 0]).flatten = z
  simp [ht]
  exact hz
theorem r8 {W : List Int} {s : List Nat} (hW : W.length = 12) (hs : Nm 12 s) {q : List PV} (x2 x3 x4 x5 x7 x11 x12 x13 x14 x15 x16 x17 x18 x19 x20 : Option LV) :
    ∃ x9 x10, S__law_right_8 (R q (sW W) x2 x3 x4 x5 (some (.sh (.lst (I (zs s))))) x7 (some (.ow (.lst (I (wd s W 0))))) none none x11 x12 x13 x14 x15 x16 x17 x18 x19 x20) = .ok (.nx, R q (sW W) x2 x3 x4 x5 (some (.sh (.lst (I (zs s))))) x7 (some (.ow (.lst (I (wd s W 12))))) x9 x10 x11 x12 x13 x14 x15 x16 x17 x18 x19 x20) := by
  have hel : (enumL 0 (I (zs s))).length = 12 := by rw [enumL_len, I_len, zs_len, hs.len]
  obtain ⟨s', e1, x9, x10, es⟩ := forL_inv (g := gTp 2 (gCs (gNm 9) (gCs (gNm 10) gNl))) (body := B__law_right_0) (enumL 0 (I (zs s))) (fun j st => ∃ x9 x10, st = R q (sW W) x2 x3 x4 x5 (some (.sh (.lst (I (zs s))))) x7 (some (.ow (.lst (I (wd s W j))))) x9 x10 x11 x12 x13 x14 x15 x16 x17 x18 x19 x20)
    (R q (sW W) x2 x3 x4 x5 (some (.sh (.lst (I (zs s))))) x7 (some (.ow (.lst (I (wd s W 0))))) none none x11 x12 x13 x14 x15 x16 x17 x18 x19 x20) ⟨none, none, rfl⟩ fun j hj st ⟨x9, x10, es⟩ => by
    subst es
    rw [hel] at hj
    have hj2 : j < (I (zs s)).length := by rw [I_len, zs_len, hs.len]; exact hj
    have hjs : j < s.length := by rw [hs.len]; exact hj
    have ep : (enumL 0 (I (zs s)))[j]'(by rw [hel]; exact hj) = .tup [.int (j : Nat), .int (nm s j : Nat)] := by
      rw [enumL_at _ _ _ _ hj2]
      simp only [Nat.zero_add]
      unfold nm
      rw [List.getD_eq_getElem?_getD, List.getElem?_eq_getElem hjs]
      simp [I, zs]
    rw [ep]
    refine ⟨R q (sW W) x2 x3 x4 x5 (some (.sh (.lst (I (zs s))))) x7 (some (.ow (.lst (I (wd s W j))))) (some (.sh (.int (j : Nat)))) (some (.sh (.int (nm s j : Nat)))) x11 x12 x13 x14 x15 x16 x17 x18 x19 x20, _, rfl, ?_, some (.sh (.int (j : Nat))), some (.sh (.int (nm s j : Nat))), rfl⟩
    have hgj : nm s j < 12 := hs.get (t := j) hj
    have ea : atI (I W) (j : Nat) = some (.int (W.getD j 0)) := by
      refine atI_nat ?_
      unfold I
      rw [List.getElem?_map, List.getD_eq_getElem?_getD, List.getElem?_eq_getElem (by omega)]
      rfl
    have ei : ixN (I (wd s W j)).length ((nm s j : Nat) : Int) = some (nm s j) := by
      rw [I_len, wd_len]; simp [ixN]; omega
    have hs' : (I (wd s W j)).set (nm s j) (.int (W.getD j 0)) = I (wd s W (j + 1)) := by
      rw [I_set]; rfl
    unfold B__law_right_0
    simp only [R, sW, tI]
    generalize I (wd s W (j + 1)) = z1 at hs' ⊢
    generalize I (wd s W j) = z2 at hs' ei ⊢
    generalize I W = z3 at ea ⊢
    generalize I (zs s) = z4
    generalize W.getD j 0 = v at ea hs'
    simp [owA, ea, ei, hs']
  rw [hel] at es
  subst es
  refine ⟨x9, x10, ?_⟩
  unfold S__law_right_8
  generalize B__law_right_0 = Bi at e1 ⊢
  simp only [R, sW, tI] at e1 ⊢
  generalize I (wd s W 0) = z1 at e1 ⊢
  generalize I (wd s W 12) = z2 at e1 ⊢
  generalize I W = z3 at e1 ⊢
  generalize I (zs s) = z4 at e1 ⊢
  have hi : itemsV (.lst z4) = some z4 := rfl
  generalize hee : enumL 0 z4 = z5 at e1
  simp [hi, hee, e1]
theorem r9 {W : List Int} {C : List (List Nat)} {s : List Nat} {m : Int} {X L : List Nat} (h : Drawn W C) (hs : Nm 12 s) (l : LW3 W C m X L) {q : List PV} (x1 x2 x4 x5 x6 x9 x10 x11 x12 x13 x14 x15 x16 x17 x18 x19 x20 : Option LV) :
    S__law_right_9 (R q x1 x2 (some (.sh (.int m))) x4 x5 x6 (sC (C.map (fN s))) (some (.ow (.lst (I (wd s W 12))))) x9 x10 x11 x12 x13 x14 x15 x16 x17 x18 x19 x20) = .ok (.nx, R q x1 x2 (some (.sh (.int m))) x4 x5 x6 (sC (C.map (fN s))) (some (.ow (.lst (I (wd s W 12))))) x9 x10 x11 x12 x13 x14 x15 x16 x17 x18 x19 x20) := by
  obtain ⟨m', X', L', e, l'⟩ := least_wear_ok (inp_ren h hs)
  have := ren_most h hs l l'
  subst this
  have hne := ne_int m' m'
  rw [decide_eq_true rfl] at hne
  unfold S__law_right_9
  generalize F_least_wear = F at e ⊢
  simp only [R, sC, tN, tI] at e ⊢
  generalize I (wd s W 12) = z1 at e ⊢
  generalize tC (C.map (fN s)) = z2 at e ⊢
  generalize I (zs X') = z3 at e
  generalize I (zs L') = z4 at e
  have hat : atI [PV.int m', PV.tup z3, PV.tup z4] 0 = some (.int m') := atI_nat (j := 0) rfl
  simp [e, hat, hne]
end LW
/-! P21: one draw: fewer asks, worn more, the even choice. -/
namespace LW
open PySem PySem.Spec PyProof.Rows L2 VL HD
theorem Inp.drop {W : List Int} {C : List (List Nat)} (h : Inp W C) : Inp W (C.drop 1) :=
  ⟨h.n1, h.n2, h.hw, by rw [List.length_drop]; have := h.cl; omega, fun c hc => h.ne c (List.mem_of_mem_drop hc), fun c hc => h.asc c (List.mem_of_mem_drop hc), fun c hc => h.lt c (List.mem_of_mem_drop hc)⟩
theorem Drawn.more {W : List Int} {C : List (List Nat)} (h : Drawn W C) {d : Int} (h0 : 0 ≤ d) (h1 : d ≤ 1000) : Inp (W.map (· + d)) C :=
  ⟨by rw [List.length_map]; exact h.inp.n1, by rw [List.length_map]; exact h.inp.n2, fun w hw => by
    obtain ⟨v, hv, rfl⟩ := List.mem_map.mp hw
    have := h.ws v hv
    omega, h.inp.cl, h.inp.ne, h.inp.asc, by rw [List.length_map]; exact h.inp.lt⟩
theorem fewer_b {W : List Int} {C : List (List Nat)} {m m2 : Int} {X L X2 L2 : List Nat} (h : Drawn W C) (l : LW3 W C m X L) (l2 : LW3 W (C.drop 1) m2 X2 L2) : m - 1 ≤ m2 ∧ m2 ≤ m := by
  have a := l.least h.inp
  have b := l2.least h.inp.drop
  have hc := h.cl
  cases C with
  | nil => simp at hc
  | cons c C => exact a.fewer (h.inp.ne c List.mem_cons_self) b
theorem more_b {W : List Int} {C : List (List Nat)} {m m2 d : Int} {X L X2 L2 : List Nat} (h : Drawn W C) (h0 : 0 ≤ d) (h1 : d ≤ 1000) (l : LW3 W C m X L) (l2 : LW3 (W.map (· + d)) C m2 X2 L2) : m2 = m + d := by
  have a := l.least h.inp
  have b := l2.least (h.more h0 h1)
  rw [List.length_map] at b
  exact b.uniq (a.much d (by omega))
theorem r10 {W : List Int} {C : List (List Nat)} {m : Int} {X L : List Nat} (h : Drawn W C) (l : LW3 W C m X L) {q : List PV} (x3 x4 x5 x6 x7 x8 x9 x10 x12 x13 x14 x15 x16 x17 x18 x19 x20 : Option LV) :
    ∃ m2, (m - 1 ≤ m2 ∧ m2 ≤ m) ∧ S__law_right_10 (R q (sW W) (sC C) x3 x4 x5 x6 x7 x8 x9 x10 none x12 x13 x14 x15 x16 x17 x18 x19 x20) = .ok (.nx, R q (sW W) (sC C) x3 x4 x5 x6 x7 x8 x9 x10 (some (.sh (.int m2))) x12 x13 x14 x15 x16 x17 x18 x19 x20) := by
  obtain ⟨m', X', L', e, l'⟩ := least_wear_ok h.inp.drop
  refine ⟨m', fewer_b h l l', ?_⟩
  have hc : cutR (.tup (tC C)) (some 1) none = .ok (.tup (tC (C.drop 1))) := by
    have := cutP_from (ps := tC C) (n := 1)
    simp only [cutR]
    rw [show ((1 : Nat) : Int) = 1 from rfl] at this
    rw [this]
    unfold tC
    rw [List.map_drop]
  unfold S__law_right_10
  generalize F_least_wear = F at e ⊢
  simp only [R, sW, sC, tN, tI] at e hc ⊢
  generalize tC (C.drop 1) = z1 at e hc
  generalize tC C = z2 at hc ⊢
  generalize I W = z0 at e ⊢
  generalize I (zs X') = z3 at e
  generalize I (zs L') = z4 at e
  have hat : atI [PV.int m', PV.tup z3, PV.tup z4] 0 = some (.int m') := atI_nat (j := 0) rfl
  simp [hc, e, hat]
theorem r11 {m m2 : Int} (hm : m - 1 ≤ m2 ∧ m2 ≤ m) {q : List PV} (x1 x2 x4 x5 x6 x7 x8 x9 x10 x12 x13 x14 x15 x16 x17 x18 x19 x20 : Option LV) :
    S__law_right_11 (R q x1 x2 (some (.sh (.int m))) x4 x5 x6 x7 x8 x9 x10 (some (.sh (.int m2))) x12 x13 x14 x15 x16 x17 x18 x19 x20) = .ok (.nx, R q x1 x2 (some (.sh (.int m))) x4 x5 x6 x7 x8 x9 x10 (some (.sh (.int m2))) x12 x13 x14 x15 x16 x17 x18 x19 x20) := by
  have h1 := hm.1
  have h2 := hm.2
  unfold S__law_right_11
  simp only [R]
  simp [h1, h2]
theorem r12 {k : Nat} (hk : k ≤ 800000) {q : List PV} (hq : Pot k q) (x1 x2 x3 x4 x5 x6 x7 x8 x9 x10 x11 x13 x14 x15 x16 x17 x18 x19 x20 : Option LV) :
    ∃ d q', (0 ≤ d ∧ d ≤ 1000) ∧ Pot (k + 1) q' ∧ S__law_right_12 (R q x1 x2 x3 x4 x5 x6 x7 x8 x9 x10 x11 none x13 x14 x15 x16 x17 x18 x19 x20) = .ok (.nx, R q' x1 x2 x3 x4 x5 x6 x7 x8 x9 x10 x11 (some (.sh (.int d))) x13 x14 x15 x16 x17 x18 x19 x20) := by
  obtain ⟨d, q', e, hd, p⟩ := hT k (by omega) q hq 1000 (by omega) (by omega)
  refine ⟨d, q', by omega, p, ?_⟩
  unfold S__law_right_12
  generalize F__law_take = F at e ⊢
  simp only [R]
  simp [owA, e]
def plusV (d : Int) : PV → PV
  | .int i => .int (i + d)
  | p => p
theorem r13 {W : List Int} {C : List (List Nat)} {m d : Int} {X L : List Nat} (h : Drawn W C) (h0 : 0 ≤ d ∧ d ≤ 1000) (l : LW3 W C m X L) {q : List PV} (x4 x5 x6 x7 x8 x9 x10 x11 x13 x14 x15 x16 x17 x18 x20 : Option LV) :
    S__law_right_13 (R q (sW W) (sC C) (some (.sh (.int m))) x4 x5 x6 x7 x8 x9 x10 x11 (some (.sh (.int d))) x13 x14 x15 x16 x17 x18 none x20) = .ok (.nx, R q (sW W) (sC C) (some (.sh (.int m))) x4 x5 x6 x7 x8 x9 x10 x11 (some (.sh (.int d))) x13 x14 x15 x16 x17 x18 none x20) := by
  obtain ⟨m', X', L', e, l'⟩ := least_wear_ok (h.more h0.1 h0.2)
  have := more_b h h0.1 h0.2 l l'
  subst this
  have hwl := h.wl
  have lc := lc_map (plusV d) (I W) 19 (R q (sW W) (sC C) (some (.sh (.int m))) x4 x5 x6 x7 x8 x9 x10 x11 (some (.sh (.int d))) x13 x14 x15 x16 x17 x18 none x20) E__law_right_3 (by rw [I_len]; omega) rfl (fun p hp => by
    obtain ⟨i, hi, rfl⟩ := List.mem_map.mp hp
    unfold E__law_right_3
    simp only [R, sW, sC, tI]
    generalize I W = z1
    generalize tC C = z2
    simp [plusV])
  have hm : (I W).map (plusV d) = I (W.map (· + d)) := by
    unfold I
    rw [List.map_map, List.map_map]
    rfl
  rw [hm] at lc
  have hne := ne_int (m + d) (m + d)
  rw [decide_eq_true rfl] at hne
  unfold S__law_right_13
  generalize E__law_right_3 = Ei at lc ⊢
  generalize F_least_wear = F at e ⊢
  simp only [R, sW, sC, tN, tI] at e lc ⊢
  generalize I (W.map (· + d)) = z0 at e lc
  generalize I W = z1 at lc ⊢
  generalize tC C = z2 at e lc ⊢
  generalize I (zs X') = z3 at e
  generalize I (zs L') = z4 at e
  have hat : atI [PV.int (m + d), PV.tup z3, PV.tup z4] 0 = some (.int (m + d)) := atI_nat (j := 0) rfl
  have hi : itemsV (.tup z1) = some z1 := rfl
  simp [hi, wipeP, lc, backP, shP, e, hat, hne]
theorem r14 {W : List Int} {C : List (List Nat)} {X : List Nat} (e : F_even_choice [] [tI W, .tup (tC C)] = .ok (.sh (tN X), [])) {q : List PV} (x3 x4 x5 x6 x7 x8 x9 x10 x11 x12 x14 x15 x16 x17 x18 x19 x20 : Option LV) :
    S__law_right_14 (R q (sW W) (sC C) x3 x4 x5 x6 x7 x8 x9 x10 x11 x12 none x14 x15 x16 x17 x18 x19 x20) = .ok (.nx, R q (sW W) (sC C) x3 x4 x5 x6 x7 x8 x9 x10 x11 x12 (some (.sh (tN X))) x14 x15 x16 x17 x18 x19 x20) := by
  unfold S__law_right_14
  generalize F_even_choice = F at e ⊢
  simp only [R, sW, sC, tN, tI] at e ⊢
  generalize I W = z1 at e ⊢
  generalize tC C = z2 at e ⊢
  generalize I (zs X) = z3 at e ⊢
  simp [e]
theorem r15 {W : List Int} {C : List (List Nat)} {X : List Nat} (h : Inp W C) (hX : Ok C X) {q : List PV} (x2 x3 x4 x5 x6 x7 x8 x9 x10 x11 x12 x15 x16 x17 x18 x19 x20 : Option LV) :
    S__law_right_15 (R q (sW W) x2 x3 x4 x5 x6 x7 x8 x9 x10 x11 x12 (some (.sh (tN X))) none x15 x16 x17 x18 x19 x20) = .ok (.nx, R q (sW W) x2 x3 x4 x5 x6 x7 x8 x9 x10 x11 x12 (some (.sh (tN X))) (some (.sh (.lst (I (srtI (lds W.length W X)))))) x15 x16 x17 x18 x19 x20) := by
  have hn := h.n2
  have e := law_loads_ok (W := W) (X := X) (by omega) (hX.lt h.lt)
  have hs : sortL (.lst (I (lds W.length W X))) = .ok (I (srtI (lds W.length W X))) := sortL_I _ (by rw [lds_len]; omega)
  unfold S__law_right_15
  generalize F__law_loads = F at e ⊢
  simp only [R, sW, tN, tI] at e ⊢
  generalize I W = z1 at e ⊢
  generalize I (srtI (lds W.length W X)) = z4 at hs ⊢
  generalize I (lds W.length W X) = z5 at hs e
  generalize I (zs X) = z3 at e ⊢
  simp [e, hs]
theorem atI_last (xs : List Int) (h : xs ≠ []) : atI (I xs) (-1) = some (.int (xs.getLast h)) := by
  have hl : 0 < xs.length := List.length_pos_iff.mpr h
  unfold atI
  have : ixN (I xs).length (-1) = some (xs.length - 1) := by rw [I_len]; simp [ixN]; omega
  rw [this]
  simp only [Option.bind_some]
  unfold I
  rw [List.getElem?_map, List.getElem?_eq_getElem (by omega), List.getLast_eq_getElem]
  rfl
theorem srt_last {xs : List Int} (h : srtI xs ≠ []) (h0 : xs ≠ []) : (srtI xs).getLast h = maxL xs := by
  have hs : (srtI xs).Pairwise (· ≤ ·) := by
    have h1 := List.pairwise_mergeSort (le := fun a b : Int => decide (a ≤ b)) (fun a b c h1 h2 => by simp at *; omega) (fun a b => by simp; omega) xs
    exact h1.imp fun h => by simpa using h
  have h1 : (srtI xs).getLast h ≤ maxL xs := maxL_ge (srtI_mem.mp (List.getLast_mem h))
  have h2 : maxL xs ≤ (srtI xs).getLast h := by
    obtain ⟨i, hi, e⟩ := List.getElem_of_mem (srtI_mem.mpr (maxL_mem h0))
    rw [← e, List.getLast_eq_getElem]
    rcases Nat.lt_or_ge i ((srtI xs).length - 1) with z | z
    · exact List.pairwise_iff_getElem.mp hs _ _ _ _ z
    · have : i = (srtI xs).length - 1 := by omega
      subst this
      exact Int.le_refl _
  omega
theorem Evn.least {W : List Int} {C : List (List Nat)} {X : List Nat} (h : Inp W C) (l : Evn W C X) : Least W.length W C (maxL (lds W.length W X)) := by
  have hn1 := h.n1
  have hL0 : lds W.length W X ≠ [] := fun z => by have := congrArg List.length z; rw [lds_len, List.length_nil] at this; omega
  obtain ⟨t0, ht0, elo⟩ := lds_mem.mp (maxL_mem hL0)
  exact even_max l.ev h.lt l.ok (fun i hi => maxL_ge (lds_mem.mpr ⟨i, hi, rfl⟩)) ht0 elo
theorem r16 {W : List Int} {C : List (List Nat)} {m : Int} {X L Y : List Nat} (h : Inp W C) (l : LW3 W C m X L) (hY : Evn W C Y) {q : List PV} (x4 x5 x6 x7 x8 x9 x10 x11 x12 x15 x16 x17 x18 x19 x20 : Option LV) :
    S__law_right_16 (R q (sW W) (sC C) (some (.sh (.int m))) x4 x5 x6 x7 x8 x9 x10 x11 x12 (some (.sh (tN Y))) (some (.sh (.lst (I (srtI (lds W.length W Y)))))) x15 x16 x17 x18 x19 x20) = .ok (.nx, R q (sW W) (sC C) (some (.sh (.int m))) x4 x5 x6 x7 x8 x9 x10 x11 x12 (some (.sh (tN Y))) (some (.sh (.lst (I (srtI (lds W.length W Y)))))) x15 x16 x17 x18 x19 x20) := by
  have hn1 := h.n1
  have hL0 : lds W.length W Y ≠ [] := fun z => by have := congrArg List.length z; rw [lds_len, List.length_nil] at this; omega
  have hS0 : srtI (lds W.length W Y) ≠ [] := fun z => by have := congrArg List.length z; rw [srtI_len, lds_len, List.length_nil] at this; omega
  have ha := atI_last _ hS0
  rw [srt_last hS0 hL0, (hY.least h).uniq (l.least h)] at ha
  have e := is_even_ok h hY
  have hne := ne_int m m
  rw [decide_eq_true rfl] at hne
  unfold S__law_right_16
  generalize F_is_even = F at e ⊢
  simp only [R, sW, sC, tN, tI] at e ⊢
  generalize I W = z1 at e ⊢
  generalize tC C = z2 at e ⊢
  generalize I (zs Y) = z3 at e ⊢
  generalize I (srtI (lds W.length W Y)) = z4 at ha ⊢
  simp [ha, e, hne, isntV]
end LW
/-! P22: one draw: chains of moves from a drawn choice. -/
namespace LW
open PySem PySem.Spec PyProof.Rows L2 VL HD
theorem here_lc (x1 x2 x3 x4 x5 x6 x7 x8 x9 x10 x11 x12 x13 x14 x15 x16 x17 x19 x20 : Option LV) : ∀ (C : List (List Nat)) (acc : List PV) (k : Nat) (q : List PV), k + C.length ≤ 900000 → Pot k q → (∀ c ∈ C, c ≠ [] ∧ c.length ≤ 3) → acc.length + C.length ≤ 1000 →
    ∃ X q', dLcL [18] (gNm 18) dYes E__law_right_4 (tC C) acc (R q x1 x2 x3 x4 x5 x6 x7 x8 x9 x10 x11 x12 x13 x14 x15 x16 x17 none x19 x20) = .ok (acc ++ I (zs X), R q' x1 x2 x3 x4 x5 x6 x7 x8 x9 x10 x11 x12 x13 x14 x15 x16 x17 none x19 x20) ∧ Ok C X ∧ Pot (k + C.length) q'
  | [], acc, k, q, _, hq, _, _ => ⟨[], q, by simp [tC, dLcL, I, zs], .nil, hq⟩
  | c :: C, acc, k, q, hk, hq, hc, hl => by
    have h1 := hc c List.mem_cons_self
    have hpos : 0 < (I (zs c)).length := by
      rw [I_len, zs_len]
      cases c with
      | nil => exact absurd rfl h1.1
      | cons _ _ => simp
    obtain ⟨p, q1, e1, hm, p1⟩ := of_okT hT (k := k) (by simp at hk; omega) hq hpos (by rw [I_len, zs_len]; omega)
    have e1 : F__law_of q [.tup (I (zs c))] = .ok (.sh p, q1) := e1
    obtain ⟨i, hi, rfl⟩ := List.mem_map.mp hm
    obtain ⟨t, ht, rfl⟩ := zs_mem hi
    obtain ⟨X, q2, e2, ok, p2⟩ := here_lc x1 x2 x3 x4 x5 x6 x7 x8 x9 x10 x11 x12 x13 x14 x15 x16 x17 x19 x20 C (acc ++ [.int (t : Nat)]) (k + 1) q1 (by simp at hk; omega) p1 (fun d hd => hc d (List.mem_cons_of_mem _ hd)) (by simp at hl ⊢; omega)
    refine ⟨t :: X, q2, ?_, .cons ht ok, by rw [List.length_cons, show k + (C.length + 1) = k + 1 + C.length by omega]; exact p2⟩
    have hf : fitsL (acc.length + 1) = true := Nat.ble_eq_true_of_le (by simp at hl; omega)
    have g1 : gNm 18 (tN c) (R q x1 x2 x3 x4 x5 x6 x7 x8 x9 x10 x11 x12 x13 x14 x15 x16 x17 none x19 x20) = .ok (R q x1 x2 x3 x4 x5 x6 x7 x8 x9 x10 x11 x12 x13 x14 x15 x16 x17 (some (.sh (tN c))) x19 x20) := rfl
    have g2 : dYes (R q x1 x2 x3 x4 x5 x6 x7 x8 x9 x10 x11 x12 x13 x14 x15 x16 x17 (some (.sh (tN c))) x19 x20) = .ok (true, R q x1 x2 x3 x4 x5 x6 x7 x8 x9 x10 x11 x12 x13 x14 x15 x16 x17 (some (.sh (tN c))) x19 x20) := rfl
    have g3 : E__law_right_4 (R q x1 x2 x3 x4 x5 x6 x7 x8 x9 x10 x11 x12 x13 x14 x15 x16 x17 (some (.sh (tN c))) x19 x20) = .ok (.int (t : Nat), R q1 x1 x2 x3 x4 x5 x6 x7 x8 x9 x10 x11 x12 x13 x14 x15 x16 x17 (some (.sh (tN c))) x19 x20) := by
      unfold E__law_right_4
      generalize F__law_of = F at e1 ⊢
      simp only [R, tN, tI]
      generalize I (zs c) = z1 at e1 ⊢
      simp [owA, e1]
    have g4 : wipeP (R q1 x1 x2 x3 x4 x5 x6 x7 x8 x9 x10 x11 x12 x13 x14 x15 x16 x17 (some (.sh (tN c))) x19 x20) [18] = R q1 x1 x2 x3 x4 x5 x6 x7 x8 x9 x10 x11 x12 x13 x14 x15 x16 x17 none x19 x20 := rfl
    show dLcL [18] (gNm 18) dYes E__law_right_4 (tN c :: tC C) acc _ = _
    generalize E__law_right_4 = Ei at *
    unfold dLcL
    simp only [g1, g2, g3, g4, nox, Res.bind_ok, if_true, hf]
    rw [e2]
    simp [I, zs]
theorem r17 {C : List (List Nat)} {k : Nat} (hk : k ≤ 800000) {q : List PV} (hq : Pot k q) (hl : C.length = 20) (h : ∀ c ∈ C, c ≠ [] ∧ c.length ≤ 3) (x1 x3 x4 x5 x6 x7 x8 x9 x10 x11 x12 x13 x14 x17 x19 x20 : Option LV) :
    ∃ X q', Ok C X ∧ Pot (k + 20) q' ∧ S__law_right_17 (R q x1 (sC C) x3 x4 x5 x6 x7 x8 x9 x10 x11 x12 x13 x14 none none x17 none x19 x20) = .ok (.nx, R q' x1 (sC C) x3 x4 x5 x6 x7 x8 x9 x10 x11 x12 x13 x14 (some (.sh (tN X))) (some (.sh (.int 0))) x17 none x19 x20) := by
  obtain ⟨X, q', lc, ok, p⟩ := here_lc x1 (sC C) x3 x4 x5 x6 x7 x8 x9 x10 x11 x12 x13 x14 none none x17 x19 x20 C [] k q (by omega) hq h (by simp; omega)
  rw [hl] at p
  refine ⟨X, q', ok, p, ?_⟩
  rw [List.nil_append] at lc
  unfold S__law_right_17
  generalize E__law_right_4 = Ei at lc ⊢
  simp only [R, sC, tN, tI] at lc ⊢
  generalize I (zs X) = z1 at lc ⊢
  generalize tC C = z2 at lc ⊢
  have hi : itemsV (.tup z2) = some z2 := rfl
  simp [hi, wipeP, lc, backP, shP]
theorem r18 {W : List Int} {C : List (List Nat)} {X : List Nat} {p : PV} (h : Inp W C) (hX : Ok C X) (t : Told W C X p) {q : List PV} (x3 x4 x5 x6 x7 x8 x9 x10 x11 x12 x13 x14 x16 x17 x18 x19 x20 : Option LV) :
    S__law_right_18 (R q (sW W) (sC C) x3 x4 x5 x6 x7 x8 x9 x10 x11 x12 x13 x14 (some (.sh (tN X))) x16 x17 x18 x19 x20) = .ok (.nx, R q (sW W) (sC C) x3 x4 x5 x6 x7 x8 x9 x10 x11 x12 x13 x14 (some (.sh (tN X))) x16 (some (.sh p)) x18 x19 x20) := by
  have e := chain_ok h hX t
  unfold S__law_right_18
  generalize F_chain = F at e ⊢
  simp only [R, sW, sC, tN, tI] at e ⊢
  generalize I W = z0 at e ⊢
  generalize I (zs X) = z1 at e ⊢
  generalize tC C = z2 at e ⊢
  simp [e]
def cD : PV → Bool
  | .tup [.int a, .int b] => !(decide (a = b))
  | _ => false
theorem dif_one : ∀ (X Y : List Nat), X.length = Y.length → X ≠ Y → 1 ≤ ((zipL (I (zs X)) (I (zs Y))).filter cD).length
  | [], [], _, h => absurd rfl h
  | [], _ :: _, h, _ => by simp at h
  | _ :: _, [], h, _ => by simp at h
  | x :: X, y :: Y, hl, h => by
    have e : zipL (I (zs (x :: X))) (I (zs (y :: Y))) = .tup [.int (x : Nat), .int (y : Nat)] :: zipL (I (zs X)) (I (zs Y)) := rfl
    have hcd : cD (.tup [.int (x : Nat), .int (y : Nat)]) = !(decide ((x : Int) = (y : Int))) := rfl
    rw [e, List.filter_cons, hcd]
    by_cases hxy : x = y
    · subst hxy
      have := dif_one X Y (by simpa using hl) fun z => h (by rw [z])
      simpa using this
    · have : (!(decide ((x : Int) = (y : Int)))) = true := by simp; omega
      rw [this, if_pos rfl]
      simp
theorem Step.ne {n : Nat} {W : List Int} {C : List (List Nat)} {X X' : List Nat} (h : Step n W C X X') : X ≠ X' := fun z => by
  subst z
  have := h.ph
  omega
theorem ph_800 {W : List Int} {C : List (List Nat)} {X : List Nat} (h : Drawn W C) (hX : Ok C X) : Ph 12 (lo W X) ≤ 800 := by
  have hlt := hX.lt h.inp.lt
  rw [h.wl] at hlt
  have hs := ct_sum (n := 12) (fun _ => true) hlt
  simp only [if_true] at hs
  have hlen := hX.len
  rw [h.cl] at hlen
  have hcp : X.countP (fun _ => true) = X.length := by simp
  rw [hcp, hlen] at hs
  exact Ph_bound (w := fun i => W.getD i 0) (c := fun i => ((X.count i : Nat) : Int)) (fun i hi => by
    have hi' : i < W.length := by rw [h.wl]; exact hi
    have := h.ws (W.getD i 0) (by rw [List.getD_eq_getElem?_getD, List.getElem?_eq_getElem hi']; exact List.getElem_mem _)
    exact this) (fun i _ => by omega) hs
theorem zip_memI {A B : List Int} {p : PV} (h : p ∈ zipL (I A) (I B)) : ∃ a b, p = .tup [.int a, .int b] := by
  obtain ⟨a, b, e, _⟩ := zip_mem h
  exact ⟨a, b, e⟩
abbrev RW (q : List PV) (W : List Int) (C : List (List Nat)) (x3 x4 x5 x6 x7 x8 x9 x10 x11 x12 x13 x14 : Option LV) (X : List Nat) (n : Int) (p : PV) : PSt := R q (sW W) (sC C) x3 x4 x5 x6 x7 x8 x9 x10 x11 x12 x13 x14 (some (.sh (tN X))) (some (.sh (.int n))) (some (.sh p)) none none none
theorem w_turn {W : List Int} {C : List (List Nat)} {X X' : List Nat} {p' : PV} (h : Drawn W C) (hX : Ok C X) (st : Step W.length W C X X') (t : Told W C X' p') {q : List PV} (x3 x4 x5 x6 x7 x8 x9 x10 x11 x12 x13 x14 : Option LV) (n : Int) :
    W__law_right_0 (RW q W C x3 x4 x5 x6 x7 x8 x9 x10 x11 x12 x13 x14 X n (tN X')) = .ok (.nx, RW q W C x3 x4 x5 x6 x7 x8 x9 x10 x11 x12 x13 x14 X' (n + 1) p') := by
  have hl1 := hX.len
  have hl2 := st.ok.len
  have hcl := h.cl
  have hz := zipL_len (I (zs X)) (I (zs X'))
  rw [I_len, zs_len] at hz
  have hd := dif_one X X' (by omega) st.ne
  have lc := lc_filter (vs := [19, 20]) (g := gTp 2 (gCs (gNm 19) (gCs (gNm 20) gNl))) (t := T__law_right_0) (e := E__law_right_5) cD (fun _ => PV.int 1) (RW q W C x3 x4 x5 x6 x7 x8 x9 x10 x11 x12 x13 x14 X n (tN X')) (zipL (I (zs X)) (I (zs X'))) [] (by simp; omega) (fun p hp => by
    obtain ⟨a, b, rfl⟩ := zip_memI hp
    refine ⟨R q (sW W) (sC C) x3 x4 x5 x6 x7 x8 x9 x10 x11 x12 x13 x14 (some (.sh (tN X))) (some (.sh (.int n))) (some (.sh (tN X'))) none (some (.sh (.int a))) (some (.sh (.int b))), R q (sW W) (sC C) x3 x4 x5 x6 x7 x8 x9 x10 x11 x12 x13 x14 (some (.sh (tN X))) (some (.sh (.int n))) (some (.sh (tN X'))) none (some (.sh (.int a))) (some (.sh (.int b))), rfl, ?_, fun _ => ⟨_, rfl, rfl⟩, fun _ => rfl⟩
    have hne := ne_int a b
    unfold T__law_right_0
    simp only [R]
    generalize tN X = z1
    generalize tN X' = z2
    simp [hne, cD])
  rw [List.nil_append] at lc
  have e := chain_ok h.inp st.ok t
  generalize hfl : (zipL (I (zs X)) (I (zs X'))).filter cD = fl at lc hd
  have hml : ¬ ((fl.map fun _ => PV.int 1).length : Int) < 1 := by rw [List.length_map]; omega
  unfold W__law_right_0
  generalize T__law_right_0 = Ti at lc ⊢
  generalize E__law_right_5 = Ei at lc ⊢
  generalize F_chain = F at e ⊢
  simp only [RW, R, sW, sC, tN, tI] at lc e ⊢
  generalize I W = w0 at lc e ⊢
  generalize I (zs X) = z1 at lc ⊢
  generalize I (zs X') = z2 at lc e ⊢
  generalize tC C = c0 at lc e ⊢
  have hi : itemsV (.tup z1) = some z1 := rfl
  have hi2 : itemsV (.tup z2) = some z2 := rfl
  generalize hzz : zipL z1 z2 = z at lc
  generalize (fl.map fun _ => PV.int 1) = ml at lc hml
  have hml2 : (decide ((ml.length : Int) < 1)) = false := decide_eq_false hml
  simp [hi, hi2, hzz, wipeP, lc, backP, shP, hml2, e]
theorem w_whl {W : List Int} {C : List (List Nat)} (h : Drawn W C) {q : List PV} (x3 x4 x5 x6 x7 x8 x9 x10 x11 x12 x13 x14 : Option LV) : ∀ (k : Nat) (X : List Nat) (p : PV) (f : Nat) (n : Nat), Ok C X → Told W C X p → Ph 12 (lo W X) + 4 * n ≤ 800 → Ph 12 (lo W X) ≤ 4 * k + 3 → k + 1 ≤ f →
    ∃ (Y : List Nat) (n' : Nat), dWhl WT__law_right_0 W__law_right_0 f (RW q W C x3 x4 x5 x6 x7 x8 x9 x10 x11 x12 x13 x14 X n p) = .ok (.nx, RW q W C x3 x4 x5 x6 x7 x8 x9 x10 x11 x12 x13 x14 Y n' .non) ∧ Ok C Y ∧ Told W C Y .non := by
  intro k
  induction k with
  | zero =>
    intro X p f n hX hT hn hk hf
    cases f with
    | zero => omega
    | succ f =>
      obtain ⟨e, ⟨rfl, ev⟩ | ⟨X', rfl, st⟩⟩ := hT
      · exact ⟨X, n, whl_f (by simp [WT__law_right_0, RW, R, isntV, VL.isNon]), hX, e, .inl ⟨rfl, ev⟩⟩
      · have := st.ph
        have := Ph_nn W.length (lo W X')
        rw [h.wl] at *
        omega
  | succ k ih =>
    intro X p f n hX hT hn hk hf
    cases f with
    | zero => omega
    | succ f =>
      obtain ⟨e, ⟨rfl, ev⟩ | ⟨X', rfl, st⟩⟩ := hT
      · exact ⟨X, n, whl_f (by simp [WT__law_right_0, RW, R, isntV, VL.isNon]), hX, e, .inl ⟨rfl, ev⟩⟩
      · obtain ⟨p', hT'⟩ := told h.inp st.ok
        have h1 := st.ph
        have h2 := Ph_nn W.length (lo W X')
        have ht := w_turn h hX st hT' (q := q) x3 x4 x5 x6 x7 x8 x9 x10 x11 x12 x13 x14 n
        rw [h.wl] at h1 h2
        obtain ⟨Y, n', e2, hY⟩ := ih X' p' f (n + 1) st.ok hT' (by omega) (by omega) (by omega)
        refine ⟨Y, n', ?_, hY⟩
        rw [← e2]
        refine whl_t (s1 := RW q W C x3 x4 x5 x6 x7 x8 x9 x10 x11 x12 x13 x14 X n (tN X')) ?_ ht
        have hn2 : ((n : Nat) : Int) < 200 := by omega
        simp only [RW, R, tN, tI]
        generalize I (zs X) = z1
        generalize I (zs X') = z2
        simp [WT__law_right_0, isntV, VL.isNon]
        omega
end LW
/-! P23: one draw; the law. -/
namespace LW
open PySem PySem.Spec PyProof.Rows L2 VL HD
theorem eqD_self {p : PV} (h : okD p = true) : eqV' p p = .ok (.bl true) := by
  unfold eqV'
  rw [h, eqB_refl (okD_d h).1]; rfl
theorem r19 {W : List Int} {C : List (List Nat)} (h : Drawn W C) {X : List Nat} {p : PV} (hX : Ok C X) (t : Told W C X p) {q : List PV} (x3 x4 x5 x6 x7 x8 x9 x10 x11 x12 x13 x14 : Option LV) :
    ∃ (Y : List Nat) (n : Nat), Ok C Y ∧ Told W C Y .non ∧ S__law_right_19 (RW q W C x3 x4 x5 x6 x7 x8 x9 x10 x11 x12 x13 x14 X (0 : Nat) p) = .ok (.nx, RW q W C x3 x4 x5 x6 x7 x8 x9 x10 x11 x12 x13 x14 Y n .non) := by
  have hp := ph_800 h hX
  obtain ⟨Y, n, e, h1, h2⟩ := w_whl h (q := q) x3 x4 x5 x6 x7 x8 x9 x10 x11 x12 x13 x14 200 X p 4611686018427387904 0 hX t (by omega) (by omega) (by omega)
  exact ⟨Y, n, h1, h2, e⟩
theorem r20 {W : List Int} {C : List (List Nat)} (h : Drawn W C) {Y Z : List Nat} (hY : Ok C Y) (t : Told W C Y .non) (hZ : Evn W C Z) (n : Int) {q : List PV} (x3 x4 x5 x6 x7 x8 x9 x10 x11 x12 x13 : Option LV) :
    ∃ s', S__law_right_20 (RW q W C x3 x4 x5 x6 x7 x8 x9 x10 x11 x12 x13 (some (.sh (.lst (I (srtI (lds W.length W Z)))))) Y n .non) = .ok (.rt (.bl true), s') ∧ s'.head? = some (some (.po (.lst q))) := by
  have hn := h.inp.n2
  have hcl := h.cl
  have hlen := hY.len
  have hev : Even W.length W C Y := by
    rcases t.2 with ⟨_, e⟩ | ⟨_, e, _⟩
    · exact e
    · exact absurd e (by simp)
  have e := law_loads_ok (W := W) (X := Y) (by omega) (hY.lt h.inp.lt)
  have hs : sortL (.lst (I (lds W.length W Y))) = .ok (I (srtI (lds W.length W Y))) := sortL_I _ (by rw [lds_len]; omega)
  rw [srt_even h.inp.lt hY hev hZ.ok hZ.ev] at hs
  have hlz := hZ.ok.len
  have ok : okD (.lst (I (srtI (lds W.length W Z)))) = true := by
    refine Vok.okD (m := 1000) (d := 1) (.lst (by rw [I_len, srtI_len, lds_len]; omega) fun p hp => ?_) (by omega)
    obtain ⟨i, hi, rfl⟩ := List.mem_map.mp hp
    obtain ⟨t, ht, rfl⟩ := lds_mem.mp (srtI_mem.mp hi)
    have := lo_bound h.inp (Y := Z) (by omega) ht
    exact vi (by omega) (by omega)
  have heq := eqD_self ok
  refine ⟨RW q W C x3 x4 x5 x6 x7 x8 x9 x10 x11 x12 x13 (some (.sh (.lst (I (srtI (lds W.length W Z)))))) Y n .non, ?_, rfl⟩
  unfold S__law_right_20
  generalize F__law_loads = F at e ⊢
  simp only [RW, R, sW, sC, tN, tI] at e ⊢
  generalize I W = w0 at e ⊢
  generalize I (srtI (lds W.length W Z)) = z1 at hs heq ⊢
  generalize I (lds W.length W Y) = z2 at hs e
  generalize I (zs Y) = z3 at e ⊢
  simp [isV, VL.isNon, e, hs, heq]
theorem right_ok {k : Nat} (hk : k ≤ 600000) {q : List PV} (hq : Pot k q) : ∃ q', F__law_right q [] = .ok (.sh (.bl true), q') ∧ Pot (k + 157) q' := by
  obtain ⟨W, C, q1, e0, h, p1⟩ := drawn_ok (k := k) (by omega) hq
  obtain ⟨m, X, L, e1, l⟩ := least_wear_ok h.inp
  obtain ⟨s, q2, hs, p2, e5⟩ := r5 (k := k + 124) (by omega) p1 (sW W) (sC C) (some (.sh (.int m))) (some (.sh (tN X))) (some (.sh (tN L))) none none none none none none none none none none none none none none
  obtain ⟨x9, x10, e8⟩ := r8 (q := q2) (s := s) h.wl hs (sC C) (some (.sh (.int m))) (some (.sh (tN X))) (some (.sh (tN L))) (sC (C.map (fN s))) none none none none none none none none none none
  obtain ⟨m2, hm2, e10⟩ := r10 h l (q := q2) (some (.sh (.int m))) (some (.sh (tN X))) (some (.sh (tN L))) (some (.sh (.lst (I (zs s))))) (sC (C.map (fN s))) (some (.ow (.lst (I (wd s W 12))))) x9 x10 none none none none none none none none none
  obtain ⟨d, q3, hd, p3, e12⟩ := r12 (k := k + 124 + 12) (by omega) p2 (sW W) (sC C) (some (.sh (.int m))) (some (.sh (tN X))) (some (.sh (tN L))) (some (.sh (.lst (I (zs s))))) (sC (C.map (fN s))) (some (.ow (.lst (I (wd s W 12))))) x9 x10 (some (.sh (.int m2))) none none none none none none none none
  obtain ⟨Z, e14, hZ⟩ := even_choice_ok h.inp
  obtain ⟨H, q4, hH, p4, e17⟩ := r17 (k := k + 124 + 12 + 1) (by omega) p3 h.cl (fun c hc => ⟨h.inp.ne c hc, h.c3 c hc⟩) (sW W) (some (.sh (.int m))) (some (.sh (tN X))) (some (.sh (tN L))) (some (.sh (.lst (I (zs s))))) (sC (C.map (fN s))) (some (.ow (.lst (I (wd s W 12))))) x9 x10 (some (.sh (.int m2))) (some (.sh (.int d))) (some (.sh (tN Z))) (some (.sh (.lst (I (srtI (lds W.length W Z)))))) none none none
  obtain ⟨p, hp⟩ := told h.inp hH
  obtain ⟨Y, n, hY, tY, e19⟩ := r19 h hH hp (q := q4) (some (.sh (.int m))) (some (.sh (tN X))) (some (.sh (tN L))) (some (.sh (.lst (I (zs s))))) (sC (C.map (fN s))) (some (.ow (.lst (I (wd s W 12))))) x9 x10 (some (.sh (.int m2))) (some (.sh (.int d))) (some (.sh (tN Z))) (some (.sh (.lst (I (srtI (lds W.length W Z))))))
  obtain ⟨s', e20, hs'⟩ := r20 h hY tY hZ n (q := q4) (some (.sh (.int m))) (some (.sh (tN X))) (some (.sh (tN L))) (some (.sh (.lst (I (zs s))))) (sC (C.map (fN s))) (some (.ow (.lst (I (wd s W 12))))) x9 x10 (some (.sh (.int m2))) (some (.sh (.int d))) (some (.sh (tN Z)))
  refine ⟨q4, ?_, p4⟩
  obtain ⟨t', rfl⟩ : ∃ t', s' = some (.po (.lst q4)) :: t' := by
    cases s' with
    | nil => simp at hs'
    | cons a t => simp at hs'; subst hs'; exact ⟨t, rfl⟩
  refine fn_io (s' := some (.po (.lst q4)) :: t') ?_ rfl
  refine seq_nx (r0 e0) ?_
  refine seq_nx (r1 e1 _ _ _ _ _ _ _ _ _ _ _ _ _ _ _) ?_
  refine seq_nx (r2 h.inp l _ _ _ _ _ _ _ _ _ _ _ _ _) ?_
  refine seq_nx (r3 h l _ _ _ _ _ _ _ _ _ _ _ _ _ _ _) ?_
  refine seq_nx (r4 h l _ _ _ _ _ _ _ _ _ _ _ _ _ _ _) ?_
  refine seq_nx e5 ?_
  refine seq_nx (r6 h hs _ _ _ _ none _ _ _ _ _ _ _ _ _ _ _) ?_
  refine seq_nx (r7 s W _ _ _ _ _ _ _ _ _ _ _ _ _ _ _ _ _ _ _) ?_
  refine seq_nx e8 ?_
  refine seq_nx (r9 h hs l _ _ _ _ _ _ _ _ _ _ _ _ _ _ _ _ _) ?_
  refine seq_nx e10 ?_
  refine seq_nx (r11 hm2 _ _ _ _ _ _ _ _ _ _ _ _ _ _ _ _ _ _) ?_
  refine seq_nx e12 ?_
  refine seq_nx (r13 h hd l _ _ _ _ _ _ _ _ _ _ _ _ _ _ _) ?_
  refine seq_nx (r14 e14 _ _ _ _ _ _ _ _ _ _ _ _ _ _ _ _ _) ?_
  refine seq_nx (r15 h.inp hZ.ok _ _ _ _ _ _ _ _ _ _ _ _ _ _ _ _ _) ?_
  refine seq_nx (r16 h.inp l hZ _ _ _ _ _ _ _ _ _ _ _ _ _ _ _) ?_
  refine seq_nx e17 ?_
  refine seq_nx (r18 h.inp hH hp _ _ _ _ _ _ _ _ _ _ _ _ _ _ _ _ _) ?_
  refine seq_nx e19 ?_
  exact e20
theorem g_lw : F_least_wear [] [.tup [.int 5], .tup (List.replicate 20 (.tup [.int 0]))] = .ok (.sh (.tup [.int 25, .tup (List.replicate 20 (.int 0)), .tup (rangeL 0 20)]), []) := by kernel_rfl
theorem g_rp : ((reprV (.tup [.int 25, .tup (List.replicate 20 (.int 0)), .tup (rangeL 0 20)])).bind fun r => eqV' r r) = .ok (.bl true) := by kernel_rfl
theorem g_m1 : mulV (.tup [.tup [.int 0]]) (.int 20) = .ok (.tup (List.replicate 20 (.tup [.int 0]))) := by kernel_rfl
theorem g_m2 : mulV (.tup [.int 0]) (.int 20) = .ok (.tup (List.replicate 20 (.int 0))) := by kernel_rfl
theorem f_law (ns : List Int) : F_law [] [.lst (ns.map PV.int)] = .ok (.sh (.bl true), []) := by
  obtain ⟨m, hm, hpl⟩ := places_ok (ps := ns.map PV.int) (m := 3) (by omega) (by omega)
  have hpl' : F__law_places [] [.lst (ns.map PV.int), .int 3] = .ok (.sh (.lst (rangeL 0 m)), []) := hpl
  have hpot : ∀ p : Nat, p ≤ 1000 → ∃ q, F__law_pot [] [.lst (ns.map PV.int), .int (p : Nat)] = .ok (.ow (.lst q), []) ∧ Pot 0 q := fun p hp =>
    pot_ok (k1 := 10345) (k2 := 493) (k3 := 98211) (k4 := 14871) (k5 := 900) (m1 := 2305843009213693951) (m2 := 2305843009213693921) (m3 := 1000003) ⟨by decide, by decide, by decide, by decide, by decide, by decide⟩ ns hp
  generalize hsc : (PV.lst (ns.map PV.int)) = sc at *
  obtain ⟨s1, hloop, l1, l2, es⟩ := forL_inv (g := gNm 1) (body := B_law_0) (rangeL 0 m)
    (fun _ s => ∃ l1 l2, s = [some (.sh sc), l1, l2, none]) [some (.sh sc), none, none, none] ⟨_, _, rfl⟩ (fun j hj s ⟨l1, l2, es⟩ => by
      subst es
      rw [rangeL_len] at hj
      rw [rangeL_get, Int.zero_add]
      obtain ⟨q, e1, hq⟩ := hpot j (by omega)
      obtain ⟨rs, s', e2, hl, hP, hI⟩ := lc_inv (vs := [3]) (g := gNm 3) (t := dYes) (e := E_law_0) (fun j' s => ∃ q, Pot (157 * j') q ∧ s = [some (.sh sc), some (.sh (.int (j : Nat))), some (.ow (.lst q)), none]) (fun r => r = .bl true) (rangeL 0 2) [some (.sh sc), some (.sh (.int (j : Nat))), some (.ow (.lst q)), none] ⟨q, by simpa using hq, rfl⟩ (by rw [rangeL_len]; omega) (fun i hi s ⟨q, hq, es⟩ => by
        subst es
        rw [rangeL_len] at hi
        rw [rangeL_get]
        obtain ⟨q', e3, hq'⟩ := right_ok (show 157 * i ≤ 600000 by omega) hq
        refine ⟨[some (.sh sc), some (.sh (.int (j : Nat))), some (.ow (.lst q)), some (.sh (.int (0 + (i : Nat))))], [some (.sh sc), some (.sh (.int (j : Nat))), some (.ow (.lst q)), some (.sh (.int (0 + (i : Nat))))], [some (.sh sc), some (.sh (.int (j : Nat))), some (.ow (.lst q')), some (.sh (.int (0 + (i : Nat))))], .bl true, rfl, rfl, ?_, rfl, q', by rw [show 157 * (i + 1) = 157 * i + 157 by omega]; exact hq', rfl⟩
        unfold E_law_0
        generalize F__law_right = FR at e3 ⊢
        simp [owA, e3])
      obtain ⟨q', hq', rfl⟩ := hI
      have hall := allT hP
      refine ⟨[some (.sh sc), some (.sh (.int (j : Nat))), l2, none], [some (.sh sc), some (.sh (.int (j : Nat))), some (.ow (.lst q')), none], rfl, ?_, _, _, rfl⟩
      unfold B_law_0
      generalize F__law_pot = FP at e1 ⊢
      generalize E_law_0 = de at e2 ⊢
      have r2 : rOk 2 = true := rOk_of (by omega) (by omega)
      simp [e1, r2, wipeP, e2, backP, shP, hall])
  subst es
  refine fn_rt (s' := [some (.sh sc), l1, l2, none]) ?_
  refine seq_nx (s' := [some (.sh sc), l1, l2, none]) (by
    unfold S_law_0
    generalize B_law_0 = bd at hloop ⊢
    generalize F__law_places = FP at hpl' ⊢
    simp [startP, hpl', hloop]) ?_
  have a1 := g_lw
  have a2 := g_rp
  have a3 := g_m1
  have a4 := g_m2
  have r20 : rOk 20 = true := rOk_of (by omega) (by omega)
  show S_law_1 _ = _
  unfold S_law_1
  generalize F_least_wear = Fa at *
  generalize List.replicate 20 (PV.tup [PV.int 0]) = T1 at *
  generalize List.replicate 20 (PV.int 0) = T2 at *
  generalize hT3 : rangeL 0 20 = T3 at *
  cases hr : reprV (.tup [.int 25, .tup T2, .tup T3]) with
  | ok r =>
    rw [hr] at a2
    have a2 : eqV' r r = .ok (.bl true) := a2
    simp [a1, a3, a4, hT3, hr, a2, r20, fitN_of]
  | bad => rw [hr] at a2; cases a2
  | exc e => rw [hr] at a2; cases a2
theorem holds_plain (ns : List Int) (h : ns.length ≤ 63) (hb : ∀ z ∈ ns, Builtin.Int.intBits z ≤ 1048576) : F_law [] [.lst (ns.map VL.PV.int)] = .ok (.sh (.bl true), []) := f_law ns
end LW
set_option Elab.async false
set_option linter.all false
set_option maxRecDepth 100000
set_option maxHeartbeats 0
open PySem PySem.W PySem.Calls PyProof.Rows
theorem LW.law_end (plain : ∀ ns : List Int, ns.length ≤ 63 → (∀ z ∈ ns, Builtin.Int.intBits z ≤ 1048576) → LW.F_law [] [.lst (ns.map VL.PV.int)] = .ok (.sh (.bl true), [])) : PySem.Challenge.rw_mountedintime_k62_whole_wear_at_sizes.Holds := by
  w_on; o_law
  refine HandSHeadRun.head_any (r := OpenLaw.row PySem.Challenge.rw_mountedintime_k62_whole_wear_at_sizes) (q := view (OpenLaw.row PySem.Challenge.rw_mountedintime_k62_whole_wear_at_sizes).prog [43]) (H := HD.hk) (ob := HD.ob) (M := 4000) (loose := HD.loose) (d := HandSHeadRun.topDef (OpenLaw.row PySem.Challenge.rw_mountedintime_k62_whole_wear_at_sizes).prog 43) (kwd := []) HD.ob_eq
    (by kernel_rfl) (fun s => by kernel_rfl) HD.run (by kernel_rfl) (by kernel_rfl) (by kernel_rfl) (by rfl) (by first | assumption | decide +kernel) (by decide +kernel) ⟨rfl, rfl, rfl, rfl, rfl, by decide +kernel⟩ ?hw ?hc
  case hw => w_witness2
  case hc =>
    refine VL.walk_V (l := PySem.Challenge.rw_mountedintime_k62_whole_wear_at_sizes) (n := 63) (k := 10) (x := "script") rfl (by decide) (by kernel_rfl) ⟨rfl, by decide, by decide⟩ ?F
    intro w mg fa h Y G hmg0
    obtain ⟨K, KX, c⟩ := Y
    have hmg : mg ("law" : PySem.Str) = some (.ref fa) := by
      have e : (HandSHeadRun.topDef (OpenLaw.row PySem.Challenge.rw_mountedintime_k62_whole_wear_at_sizes).prog 43).name = ("law" : PySem.Str) := by kernel_rfl
      rw [← e]
      exact hmg0
    have ek : VL.ErrsK HD.errs HD.sub K := VL.errsB_ok (VL.and2 c.more).1
    have ND : VL.tabsNe HD.tf K = true := (VL.and2 c.more).2
    have E0 : VL.HE HD.fa HD.fn K mg h := ⟨c.t.d, KX, G⟩
    obtain ⟨fd, F⟩ := c.t.d.def_ 30 (d := HD.d_law) rfl
    have e := hmg.symm.trans (E0.glo 30 rfl)
    cases e
    have b := L2.FunD.bindsA (ps := ["script"]) F fun _ _ _ _ _ _ us hl => match us, hl with | [_], _ => rfl
    refine ⟨K, KX, fd, HD.tf.map (He.cT K), ([] : List (Addr × PySem.Str)), LW.F_law, fun p hp => ?_, fun p hp => ?_, fun p hp => ?_, fun q hq => ?_, fun s v => b s [v] rfl, plain, fun base hK hns TB => ?_⟩
    · obtain ⟨r, hr, e⟩ := List.mem_map.mp hp
      rw [← e]; exact c.empty r hr
    · obtain ⟨r, hr, e⟩ := List.mem_map.mp hp
      rw [← e]; exact c.out r hr
    · obtain ⟨r, hr, e⟩ := List.mem_map.mp hp
      rw [← e]; exact PySem.W.codeHd_of_K KX (c.hd r hr)
    · exact absurd hq List.not_mem_nil
    · have E : VL.HE HD.fa HD.fn K mg base := ⟨c.t.d, hK, hns⟩
      exact LW.fn_law (P := PySem.Challenge.rw_mountedintime_k62_whole_wear_at_sizes.prog) (w := w) E (LW.errAll E ek) (VL.cNo mg) [] F
set_option maxHeartbeats 0
theorem PySem.Challenge.cw_mountedintime_k62_whole_wear_at_sizes_holds : PySem.Challenge.rw_mountedintime_k62_whole_wear_at_sizes.Holds := by
  exact LW.law_end fun ns h hb => LW.holds_plain ns h hb
